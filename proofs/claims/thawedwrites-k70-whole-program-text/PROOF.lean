import PyProof.Rows.All
import Wide.All
import OpenK.AllK
import Wide.FinOn
import KE.KStateDown
import Lean
import HandS.ForMost
import HandS.StrMore
import HandS.Zip
import HandS.Walk
import HandS.Star
import KE.GoesEnum
import KE.GoesZip
import PyProof.RulesMatch
import PyProof.ReprRoads
import HandS.IsInst
import HandS.Defaults
import HandS.TupAny
import HandS.Flow
import HandS.HeadHook4
import HandS.HeadNt
import PySem.Challenge.RW_thawedwrites_k70_whole_program_text
import HandS.Steps
import HandS.Codes
import HandS.OwnEq
import HandS.MakeKw
import HandS.Text
import HandS.RaiseMore
import HandS.MakeKwOnly
import HandS.Dict
import HandS.WordsDict
import PyProof.Rows.RegFStrParts
import HandS.Head0
import HandS.Head1
import HandS.Head2
import HandS.HeadEnd
import HandS.HeadHook1
import HandS.HeadHook2
import HandS.HeadHook3
set_option Elab.async false
set_option maxRecDepth 100000
set_option maxHeartbeats 4000000
/-! A0: rows as plain data, the abstract heap of data, the texts of rows. -/
namespace Tw
open PySem PySem.Spec L2

/-! ### rows -/
inductive Atom where
  | s (x : Str) | n (k : Nat)
inductive Row where
  | leaf (w : Str) (ps : List Atom)
  | node (w : Str) (vs : List Str) (a b : List Row)
def Atom.d : Atom → PyData
  | .s x => .str x
  | .n k => .int k
def Atom.v : Atom → V
  | .s x => .str x
  | .n k => .int k
mutual
def dR : Row → PyData
  | .leaf w ps => .tuple (.str w :: ps.map Atom.d)
  | .node w vs a b => .tuple (.str w :: (vs.map PyData.str ++ [.list (dL a), .list (dL b)]))
def dL : List Row → List PyData
  | [] => []
  | r :: rs => dR r :: dL rs
end
theorem dL_map : ∀ l : List Row, dL l = l.map dR
  | [] => rfl
  | r :: rs => by rw [dL, dL_map rs, List.map_cons]
theorem dL_append (a b : List Row) : dL (a ++ b) = dL a ++ dL b := by rw [dL_map, dL_map, dL_map, List.map_append]
theorem dL_length (a : List Row) : (dL a).length = a.length := by rw [dL_map, List.length_map]

/-! ### the heap of data -/
theorem sqL_same {K : PySem.W.Frag} {H H' : Hp} {a : Addr} {xs : List V} (e : Same H H') (h : SqL K H a xs) : SqL K H' a xs := e.seq h
theorem sqT_same {K : PySem.W.Frag} {H H' : Hp} {a : Addr} {xs : List V} (e : Same H H') (h : SqT K H a xs) : SqT K H' a xs := by
  rcases h with (h | ⟨o, h⟩) | h
  · exact .inl (.inl (e _ _ h))
  · exact .inl (.inr ⟨o, e _ _ h⟩)
  · exact .inr h
/-- lists and tuples that stand in G stand in G' -/
def Keeps (K : PySem.W.Frag) (G G' : Hp) : Prop := (∀ a xs, SqL K G a xs → SqL K G' a xs) ∧ ∀ a xs, SqT K G a xs → SqT K G' a xs
theorem Keeps.of_same {K : PySem.W.Frag} {G G' : Hp} (e : Same G G') : Keeps K G G' := ⟨fun _ _ h => sqL_same e h, fun _ _ h => sqT_same e h⟩
mutual
theorem dp_keeps {K : PySem.W.Frag} {G G' : Hp} (e : Keeps K G G') : ∀ (d : PyData) (v : V), Dp K G v d → Dp K G' v d
  | .none, _, h => by cases h; exact .non
  | .bool b, _, h => by cases h; exact .bl b
  | .int i, _, h => by cases h; exact .int i
  | .str x, _, h => by cases h; exact .str x
  | .list ds, _, h => by
    cases h with
    | lst hs ha => exact .lst (e.1 _ _ hs) (dpAll_keeps e ds _ ha)
  | .tuple ds, _, h => by
    cases h with
    | tup hs ha => exact .tup (e.2 _ _ hs) (dpAll_keeps e ds _ ha)
  | .dict _, _, h => by cases h
theorem dpAll_keeps {K : PySem.W.Frag} {G G' : Hp} (e : Keeps K G G') : ∀ (ds : List PyData) (vs : List V), DpAll K G vs ds → DpAll K G' vs ds
  | [], _, h => by cases h; exact .nil
  | d :: ds, _, h => by
    cases h with
    | cons h1 h2 => exact .cons (dp_keeps e d _ h1) (dpAll_keeps e ds _ h2)
end
theorem dp_same {K : PySem.W.Frag} {G G' : Hp} {d : PyData} {v : V} (e : Same G G') (h : Dp K G v d) : Dp K G' v d := dp_keeps (.of_same e) d v h
theorem dpAll_same {K : PySem.W.Frag} {G G' : Hp} {ds : List PyData} {vs : List V} (e : Same G G') (h : DpAll K G vs ds) : DpAll K G' vs ds := dpAll_keeps (.of_same e) ds vs h
theorem dA_len {K : PySem.W.Frag} {G : Hp} : ∀ {ds : List PyData} {vs : List V}, DpAll K G vs ds → vs.length = ds.length
  | [], _, h => by cases h; rfl
  | d :: ds, _, h => by
    cases h with
    | cons h1 h2 => rw [List.length_cons, List.length_cons, dA_len h2]
theorem dA_app {K : PySem.W.Frag} {G : Hp} {es : List PyData} {ws : List V} (h' : DpAll K G ws es) : ∀ {ds : List PyData} {vs : List V}, DpAll K G vs ds → DpAll K G (vs ++ ws) (ds ++ es)
  | [], _, h => by cases h; exact h'
  | d :: ds, _, h => by
    cases h with
    | cons h1 h2 => exact .cons h1 (dA_app h' h2)
theorem dA_snoc {K : PySem.W.Frag} {G : Hp} {ds : List PyData} {vs : List V} {d : PyData} {v : V} (h : DpAll K G vs ds) (hd : Dp K G v d) : DpAll K G (vs ++ [v]) (ds ++ [d]) := dA_app (.cons hd .nil) h
theorem dA_get {K : PySem.W.Frag} {G : Hp} : ∀ {ds : List PyData} {vs : List V} {i : Nat} {v : V}, DpAll K G vs ds → vs[i]? = some v → ∃ d, ds[i]? = some d ∧ Dp K G v d
  | [], _, _, _, h, e => by cases h; simp at e
  | d :: ds, _, 0, v, h, e => by
    cases h with
    | cons h1 h2 =>
      simp at e
      subst e
      exact ⟨d, rfl, h1⟩
  | d :: ds, _, i + 1, v, h, e => by
    cases h with
    | cons h1 h2 => exact dA_get (i := i) h2 (by simpa using e)
theorem dA_row {K : PySem.W.Frag} {G : Hp} {rs : List Row} {vs : List V} {i : Nat} {v : V} (h : DpAll K G vs (dL rs)) (e : vs[i]? = some v) : ∃ r, rs[i]? = some r ∧ Dp K G v (dR r) := by
  obtain ⟨d, e1, h1⟩ := dA_get h e
  rw [dL_map, List.getElem?_map] at e1
  obtain ⟨r, e2, rfl⟩ := Option.map_eq_some_iff.mp e1
  exact ⟨r, e2, h1⟩
theorem dpAll_strs {K : PySem.W.Frag} {G : Hp} : ∀ xs : List Str, DpAll K G (xs.map V.str) (xs.map PyData.str)
  | [] => .nil
  | x :: xs => .cons (.str x) (dpAll_strs xs)
theorem strs_of {K : PySem.W.Frag} {G : Hp} : ∀ {xs : List Str} {vs : List V}, DpAll K G vs (xs.map PyData.str) → vs = xs.map V.str
  | [], _, h => by cases h; rfl
  | x :: xs, _, h => by
    cases h with
    | cons h1 h2 =>
      cases h1
      rw [strs_of h2, List.map_cons]
theorem dpAll_ints {K : PySem.W.Frag} {G : Hp} : ∀ xs : List Int, DpAll K G (xs.map V.int) (xs.map PyData.int)
  | [] => .nil
  | x :: xs => .cons (.int x) (dpAll_ints xs)
theorem ints_of {K : PySem.W.Frag} {G : Hp} : ∀ {xs : List Int} {vs : List V}, DpAll K G vs (xs.map PyData.int) → vs = xs.map V.int
  | [], _, h => by cases h; rfl
  | x :: xs, _, h => by
    cases h with
    | cons h1 h2 =>
      cases h1
      rw [ints_of h2, List.map_cons]
theorem dpAll_atoms {K : PySem.W.Frag} {G : Hp} : ∀ ps : List Atom, DpAll K G (ps.map Atom.v) (ps.map Atom.d)
  | [] => .nil
  | .s x :: ps => .cons (.str x) (dpAll_atoms ps)
  | .n k :: ps => .cons (.int k) (dpAll_atoms ps)
theorem atoms_of {K : PySem.W.Frag} {G : Hp} : ∀ {ps : List Atom} {vs : List V}, DpAll K G vs (ps.map Atom.d) → vs = ps.map Atom.v
  | [], _, h => by cases h; rfl
  | .s x :: ps, _, h => by
    cases h with
    | cons h1 h2 =>
      cases h1
      rw [atoms_of h2, List.map_cons] <;> rfl
  | .n k :: ps, _, h => by
    cases h with
    | cons h1 h2 =>
      cases h1
      rw [atoms_of h2, List.map_cons] <;> rfl
theorem dpAll_split {K : PySem.W.Frag} {G : Hp} : ∀ {ds es : List PyData} {vs : List V}, DpAll K G vs (ds ++ es) → ∃ v1 v2, vs = v1 ++ v2 ∧ DpAll K G v1 ds ∧ DpAll K G v2 es
  | [], es, vs, h => ⟨[], vs, rfl, .nil, h⟩
  | d :: ds, es, _, h => by
    cases h with
    | cons h1 h2 =>
      obtain ⟨v1, v2, rfl, a, b⟩ := dpAll_split (ds := ds) (es := es) h2
      exact ⟨_ :: v1, v2, rfl, .cons h1 a, b⟩
/-- a row as it stands -/
theorem leaf_at {K : PySem.W.Frag} {G : Hp} {v : V} {w : Str} {ps : List Atom} (h : Dp K G v (dR (.leaf w ps))) : ∃ a, v = .ref a ∧ SqT K G a (.str w :: ps.map Atom.v) := by
  rw [dR] at h
  cases h with
  | tup hs ha =>
    cases ha with
    | cons h1 h2 =>
      cases h1
      rw [atoms_of h2] at hs
      exact ⟨_, rfl, hs⟩
theorem node_at {K : PySem.W.Frag} {G : Hp} {v : V} {w : Str} {vs : List Str} {a b : List Row} (h : Dp K G v (dR (.node w vs a b))) :
    ∃ t p q xs ys, v = .ref t ∧ SqT K G t (.str w :: (vs.map V.str ++ [.ref p, .ref q])) ∧ SqL K G p xs ∧ DpAll K G xs (dL a) ∧ SqL K G q ys ∧ DpAll K G ys (dL b) := by
  rw [dR] at h
  cases h with
  | tup hs ha =>
    cases ha with
    | cons h1 h2 =>
      cases h1
      obtain ⟨v1, v2, rfl, h3, h4⟩ := dpAll_split h2
      rw [strs_of h3] at hs
      cases h4 with
      | cons h5 h6 =>
        cases h6 with
        | cons h7 h8 =>
          cases h8
          cases h5 with
          | lst p1 p2 =>
            cases h7 with
            | lst q1 q2 => exact ⟨_, _, _, _, _, rfl, hs, p1, p2, q1, q2⟩
theorem leaf_mk {K : PySem.W.Frag} {G : Hp} {t : Addr} {w : Str} {ps : List Atom} (h : SqT K G t (.str w :: ps.map Atom.v)) : Dp K G (.ref t) (dR (.leaf w ps)) := by
  rw [dR]
  exact .tup h (.cons (.str w) (dpAll_atoms ps))
theorem node_mk {K : PySem.W.Frag} {G : Hp} {t p q : Addr} {w : Str} {vs : List Str} {a b : List Row} {xs ys : List V} (h : SqT K G t (.str w :: (vs.map V.str ++ [.ref p, .ref q]))) (h1 : SqL K G p xs) (h2 : DpAll K G xs (dL a)) (h3 : SqL K G q ys)
    (h4 : DpAll K G ys (dL b)) : Dp K G (.ref t) (dR (.node w vs a b)) := by
  rw [dR]
  exact .tup h (.cons (.str w) (dA_app (.cons (.lst h1 h2) (.cons (.lst h3 h4) .nil)) (dpAll_strs vs)))

/-! ### what is hidden -/
def hid (M : List Addr) (H : Hp) : Hp := fun b => if b ∈ M then none else H b
theorem hid_in {M : List Addr} {H : Hp} {b : Addr} (h : b ∈ M) : hid M H b = none := if_pos h
theorem hid_out {M : List Addr} {H : Hp} {b : Addr} (h : b ∉ M) : hid M H b = H b := if_neg h
theorem hid_nil (H : Hp) : hid [] H = H := funext fun b => hid_out (by simp)
theorem hid_le (M : List Addr) (H : Hp) : Same (hid M H) H := fun b o e => by
  by_cases h : b ∈ M
  · rw [hid_in h] at e; cases e
  · rw [hid_out h] at e; exact e
theorem hid_same {M : List Addr} {H H' : Hp} (e : Same H H') : Same (hid M H) (hid M H') := fun b o q => by
  by_cases h : b ∈ M
  · rw [hid_in h] at q; cases q
  · rw [hid_out h] at q ⊢; exact e b o q
theorem hid_sub {M N : List Addr} {H : Hp} (h : ∀ b ∈ N, b ∈ M) : Same (hid M H) (hid N H) := fun b o q => by
  by_cases hb : b ∈ M
  · rw [hid_in hb] at q; cases q
  · rw [hid_out hb] at q
    rw [hid_out fun z => hb (h b z)]
    exact q
theorem hid_upd {M : List Addr} {H : Hp} {p : Addr} {o : HO} (h : p ∈ M) : hid M (upd H p o) = hid M H := funext fun b => by
  by_cases hb : b ∈ M
  · rw [hid_in hb, hid_in hb]
  · rw [hid_out hb, hid_out hb, upd_ne fun e => hb (by rw [e]; exact h)]
/-- all but what S names is as it was -/
def Kept (S : List Addr) (H H' : Hp) : Prop := ∀ b o, H b = some o → b ∉ S → H' b = some o
theorem Kept.refl (S : List Addr) (H : Hp) : Kept S H H := fun _ _ h _ => h
theorem Kept.trans {S : List Addr} {H H1 H2 : Hp} (a : Kept S H H1) (b : Kept S H1 H2) : Kept S H H2 := fun c o h n => b c o (a c o h n) n
theorem Kept.of {S : List Addr} {H H' : Hp} (e : Same H H') : Kept S H H' := fun b o h _ => e b o h
theorem Kept.mono {S T : List Addr} {H H' : Hp} (a : Kept S H H') (h : ∀ b ∈ S, b ∈ T) : Kept T H H' := fun b o e n => a b o e fun z => n (h b z)
theorem Kept.same {H H' : Hp} (a : Kept [] H H') : Same H H' := fun b o e => a b o e (by simp)
theorem Kept.upd {S : List Addr} {H : Hp} {p : Addr} {o : HO} (h : p ∈ S) : Kept S H (upd H p o) := fun b u e n => by
  rw [upd_ne fun q => n (by rw [q]; exact h)]
  exact e
theorem Kept.hid {S M : List Addr} {H H' : Hp} (a : Kept S H H') (h : ∀ b ∈ S, b ∈ M) : Same (hid M H) (hid M H') := fun b o q => by
  by_cases hb : b ∈ M
  · rw [hid_in hb] at q; cases q
  · rw [hid_out hb] at q ⊢
    exact a b o q fun z => hb (h b z)
/-- what S names was not yet there: all is as it was -/
theorem Kept.fresh {S : List Addr} {H H' : Hp} (a : Kept S H H') (h : ∀ b ∈ S, H b = none) : Same H H' := fun b o e => a b o e fun z => by
  rw [h b z] at e
  cases e
theorem same_new {H : Hp} {p : Addr} (h : H p = none) (o : HO) : Same H (upd H p o) := fun b u q => by
  rw [upd_ne (ne_of_none q h)]
  exact q
theorem same_upd {H H' : Hp} {p : Addr} (e : Same H H') (h : H p = none) (o : HO) : Same H (upd H' p o) := fun b u q => by
  rw [upd_ne (ne_of_none q h)]
  exact e b u q
theorem kept_new {S : List Addr} {H H' : Hp} {p : Addr} (e : Kept S H H') (h : H p = none) (o : HO) : Kept S H (upd H' p o) := fun b u q n => by
  rw [upd_ne (ne_of_none q h)]
  exact e b u q n
theorem Kept.free {S : List Addr} {H H' : Hp} (a : Kept S H H') {p : Addr} (h : H' p = none) (n : p ∉ S) : H p = none := by
  cases q : H p with
  | none => rfl
  | some o =>
    rw [a p o q n] at h
    cases h

/-! ### measures -/
mutual
def htR : Row → Nat
  | .leaf _ _ => 0
  | .node _ _ a b => max (htL a) (htL b)
def htL : List Row → Nat
  | [] => 1
  | r :: rs => max (htR r + 1) (htL rs)
end
theorem htL_pos : ∀ l : List Row, 1 ≤ htL l
  | [] => Nat.le_refl _
  | r :: rs => by rw [htL]; exact Nat.le_trans (htL_pos rs) (Nat.le_max_right _ _)
theorem htR_mem : ∀ {l : List Row} {i : Nat} {r : Row}, l[i]? = some r → htR r + 1 ≤ htL l
  | [], _, _, h => by simp at h
  | x :: xs, 0, r, h => by
    simp at h
    subst h
    rw [htL]
    exact Nat.le_max_left _ _
  | x :: xs, i + 1, r, h => by
    rw [htL]
    exact Nat.le_trans (htR_mem (i := i) (by simpa using h)) (Nat.le_max_right _ _)
mutual
def szR : Row → Nat
  | .leaf _ _ => 1
  | .node _ _ a b => 1 + (szL a + szL b)
def szL : List Row → Nat
  | [] => 0
  | r :: rs => szR r + szL rs
end
theorem szL_app : ∀ a b : List Row, szL (a ++ b) = szL a + szL b
  | [], b => by rw [szL, List.nil_append, Nat.zero_add]
  | r :: a, b => by rw [List.cons_append, szL, szL, szL_app a b, Nat.add_assoc]
theorem len_le_szL : ∀ a : List Row, a.length ≤ szL a
  | [] => Nat.le_refl _
  | r :: a => by
    have h1 := len_le_szL a
    have h2 : 1 ≤ szR r := by cases r <;> rw [szR] <;> omega
    rw [List.length_cons, szL]
    omega
end Tw

set_option Elab.async false
set_option maxRecDepth 100000
set_option maxHeartbeats 4000000
/-! A1: which rows are right; readers, copies, places, variables of rows. -/
namespace Tw
open PySem PySem.Spec L2
def shapesL : List (Str × Str) := [("move", "vv"), ("none", "v"), ("new", "v"), ("look", "vvf"), ("put", "vfv"), ("copy", "vvkd"), ("watch", "rvd"), ("same", "vvbb"), ("empty", "vbb")]
def partsL : List (Str × Str) := [("move", "ww"), ("none", "w"), ("new", "w"), ("look", "www"), ("put", "www"), ("copy", "wwwn"), ("watch", "wwn"), ("same", "ww"), ("empty", "w")]
/-- a word -/
def isW (x : Str) : Prop := 1 ≤ x.length ∧ x.length ≤ 8 ∧ ∀ c ∈ x.cps.toList, 97 ≤ c ∧ c ≤ 122
/-- a part that fits its letter; W the variables, F the fields -/
inductive Good (W F : List Str) : Nat → Atom → Prop
  | v {x : Str} (h : x ∈ W) : Good W F 118 (.s x)
  | r {x : Str} (h : isW x) : Good W F 114 (.s x)
  | f {x : Str} (h : x ∈ F) : Good W F 102 (.s x)
  | k {x : Str} (h : x = Str.ofString "freeze" ∨ x = Str.ofString "thaw") : Good W F 107 (.s x)
  | d {n : Nat} (h : n < 5) : Good W F 100 (.n n)
inductive Fits (W F : List Str) : List Nat → List Atom → Prop
  | nil : Fits W F [] []
  | cons {c : Nat} {a : Atom} {cs : List Nat} {as : List Atom} (h : Good W F c a) (t : Fits W F cs as) : Fits W F (c :: cs) (a :: as)
/-- the words of rows without rows inside; those with -/
def leafL : List (Str × Str) := [("move", "vv"), ("none", "v"), ("new", "v"), ("look", "vvf"), ("put", "vfv"), ("copy", "vvkd"), ("watch", "rvd")]
def nodeL : List (Str × Nat) := [("same", 2), ("empty", 1)]
mutual
def okR (W F : List Str) : Row → Prop
  | .leaf w ps => ∃ sh, (w, sh) ∈ leafL ∧ Fits W F sh.cps.toList ps
  | .node w vs a b => (w, vs.length) ∈ nodeL ∧ (∀ x ∈ vs, x ∈ W) ∧ okL W F a ∧ okL W F b
def okL (W F : List Str) : List Row → Prop
  | [] => True
  | r :: rs => okR W F r ∧ okL W F rs
end
theorem okL_at {W F : List Str} : ∀ {l : List Row} {i : Nat} {r : Row}, okL W F l → l[i]? = some r → okR W F r
  | [], _, _, _, e => by simp at e
  | x :: xs, 0, r, h, e => by
    simp at e
    subst e
    rw [okL] at h
    exact h.1
  | x :: xs, i + 1, r, h, e => by
    rw [okL] at h
    exact okL_at (i := i) h.2 (by simpa using e)
theorem okL_app {W F : List Str} : ∀ {a b : List Row}, okL W F a → okL W F b → okL W F (a ++ b)
  | [], b, _, h => h
  | r :: a, b, h, h' => by
    rw [okL] at h
    rw [List.cons_append, okL]
    exact ⟨h.1, okL_app h.2 h'⟩
def Row.word : Row → Str
  | .leaf w _ => w
  | .node w _ _ _ => w
theorem Fits.len {W F : List Str} {cs : List Nat} {as : List Atom} (h : Fits W F cs as) : cs.length = as.length := by
  induction h with
  | nil => rfl
  | cons _ _ ih => rw [List.length_cons, List.length_cons, ih]
theorem Fits.at {W F : List Str} {cs : List Nat} {as : List Atom} (h : Fits W F cs as) : ∀ {i : Nat} {c : Nat} {a : Atom}, cs[i]? = some c → as[i]? = some a → Good W F c a := by
  induction h with
  | nil => intro i c a e; simp at e
  | cons g _ ih =>
    intro i c a e1 e2
    cases i with
    | zero =>
      simp at e1 e2
      subst e1 e2
      exact g
    | succ i => exact ih (by simpa using e1) (by simpa using e2)
theorem tabs : ∀ q ∈ leafL, q ∈ shapesL ∧ ∀ c ∈ q.2.cps.toList, c ≠ 98 := by decide +kernel
theorem tabsN : ∀ q ∈ nodeL, ∃ z, (q.1, z) ∈ shapesL ∧ z.cps.toList = List.replicate q.2 118 ++ [98, 98] := by
  intro q hq
  have hq : q = (Str.ofString "same", 2) ∨ q = (Str.ofString "empty", 1) := by simpa [nodeL] using hq
  rcases hq with rfl | rfl
  · exact ⟨"vvbb", by decide +kernel, by decide +kernel⟩
  · exact ⟨"vbb", by decide +kernel, by decide +kernel⟩
/-! ### slices -/
theorem cut_tail (x : V) (xs : List V) : cutV (x :: xs) (some 1) none = xs := by
  unfold cutV
  rw [show (1 : Int) = ((1 : Nat) : Int) from rfl, HT.sIx_nat, HT.sIx_none, List.length_cons, Nat.min_eq_left (by omega), List.drop_succ_cons, List.drop_zero, List.take_of_length_le (by omega)]
theorem sIx_neg (n k : Nat) (h : k ≤ n) (hk : 0 < k) : HT.sIx n n (some (-(k : Int))) = n - k := by
  show (if -(k : Int) < 0 then (-(k : Int) + (n : Int)).toNat else _) = n - k
  rw [if_pos (by omega)]
  omega
theorem cut_init (xs ys : List V) (h : 0 < ys.length) : cutV (xs ++ ys) none (some (-(ys.length : Int))) = xs := by
  unfold cutV
  rw [HT.sIx_none, sIx_neg _ _ (by rw [List.length_append]; omega) h, List.drop_zero, Nat.sub_zero, List.length_append, Nat.add_sub_cancel, List.take_left]
theorem cut_init2 (xs : List V) (a b : V) : cutV (xs ++ [a, b]) none (some (-2)) = xs := cut_init xs [a, b] (Nat.zero_lt_succ _)
theorem cut_init1 (xs : List V) (a : V) : cutV (xs ++ [a]) none (some (-1)) = xs := cut_init xs [a] (Nat.zero_lt_succ _)
theorem cut_to (xs ys : List V) : cutV (xs ++ ys) none (some (xs.length : Int)) = xs := by
  unfold cutV
  rw [HT.sIx_none, HT.sIx_nat, List.length_append, Nat.min_eq_left (by omega), List.drop_zero, Nat.sub_zero, List.take_left]
theorem cut_from (xs : List V) (k : Nat) (h : k ≤ xs.length) : cutV xs (some (k : Int)) none = xs.drop k := by
  unfold cutV
  rw [HT.sIx_none, HT.sIx_nat, Nat.min_eq_left h, List.take_of_length_le (by rw [List.length_drop]; omega)]
theorem at_neg2 (xs : List V) (a b : V) : atI (xs ++ [a, b]) (-2) = some a := by
  unfold atI ixN
  rw [if_neg (by omega), if_pos (by rw [List.length_append]; show -((xs.length + 2 : Nat) : Int) ≤ -2; omega), Option.bind_some]
  rw [show ((-2 : Int) + ((xs ++ [a, b]).length : Int)).toNat = xs.length by rw [List.length_append]; show ((-2 : Int) + ((xs.length + 2 : Nat) : Int)).toNat = _; omega]
  rw [List.getElem?_append_right (Nat.le_refl _), Nat.sub_self] <;> rfl
theorem at_neg1 (xs : List V) (a : V) : atI (xs ++ [a]) (-1) = some a := atI_last xs a
theorem at_0 (x : V) (xs : List V) : atI (x :: xs) 0 = some x := atI_nat (j := 0) rfl
/-! ### the readers, the copies -/
mutual
def rdR : Row → List Str
  | .leaf w ps => if w = Str.ofString "watch" then (match ps with
    | .s r :: _ => [r]
    | _ => []) else []
  | .node _ _ a b => rdL a ++ rdL b
def rdL : List Row → List Str
  | [] => []
  | r :: rs => rdR r ++ rdL rs
end
theorem rdL_app : ∀ a b : List Row, rdL (a ++ b) = rdL a ++ rdL b
  | [], b => by rw [rdL, List.nil_append, List.nil_append]
  | r :: a, b => by rw [List.cons_append, rdL, rdL, rdL_app a b, List.append_assoc]
mutual
def cpR : Row → Nat
  | .leaf w _ => if w = Str.ofString "copy" then 1 else 0
  | .node _ _ a b => cpL a + cpL b
def cpL : List Row → Nat
  | [] => 0
  | r :: rs => cpR r + cpL rs
end
theorem cpL_app : ∀ a b : List Row, cpL (a ++ b) = cpL a + cpL b
  | [], b => by rw [cpL, List.nil_append, Nat.zero_add]
  | r :: a, b => by rw [List.cons_append, cpL, cpL, cpL_app a b, Nat.add_assoc]
theorem okW_leaf {W F : List Str} {ps : List Atom} (h : okR W F (.leaf (Str.ofString "watch") ps)) : ∃ r x n, ps = [.s r, .s x, .n n] ∧ isW r := by
  rw [okR] at h
  obtain ⟨sh, h1, h2⟩ := h
  have e : sh = Str.ofString "rvd" := by
    have h3 : ∀ q ∈ leafL, q.1 = Str.ofString "watch" → q.2 = Str.ofString "rvd" := by decide +kernel
    exact h3 _ h1 rfl
  subst e
  rw [show (Str.ofString "rvd").cps.toList = [114, 118, 100] by decide +kernel] at h2
  cases h2 with
  | cons g1 t1 =>
    cases t1 with
    | cons g2 t2 =>
      cases t2 with
      | cons g3 t3 =>
        cases t3
        cases g1
        cases g2
        cases g3
        exact ⟨_, _, _, rfl, by assumption⟩
end Tw

set_option Elab.async false
set_option maxRecDepth 100000
set_option maxHeartbeats 4000000
/-! B1: rules that the layer lacks: zip(text, list or tuple), enumerate(tuple), match over texts, repr of data. -/
namespace Tw
open PySem PySem.Spec L2 PyProof.Rows

/-! ### a list or a tuple, by a flag -/
def SqX (K : PySem.W.Frag) (f : Bool) (H : Hp) (a : Addr) (xs : List V) : Prop := if f = true then SqT K H a xs else SqL K H a xs
def IterX (f : Bool) (h : Heap) (it a : Addr) (i : Nat) : Prop := if f = true then h.IsTupleIter it a i else h.IsListIter it a i
def ColX (f : Bool) (h : Heap) (a : Addr) (us : Array Value) : Prop := if f = true then h.IsTuple a us else h.IsList a us
theorem seqX {X : Cx} {pins : List (Addr × Obj)} {σ : L2.St} {H : Hp} {s : Shared} {f : Bool} {a : Addr} {xs : List V} (I : Inv X pins σ H s) (h : SqX X.K f H a xs) : ∃ its : List Value, Vals xs its ∧ ColX f s.heap a its.toArray := by
  cases f with
  | true =>
    obtain ⟨its, r, p, _⟩ := I.tuple h
    exact ⟨its, r, p⟩
  | false =>
    obtain ⟨its, r, p, _⟩ := I.list h
    exact ⟨its, r, p.isList⟩
theorem seqX_inj {X : Cx} {pins : List (Addr × Obj)} {σ : L2.St} {H : Hp} {s : Shared} {f : Bool} {a : Addr} {xs ys : List V} (I : Inv X pins σ H s) (h : SqX X.K f H a xs) (h' : SqX X.K f H a ys) : xs = ys := by
  cases f with
  | true => exact I.tuple_inj h h'
  | false => exact I.list_inj h h'
theorem iterX_rec {f : Bool} {h : Heap} {it a : Addr} {i : Nat} (st : IterX f h it a i) : ∃ o, h.get? it = some o ∧ ∀ v, o.data ≠ .cell v := by
  cases f with
  | true =>
    obtain ⟨o, e, _, d⟩ := (show h.IsTupleIter it a i from st)
    exact ⟨o, e, fun v q => by rw [d] at q; cases q⟩
  | false =>
    obtain ⟨o, e, _, d⟩ := (show h.IsListIter it a i from st)
    exact ⟨o, e, fun v q => by rw [d] at q; cases q⟩
theorem iterX_at {f : Bool} {h h' : Heap} {it a : Addr} {i : Nat} (st : IterX f h it a i) (k : ∀ o, h.get? it = some o → h'.get? it = some o) : IterX f h' it a i := by
  cases f with
  | true => exact (show h.IsTupleIter it a i from st).at k
  | false => exact (show h.IsListIter it a i from st).at k
theorem drawsX {prog : Program} {w : World} {A : Around} (hh : A.handled = none) (f : Bool) (it a : Addr) (ne : a ≠ it) (us : Array Value) :
    Draws prog w A it [it, a] us.size (fun i v => us[i]? = some v) (fun i h => IterX f h it a i ∧ ColX f h a us) := by
  cases f with
  | true => exact Draws.tuple hh it a ne us
  | false => exact Draws.list hh it a ne us
def iterO (f : Bool) (a : Addr) : Obj := if f = true then { cls := .type "tuple_iterator", data := .fields #[.ref a, .int 0 0] } else { cls := .type "list_iterator", data := .fields #[.ref a, .int 0 0] }
theorem beginsX (f : Bool) (a : Addr) (us : Array Value) : Begins (.ref a) (iterO f a) (fun h => ColX f h a us) := by
  cases f with
  | true => exact begins_tuple a us
  | false => exact begins_list a us
theorem iterO_at {f : Bool} {h : Heap} {it a : Addr} (e : h.get? it = some (iterO f a)) : IterX f h it a 0 := by
  cases f with
  | true => exact ⟨_, e, rfl, rfl⟩
  | false => exact ⟨_, e, rfl, rfl⟩
theorem colX_lt {f : Bool} {h : Heap} {a : Addr} {us : Array Value} (c : ColX f h a us) : a < h.objs.size := by
  cases f with
  | true =>
    obtain ⟨o, e, _⟩ := (show h.IsTuple a us from c)
    exact Heap.lt_size e
  | false =>
    obtain ⟨o, e, _⟩ := (show h.IsList a us from c)
    exact Heap.lt_size e

theorem iterX_ne {f : Bool} {h : Heap} {it a : Addr} {i : Nat} {us : Array Value} (st : IterX f h it a i) (c : ColX f h a us) : a ≠ it := fun q => by
  subst q
  cases f with
  | true =>
    obtain ⟨oi, ei, ci, _⟩ := (show h.IsTupleIter a a i from st)
    obtain ⟨oc, ec, cc, _⟩ := (show h.IsTuple a us from c)
    rw [ei] at ec; cases ec; rw [ci] at cc; injection cc with q; exact absurd q (by decide)
  | false =>
    obtain ⟨oi, ei, ci, _⟩ := (show h.IsListIter a a i from st)
    obtain ⟨oc, ec, cc, _⟩ := (show h.IsList a us from c)
    rw [ei] at ec; cases ec; rw [ci] at cc; injection cc with q; exact absurd q (by decide)

/-! ### zip(text, list or tuple) -/
def ItzS (K : PySem.W.Frag) (f : Bool) (z : Str) (b : Addr) : It where
  go := fun i H => ∃ ys, SqX K f H b ys ∧ i < z.cps.size ∧ i < ys.length
  yld := fun i H v H' => ∃ T c y, v = .ref T ∧ H T = none ∧ H' = upd H T (.tup [.str ⟨#[c]⟩, y]) ∧ z.cps[i]? = some c ∧ ∀ ys, SqX K f H b ys → ys[i]? = some y
  stop := fun i H => ∃ ys, SqX K f H b ys ∧ i ≤ z.cps.size ∧ i ≤ ys.length ∧ (i = z.cps.size ∨ i = ys.length)
theorem turn_zipS {P : Program} {w : World} {K : PySem.W.Frag} {elts : List Expr} {kk : Nat} {tpos : Pos} (f : Bool) (zs : Str) (tk : Tok) (b z TI TO i1 i2 : Addr) (S : ZipSep2 z TI TO i1 i2 [i1] [i2, b]) :
    Turn P w K (.Tuple elts kk tpos) (ItzS K f zs b) [z, TI, TO, i1, i2] z
      (fun i h => IsZip h z TI TO .none ∧ IsTupOf2 h TI (.ref i1) (.ref i2) ∧ (∃ x y, IsTupOf2 h TO x y) ∧ h.IsStrIter i1 (strIterType zs) zs tk i ∧ IterX f h i2 b i) where
  mem := List.mem_cons_self ..
  obj := fun i h st c hc => by
    obtain ⟨hz, hI, ⟨x, y, hO⟩, ⟨o1, q1, _, d1⟩, h2⟩ := st
    have cs : c = z ∨ c = TI ∨ c = TO ∨ c = i1 ∨ c = i2 := by simpa using hc
    rcases cs with e | e | e | e | e
    · subst e; exact ⟨_, hz, fun v q => nomatch q⟩
    · subst e; exact ⟨_, hI, fun v q => nomatch q⟩
    · subst e; exact ⟨_, hO, fun v q => nomatch q⟩
    · subst e; exact ⟨o1, q1, fun v q => by rw [d1] at q; cases q⟩
    · subst e; exact iterX_rec h2
  keep := fun i h h' st k => by
    obtain ⟨hz, hI, ⟨x, y, hO⟩, ⟨o1, q1, r1⟩, h2⟩ := st
    exact ⟨k z (by simp) _ hz, k TI (by simp) _ hI, ⟨x, y, k TO (by simp) _ hO⟩, ⟨o1, k i1 (by simp) _ q1, r1⟩, iterX_at h2 fun o q => k i2 (by simp) o q⟩
  item := by
    intro X e1 e2 e3 calm i pins s σ H E I own st g
    subst e1 e2 e3
    obtain ⟨hz, hI, ⟨x0, y0, hO⟩, h1, h2⟩ := st
    obtain ⟨ys, hy, lt1, lt2⟩ := g
    obtain ⟨us, rv, col⟩ := seqX I hy
    have lu : i < us.toArray.size := by rw [List.size_toArray, ← rv.length]; exact lt2
    have zlt : z < s.heap.objs.size := Heap.lt_size hz
    have D1 : Draws X.prog X.w X.A.in1 i1 [i1] zs.cps.size _ _ := Draws.text (A := X.A.in1) (I.ok.hd calm) i1 zs tk
    have D2 := drawsX (prog := X.prog) (w := X.w) (A := X.A.in1) (I.ok.hd calm) f i2 b (iterX_ne h2 col) us.toArray
    refine wpAny_pyNext_zipD2_item S D1 D2 hz hI hO h1 ⟨h2, col⟩ lt1 lu fun x1 x2 h' tk' p1 p2 nz nO s1 s2 nT sz kp => ?_
    refine ⟨_, rfl, wpAny_letOwnedTupleGo_zip (s := { s with heap := h', toks := tk' }) nz fun h'' zz sb => ?_⟩
    obtain ⟨c, u, hc, ex1⟩ := p1
    obtain ⟨y, hyv, ry⟩ : ∃ y, ys[i]? = some y ∧ RelV y x2 := by
      obtain ⟨u2, h3, r3⟩ := rv.get (show ys[i]? = some ys[i] from List.getElem?_eq_getElem lt2)
      refine ⟨ys[i], List.getElem?_eq_getElem lt2, ?_⟩
      have h4 : us[i]? = some x2 := by simpa using p2
      rw [h3] at h4
      cases h4
      exact r3
    subst ex1
    have at2 : h''.get? s.heap.objs.size = some { cls := .type "tuple", data := .seq #[.str ⟨#[c]⟩ u, x2] } := (sb.2 _ (Nat.ne_of_gt zlt)).trans nT
    have born : ObjOk X.prog X.w (upd H s.heap.objs.size (.tup [.str ⟨#[c]⟩, y])) h'' s.heap.objs.size (.tup [.str ⟨#[c]⟩, y]) :=
      ⟨(by show 2 ≤ sizeLine; decide), [.str ⟨#[c]⟩ u, x2], .cons ⟨u, rfl⟩ (.cons ry .nil), ⟨_, at2, rfl, _, rfl⟩⟩
    have J : Inv X pins σ (upd H s.heap.objs.size (.tup [.str ⟨#[c]⟩, y])) { s with heap := h'', toks := tk' } :=
      I.turnedNew (ch := [z, TI, TO, i1, i2]) (fun d o nd q => (sb.2 d (fun r => nd (by simp [r]))).trans (kp d o (fun r => nd (by simp [r])) (fun r => nd (by simp [r])) (fun r => nd (by simp [r])) (fun r => nd (by simp [r])) q)) own (Nat.le_refl _) born
    have o1 : i1 ∈ [i1] := List.mem_singleton.mpr rfl
    have o2 : i2 ∈ [i2, b] := List.mem_cons_self ..
    refine ⟨.ref s.heap.objs.size, _, J, rfl, ⟨_, c, y, rfl, I.hok.fresh (Nat.le_refl _), rfl, hc, fun ys' hy' => by rw [seqX_inj I hy' hy]; exact hyv⟩, ⟨zz, ?_, ⟨_, _, (sb.2 _ S.TOz).trans nO⟩, ?_, ?_⟩, fun d hd => ?_⟩
    · exact (sb.2 _ S.TIz).trans (kp _ _ S.TIz S.TITO S.TIi1 S.TIi2 hI)
    · obtain ⟨oi, ei, ri⟩ := s1
      exact ⟨oi, (sb.2 _ (Ne.symm S.zi1)).trans ei, ri⟩
    · exact iterX_at s2.1 fun o q => (sb.2 _ (Ne.symm S.zi2)).trans q
    · have dl : d < s.heap.objs.size := by
        have cs : d = z ∨ d = TI ∨ d = TO ∨ d = i1 ∨ d = i2 := by simpa using hd
        rcases cs with e | e | e | e | e
        · rw [e]; exact zlt
        · rw [e]; exact Heap.lt_size hI
        · rw [e]; exact Heap.lt_size hO
        · rw [e]; obtain ⟨_, ei, _⟩ := h1; exact Heap.lt_size ei
        · rw [e]; obtain ⟨_, ei, _⟩ := iterX_rec h2; exact Heap.lt_size ei
      rw [upd_ne (Nat.ne_of_lt dl)]
      exact (own d hd).1
  done := by
    intro X e1 e2 e3 calm i pins s σ H E I own st g
    subst e1 e2 e3
    obtain ⟨hz, hI, ⟨x0, y0, hO⟩, h1, h2⟩ := st
    obtain ⟨ys, hy, l1, l2, fin⟩ := g
    obtain ⟨us, rv, col⟩ := seqX I hy
    have ln : ys.length = us.toArray.size := by rw [List.size_toArray]; exact rv.length
    have D1 : Draws X.prog X.w X.A.in1 i1 [i1] zs.cps.size _ _ := Draws.text (A := X.A.in1) (I.ok.hd calm) i1 zs tk
    have D2 := drawsX (prog := X.prog) (w := X.w) (A := X.A.in1) (I.ok.hd calm) f i2 b (iterX_ne h2 col) us.toArray
    refine wpAny_pyNext_zipD2_end S D1 D2 hz hI hO h1 ⟨h2, col⟩ l1 (by rw [← ln]; exact l2) (by rw [← ln]; exact fin) fun h' tk' kp => ⟨rfl, I.turnedL (ch := [z, TI, TO, i1, i2]) (fun c o nc q =>
      kp c o (fun r => nc (by simp [r])) (fun r => nc (by simp [r])) (fun r => nc (by simp [r])) (fun r => nc (by simp [r])) q) own⟩
  self := fun A i s Q E st h => wpAny_pyIter_zip st.1 h

def iZipS (K : PySem.W.Frag) (f : Bool) (ta : TA) : TI := fun σ H R => ta σ H fun vs H1 => ∃ z b ys, vs = [.str z, .ref b] ∧ SqX K f H1 b ys ∧ R (ItzS K f z b) H1
theorem pi_zipS {X : Cx} (f : Bool) {e e2 : Expr} {ta : TA} {p pos tpos : Pos} {elts : List Expr} {kk : Nat} (hg : Gl X "zip") (hm : X.mg "zip" = none) (ha : PA X [e, e2] ta)
    (h1 : starEach [e, e2] X.env = (false, eval e X.env) :: starEach [e2] X.env := by rfl) (h2 : (backTo pos (starEach [e2] X.env)).any (·.1) = false := by rfl) : PI X (.Tuple elts kk tpos) (.Call (.Name "zip" p) [e, e2] [] pos) (iZipS X.K f ta) := by
  refine ⟨fun pins s σ H R I h => ?_⟩
  refine Call_ (ld_blt I hg hm PyProof.Rows.boot_zip (PyProof.Rows.callWith_type1 (thn (ha.run pos pins s σ H _ I h) fun us s1 ⟨vs, H1, I1, rr, q⟩ => ?_) h1 h2))
  obtain ⟨z, b, ys, ev, hy, q⟩ := q
  subst ev
  obtain ⟨u1, u2, rfl, r1, r2⟩ := vals2 rr
  obtain ⟨t, rfl⟩ := r1
  cases r2
  obtain ⟨its, rv, col⟩ := seqX I1 hy
  have bl := colX_lt col
  refine zip_begins2 (begins_text z t) (beginsX f b its.toArray) trivial col fun h' gz gI gO g1 g2 _ kp => wpAny_pyIter_zip gz ?_
  have J : Inv X pins σ H1 { s1 with heap := h' } := I1.kept (t' := s1.toks) kp
  refine ⟨s1.heap.objs.size + 4, [s1.heap.objs.size + 4, s1.heap.objs.size + 2, s1.heap.objs.size + 3, s1.heap.objs.size, s1.heap.objs.size + 1], _, _, H1, rfl, J,
    turn_zipS f z t b _ _ _ _ _ (zip_sep2 (N := s1.heap.objs.size) (fp1 := []) (fp2 := [b]) (fun c hc => by cases hc) fun c hc => by rw [List.mem_singleton.mp hc]; exact bl), ⟨gz, gI, ⟨_, _, gO⟩, ⟨_, g1, rfl, rfl⟩, iterO_at g2⟩, fun c hc => ?_, q⟩
  have cs : c = s1.heap.objs.size + 4 ∨ c = s1.heap.objs.size + 2 ∨ c = s1.heap.objs.size + 3 ∨ c = s1.heap.objs.size ∨ c = s1.heap.objs.size + 1 := by simpa using hc
  have up : s1.heap.objs.size ≤ c := by
    rcases cs with e | e | e | e | e <;> rw [e] <;> first | exact Nat.le_refl _ | exact Nat.le_add_right _ _
  exact I1.fpOk up (I1.hok.fresh up)
theorem walk_zipS {K : PySem.W.Frag} {f : Bool} {z : Str} {b : Addr} {ys : List V} {n : Nat} (n1 : z.cps.size = n) (n2 : ys.length = n) :
    Walk (ItzS K f z b) n (fun H => SqX K f H b ys) (YPair (fun i => z.cps[i]?.map fun c => V.str ⟨#[c]⟩) fun i => ys[i]?) where
  goes := fun i H hi q => ⟨ys, q, by omega, by omega⟩
  stops := fun H q => ⟨ys, q, by omega, by omega, .inl n1.symm⟩
  yields := fun i H x H' hi q y => by
    obtain ⟨T, c, v, h1, h2, h3, h4, h5⟩ := y
    exact ⟨T, _, v, h1, h2, h3, by show Option.map _ _ = _; rw [h4] <;> rfl, h5 ys q⟩

/-! ### enumerate(tuple) -/
theorem meets_enumT (t : Addr) (us : Array Value) : Meets (Builtin.«enumerate.__new__» ⟨[.type "enumerate", .ref t], []⟩) (fun _ R s => s.heap.IsTuple t us ∧
    R (.ok (.ret (.ref (s.heap.push (iterO true t)).objs.size))) { s with heap := (s.heap.push (iterO true t)).push { cls := .type "enumerate", data := .fields #[.none, .bool false, .ref s.heap.objs.size, rawInt 0, .none, .none] } }) :=
  .of_wp fun prog w A R s h => by
    obtain ⟨hp, g, d, tk, os⟩ := s
    obtain ⟨ht, h⟩ := h
    have hsub := sub_enumerate
    have q1 : ∀ {A' : Around} {E : Value → Shared → Prop} {Q : Value → Shared → Prop}, Q (.ref hp.objs.size) ⟨hp.push (iterO true t), g, d, tk, os⟩ → wpAny (model prog w) A' (pyIter (.ref t)) Q E ⟨hp, g, d, tk, os⟩ :=
      fun q => wpAny_pyIter_tuple (s := ⟨hp, g, d, tk, os⟩) ht q
    wp_walk using q1
    refine wpAny_stack_any fun st => wpAny_pure ?_
    split
    · rename_i c _ _ _ _ _
      cases (c == Value.type "enumerate")
      all_goals
        wp_walk using q1
        exact ⟨_, rfl, h⟩
    · wp_walk using q1
      exact ⟨_, rfl, h⟩
theorem enumT_begins {prog : Program} {w : World} {A : Around} {E : Value → Shared → Prop} {s : Shared} {t : Addr} {us : Array Value} {Q : Value → Shared → Prop} (ht : s.heap.IsTuple t us)
    (h : ∀ h', IsEnum h' (s.heap.objs.size + 1) s.heap.objs.size 0 .none → h'.get? s.heap.objs.size = some (iterO true t) → (∀ b o, s.heap.get? b = some o → h'.get? b = some o) → Q (.ref (s.heap.objs.size + 1)) { s with heap := h' }) :
    wpAny (model prog w) A (call (.type "enumerate") [.ref t]) Q E s := by
  refine callType_new F.called_enumerate (by decide) (F.typeCall_enumerate_1 _) (F.newCall_enumerate_1 _) (fun obj => F.args_object_init_2 obj _) F.entry_enumerate_new (meets_enumT t us) ⟨ht, ?_⟩
  have z1 : (s.heap.push (iterO true t)).objs.size = s.heap.objs.size + 1 := Heap.size_push ..
  have e1 := Heap.get?_push_size (s.heap.push (iterO true t)) (o := { cls := .type "enumerate", data := .fields #[.none, .bool false, .ref s.heap.objs.size, rawInt 0, .none, .none] }) rfl
  show _ ∧ _
  rw [z1] at e1 ⊢
  exact ⟨⟨_, e1, rfl⟩, h _ e1 (Heap.get?_push_of_some _ (Heap.get?_push_size _ rfl)) fun b o q => Heap.get?_push_of_some _ (Heap.get?_push_of_some _ q)⟩
def IteT (K : PySem.W.Frag) (a : Addr) : It where
  go := fun i H => ∃ xs, SqT K H a xs ∧ i < xs.length
  yld := fun i H v H' => ∃ T x, v = .ref T ∧ H T = none ∧ H' = upd H T (.tup [.int (i : Nat), x]) ∧ ∀ xs, SqT K H a xs → xs[i]? = some x
  stop := fun i H => ∃ xs, SqT K H a xs ∧ i = xs.length
theorem turn_enumT {P : Program} {w : World} {K : PySem.W.Frag} {elts : List Expr} {kk : Nat} {tpos : Pos} (a e it : Addr) :
    Turn P w K (.Tuple elts kk tpos) (IteT K a) [e, it] e (fun i h => (∃ old, IsEnum h e it ((i : Nat) : Int) old) ∧ IterX true h it a i ∧ e ≠ it ∧ e ≠ a) where
  mem := List.mem_cons_self ..
  obj := fun i h st b hb => by
    obtain ⟨⟨old, he⟩, hi, _⟩ := st
    have cs : b = e ∨ b = it := by simpa using hb
    rcases cs with r | r
    · subst r; exact ⟨_, he, fun v q => nomatch q⟩
    · subst r; exact iterX_rec hi
  keep := fun i h h' st k => by
    obtain ⟨⟨old, he⟩, hi, r⟩ := st
    exact ⟨⟨old, k e (by simp) _ he⟩, iterX_at hi fun o q => k it (by simp) o q, r⟩
  item := by
    intro X e1 e2 e3 calm i pins s σ H E I own st g
    subst e1 e2 e3
    obtain ⟨⟨old, he⟩, hi, hne, hea⟩ := st
    obtain ⟨xs, hx, lt⟩ := g
    obtain ⟨us, rv, col⟩ := seqX (f := true) I hx
    have lu : i < us.toArray.size := by rw [List.size_toArray, ← rv.length]; exact lt
    have el : e < s.heap.objs.size := Heap.lt_size he
    have D := drawsX (prog := X.prog) (w := X.w) (A := X.A.in1) (I.ok.hd calm) true it a (iterX_ne hi col) us.toArray
    refine wpAny_pyNext_enum_itemC D he ⟨hi, col⟩ lu hne (by simp [hne, hea]) fun x h' tk' p1 out s1 nT sz kp => ?_
    refine ⟨_, rfl, wpAny_letOwnedTupleGo_enum (s := { s with heap := h', toks := tk' + 1 }) out fun h'' back sb => ?_⟩
    obtain ⟨u2, h3, r3⟩ := rv.get (show xs[i]? = some xs[i] from List.getElem?_eq_getElem lt)
    have h4 : us[i]? = some x := by simpa using p1
    obtain rfl : u2 = x := Option.some.inj (h3.symm.trans h4)
    have at2 : h''.get? s.heap.objs.size = some { cls := .type "tuple", data := .seq #[.int i tk', u2] } := (sb.2 _ (Nat.ne_of_gt el)).trans nT
    have born : ObjOk X.prog X.w (upd H s.heap.objs.size (.tup [.int (i : Nat), xs[i]])) h'' s.heap.objs.size (.tup [.int (i : Nat), xs[i]]) :=
      ⟨(by show 2 ≤ sizeLine; decide), [.int i tk', u2], .cons ⟨_, rfl⟩ (.cons r3 .nil), ⟨_, at2, rfl, _, rfl⟩⟩
    have J : Inv X pins σ (upd H s.heap.objs.size (.tup [.int (i : Nat), xs[i]])) { s with heap := h'', toks := tk' + 1 } :=
      I.turnedNew (ch := [e, it]) (fun d o nd q => (sb.2 d (fun r => nd (by simp [r]))).trans (kp d o (fun r => nd (by simp [r])) (fun r => nd (by simp [r])) q)) own (Nat.le_refl _) born
    refine ⟨.ref s.heap.objs.size, _, J, rfl, ⟨_, xs[i], rfl, I.hok.fresh (Nat.le_refl _), rfl, fun ys hy => by rw [I.tuple_inj hy hx]; exact List.getElem?_eq_getElem lt⟩, ⟨⟨u2, ?_⟩, iterX_at s1.1 fun o q => (sb.2 it (Ne.symm hne)).trans q, hne, hea⟩, fun d hd => ?_⟩
    · rw [show ((i + 1 : Nat) : Int) = (i : Int) + 1 by omega]
      exact back
    · have dl : d < s.heap.objs.size := by
        have cs : d = e ∨ d = it := by simpa using hd
        rcases cs with r | r
        · rw [r]; exact el
        · rw [r]; obtain ⟨_, ei, _⟩ := iterX_rec hi; exact Heap.lt_size ei
      rw [upd_ne (Nat.ne_of_lt dl)]
      exact (own d hd).1
  done := by
    intro X e1 e2 e3 calm i pins s σ H E I own st g
    subst e1 e2 e3
    obtain ⟨⟨old, he⟩, hi, hne, hea⟩ := st
    obtain ⟨xs, hx, en⟩ := g
    obtain ⟨us, rv, col⟩ := seqX (f := true) I hx
    have D := drawsX (prog := X.prog) (w := X.w) (A := X.A.in1) (I.ok.hd calm) true it a (iterX_ne hi col) us.toArray
    have ln : i = us.toArray.size := by rw [List.size_toArray, ← rv.length]; exact en
    subst ln
    exact wpAny_pyNext_enum_endD D he ⟨hi, col⟩ fun h' eb => ⟨rfl, I.turnedL (t' := s.toks) (ch := [e, it]) (fun b o nb q => eb b o (fun r => nb (by simp [r])) q) own⟩
  self := fun A i s Q E st h => let ⟨⟨_, he⟩, _⟩ := st; wpAny_pyIter_enum he h
def iEnumT (K : PySem.W.Frag) (ta : TA) : TI := fun σ H R => ta σ H fun vs H1 => ∃ a xs, vs = [.ref a] ∧ SqT K H1 a xs ∧ R (IteT K a) H1
theorem pi_enumT {X : Cx} {e : Expr} {ta : TA} {p pos tpos : Pos} {elts : List Expr} {kk : Nat} (hg : Gl X "enumerate") (hm : X.mg "enumerate" = none) (ha : PA X [e] ta) (h1 : starEach [e] X.env = [(false, eval e X.env)] := by rfl) :
    PI X (.Tuple elts kk tpos) (.Call (.Name "enumerate" p) [e] [] pos) (iEnumT X.K ta) := by
  refine ⟨fun pins s σ H R I h => ?_⟩
  refine Call_ (ld_blt I hg hm boot_enumerate (PyProof.Rows.callWith_type1 (thn (ha.run pos pins s σ H _ I h) fun us s1 ⟨vs, H1, I1, rr, q⟩ => ?_) h1 rfl))
  obtain ⟨a, xs, ev, hx, q⟩ := q
  subst ev
  obtain ⟨u1, rfl, r1⟩ := vals1 rr
  cases r1
  obtain ⟨its, rv, col⟩ := seqX (f := true) I1 hx
  have al := colX_lt col
  refine enumT_begins col fun h' g1 g2 kp => wpAny_pyIter_enum g1 ?_
  have J : Inv X pins σ H1 { s1 with heap := h' } := I1.kept (t' := s1.toks) kp
  refine ⟨s1.heap.objs.size + 1, [s1.heap.objs.size + 1, s1.heap.objs.size], _, _, H1, rfl, J, turn_enumT a (s1.heap.objs.size + 1) s1.heap.objs.size, ⟨⟨.none, g1⟩, iterO_at g2, Nat.succ_ne_self _, Nat.ne_of_gt (Nat.lt_succ_of_lt al)⟩, fun c hc => ?_, q⟩
  have cs : c = s1.heap.objs.size + 1 ∨ c = s1.heap.objs.size := by simpa using hc
  have up : s1.heap.objs.size ≤ c := by
    rcases cs with e | e <;> rw [e] <;> first | exact Nat.le_refl _ | exact Nat.le_add_right _ _
  exact I1.fpOk up (I1.hok.fresh up)
theorem walk_enumT {K : PySem.W.Frag} {a : Addr} {xs : List V} : Walk (IteT K a) xs.length (fun H => SqT K H a xs) (YPair (fun i => some (.int (i : Nat))) fun i => xs[i]?) where
  goes := fun i H hi q => ⟨xs, q, hi⟩
  stops := fun H q => ⟨xs, q, rfl⟩
  yields := fun i H v H' hi q y => by
    obtain ⟨T, x, h1, h2, h3, h4⟩ := y
    exact ⟨T, .int (i : Nat), x, h1, h2, h3, rfl, h4 xs q⟩

/-! ### match over texts -/
abbrev TM := V → TS
structure PM (X : Cx) (cs : List MatchCase) (t : TM) : Prop where
  run : ∀ (pins : List (Addr × Obj)) (s : Shared) (σ : L2.St) (H : Hp) (D : Ends) (x : V) (v : Value) (first : Bool), Inv X pins σ H s → RelV x v → t x D σ H →
    wpAny (model X.prog X.w) X.A (matchCases cs X.env v first) (SP X pins D) X.xe s
theorem pm_any {X : Cx} {body : List Stmt} {rest : List MatchCase} {pos : Pos} {tb : TS} (hb : PSs X body tb) : PM X (⟨.MatchAs none none pos, none, body⟩ :: rest) (fun _ => tb) := by
  refine ⟨fun pins s σ H D x v first I r h => ?_⟩
  refine wpAny_matchCases_cons (wpAny_matchPattern_Capture ?_)
  exact wpAny_assignInOrder_none (hb.run pins s σ H D I h)
theorem pm_str {X : Cx} {body : List Stmt} {rest : List MatchCase} {z : String} {j : Nat} {p1 p2 : Pos} {tb : TS} {tr : TM} (hb : PSs X body tb) (hr : PM X rest tr) :
    PM X (⟨.MatchValue (.Constant (.str z) j p1) p2, none, body⟩ :: rest) (fun x D σ H => ∃ y, x = .str y ∧ if y = Str.ofString z then tb D σ H else tr x D σ H) := by
  refine ⟨fun pins s σ H D x v first I r h => ?_⟩
  obtain ⟨y, rfl, h⟩ := h
  obtain ⟨t, rfl⟩ := id r
  refine wpAny_matchCases_cons (wpAny_matchPattern_Value (Calls.Constant_str (eq_str ?_)))
  refine wpAny_truthy_bool ?_
  by_cases e : y = Str.ofString z
  · rw [if_pos e] at h
    rw [if_pos (by simpa using e)]
    exact wpAny_assignInOrder_none (hb.run pins _ σ H D (I.tok _) h)
  · rw [if_neg e] at h
    rw [if_neg (by simpa using e)]
    exact hr.run pins _ σ H D (.str y) (.str y t) false (I.tok _) ⟨t, rfl⟩ h
theorem ps_match {X : Cx} {e : Expr} {cs : List MatchCase} {pos : Pos} {te : TE} {t : TM} (he : PE X e te) (hm : PM X cs t) : PS X (.Match e cs pos) (fun D σ H => te σ H fun x H1 => t x D σ H1) :=
  ⟨fun pins s σ H D I h => wpAny_Match (thn (he.run pins s σ H _ I h) fun v s1 ⟨x, H1, I1, r, q⟩ => hm.run pins s1 σ H1 D x v true I1 r q)⟩

/-! ### repr of data -/
theorem call_reprD {X : Cx} (hg : X.A.guards = some []) (hu : X.A.units + 66 < cLine) : CallR X (.builtin "repr") (fun xs H Q => ∃ a d, xs = [.ref a] ∧ Dp X.K H (.ref a) d ∧ PyData.showable d = true ∧ PyData.hasDict d = false ∧ PyData.depth d ≤ 64 ∧ d.shown.length ≤ sizeLine ∧ Q (.str d.shown) H) := by
  intro pins s σ H xs us Q I r h
  obtain ⟨a, d, rfl, hd, h1, h2, h3, h4, q⟩ := h
  obtain ⟨u, rfl, ru⟩ := vals1 r
  cases ru
  obtain ⟨as, rd⟩ := Dp.reads I d _ _ hd rfl
  exact repr_of_reads' rd h1 (fun e => by rw [h2] at e; cases e) hg (by omega) (fun _ _ e => e) (fun h' u tk kp => ⟨.str _, H, I.kept kp, ⟨u, rfl⟩, q⟩) h4
end Tw

set_option Elab.async false
set_option maxRecDepth 100000
set_option maxHeartbeats 4000000
/-! B2: the text by places, what the top has left, calls of the text's own defs by their promises. -/
namespace Tw
open PySem PySem.Spec L2 PyProof.Rows
def topS (i : Nat) : Stmt := PySem.Challenge.pw_thawedwrites_k70_whole_program_text.main.body.getD i (.Pass ⟨0, 0, 0, 0⟩)
/-- a def of the top as it stands -/
structure Dfn (K : PySem.W.Frag) (mg : Str → Option Value) (x : Str) (st : Stmt) : Prop where
  ex : ∃ f fd, Fun K x x st f fd ∧ mg x = some (.ref f)
/-- a method of a class of the top -/
structure Mdf (K : PySem.W.Frag) (C m q : Str) (st : Stmt) : Prop where
  ex : ∃ f fd, Fun K m q st f fd ∧ Meth K (He.ga K C) m f
/-! the text by places -/
abbrev s_is_integer : Stmt := topS 9
abbrev s_is_word : Stmt := topS 10
abbrev s_is_word_list : Stmt := topS 11
abbrev s_is_number_below : Stmt := topS 12
abbrev s_shape_of : Stmt := topS 22
abbrev s_branches : Stmt := topS 23
abbrev s_is_good_part : Stmt := topS 24
abbrev s_row_fault : Stmt := topS 25
abbrev s_checked_readers : Stmt := topS 26
abbrev s_copied_rows : Stmt := topS 27
abbrev s_placed_rows : Stmt := topS 28
abbrev s_row_variables : Stmt := topS 29
abbrev s_P_init__ : Stmt := inClass (topS 30) 0
abbrev s_P_check_counts : Stmt := inClass (topS 30) 1
abbrev s_P_eq__ : Stmt := inClass (topS 30) 2
abbrev s_P_rows : Stmt := inClass (topS 30) 4
abbrev s_P_places_of : Stmt := inClass (topS 30) 6
abbrev s_P_places : Stmt := inClass (topS 30) 7
abbrev s_P_copies : Stmt := inClass (topS 30) 8
abbrev s_P_readers : Stmt := inClass (topS 30) 10
abbrev s_P_variables : Stmt := inClass (topS 30) 11
abbrev s_row_lines : Stmt := topS 36
abbrev s_program_text : Stmt := topS 37
abbrev s_number_of : Stmt := topS 38
abbrev s_head_words : Stmt := topS 39
abbrev s_plain_row : Stmt := topS 40
abbrev s_R_init__ : Stmt := inClass (topS 41) 0
abbrev s_R_level_allowed : Stmt := inClass (topS 41) 1
abbrev s_R_close_to : Stmt := inClass (topS 41) 2
abbrev s_R_take : Stmt := inClass (topS 41) 3
abbrev s_R_is_complete : Stmt := inClass (topS 41) 4
abbrev s_read_program : Stmt := topS 42
abbrev s_law_state : Stmt := topS 44
abbrev s_law_draw : Stmt := topS 45
abbrev s_law_words : Stmt := topS 46
abbrev s_law_choose : Stmt := topS 47
abbrev s_law_plain : Stmt := topS 48
abbrev s_law_row : Stmt := topS 49
abbrev s_law_rows : Stmt := topS 50
abbrev s_law_program : Stmt := topS 51
abbrev s_law_special : Stmt := topS 52
abbrev s_law_named : Stmt := topS 53
abbrev s_law_lines : Stmt := topS 54
abbrev s_law_texted : Stmt := topS 55
abbrev s_law : Stmt := topS 56
structure Txt (w : World) (K : PySem.W.Frag) (mg : Str → Option Value) : Prop where
  b_isinstance : mg "isinstance" = none
  b_len : mg "len" = none
  b_zip : mg "zip" = none
  b_enumerate : mg "enumerate" = none
  b_range : mg "range" = none
  b_str : mg "str" = none
  b_int : mg "int" = none
  b_bool : mg "bool" = none
  b_list : mg "list" = none
  b_tuple : mg "tuple" = none
  b_all : mg "all" = none
  b_max : mg "max" = none
  b_repr : mg "repr" = none
  c_LONGEST : ∃ t, mg "LONGEST" = some (.int 8 t)
  c_DEPTHS : ∃ t, mg "DEPTHS" = some (.int 5 t)
  c_MOST_NESTED : ∃ t, mg "MOST_NESTED" = some (.int 4 t)
  c_MOST_ROWS : ∃ t, mg "MOST_ROWS" = some (.int 20 t)
  c_MOST_VARIABLES : ∃ t, mg "MOST_VARIABLES" = some (.int 6 t)
  c_MOST_COPIES : ∃ t, mg "MOST_COPIES" = some (.int 4 t)
  c_MOST_READERS : ∃ t, mg "MOST_READERS" = some (.int 3 t)
  c_MOST_LEVEL : ∃ t, mg "MOST_LEVEL" = some (.int 3 t)
  c_LETTERS : ∃ t, mg "LETTERS" = some (.str "abcdefghijklmnopqrstuvwxyz" t)
  g_SHAPES : mg "SHAPES" = some (.ref (He.ga K "SHAPES"))
  g_PARTS : mg "PARTS" = some (.ref (He.ga K "PARTS"))
  g_KINDS : mg "KINDS" = some (.ref (He.ga K "KINDS"))
  g_HEADS : mg "HEADS" = some (.ref (He.ga K "HEADS"))
  g_Program : mg "Program" = some (.ref (He.ga K "Program"))
  g_RowReader : mg "RowReader" = some (.ref (He.ga K "RowReader"))
  kinds : ∀ H, SqT K H (He.ga K "KINDS") [.str "freeze", .str "thaw"]
  heads : ∀ H, SqT K H (He.ga K "HEADS") [.str "inputs", .str "fields", .str "outputs"]
  kdS : ∃ es n, KDict K w (He.ga K "SHAPES") es n
  kdP : ∃ es n, KDict K w (He.ga K "PARTS") es n
  shapes : ∀ q ∈ shapesL, KDct K w (He.ga K "SHAPES") q.1 (.str q.2)
  parts : ∀ q ∈ partsL, KDct K w (He.ga K "PARTS") q.1 (.str q.2)
  cl_Program : Cls K (He.ga K "Program")
  mk_Program : Mk K (He.ga K "Program") (He.ma K (He.ga K "Program") "__init__")
  cl_RowReader : Cls K (He.ga K "RowReader")
  mk_RowReader : Mk K (He.ga K "RowReader") (He.ma K (He.ga K "RowReader") "__init__")
  isP : ∀ (H : Hp) (a dx : Addr) (fs : List (Str × V)), H a = some (.ins (He.ga K "Program") dx fs) → TyX K H (.ref a) (.ref (He.ga K "Program"))
  isP1 : PySem.W.kitOne K (.ref (He.ga K "Program")) (.ref (He.ga K "Program")) = some true
  n_inputs : NoAttr K (He.ga K "Program") "inputs"
  n_fields : NoAttr K (He.ga K "Program") "fields"
  n_outputs : NoAttr K (He.ga K "Program") "outputs"
  n_body : NoAttr K (He.ga K "Program") "body"
  n_blocks : NoAttr K (He.ga K "RowReader") "blocks"
  n_unfinished : NoAttr K (He.ga K "RowReader") "unfinished"
  d_is_integer : Dfn K mg "is_integer" s_is_integer
  d_is_word : Dfn K mg "is_word" s_is_word
  d_is_word_list : Dfn K mg "is_word_list" s_is_word_list
  d_is_number_below : Dfn K mg "is_number_below" s_is_number_below
  d_shape_of : Dfn K mg "shape_of" s_shape_of
  d_branches : Dfn K mg "branches" s_branches
  d_is_good_part : Dfn K mg "is_good_part" s_is_good_part
  d_row_fault : Dfn K mg "row_fault" s_row_fault
  d_checked_readers : Dfn K mg "checked_readers" s_checked_readers
  d_copied_rows : Dfn K mg "copied_rows" s_copied_rows
  d_placed_rows : Dfn K mg "placed_rows" s_placed_rows
  d_row_variables : Dfn K mg "row_variables" s_row_variables
  d_P_init__ : Mdf K "Program" "__init__" "Program.__init__" s_P_init__
  d_P_check_counts : Mdf K "Program" "check_counts" "Program.check_counts" s_P_check_counts
  d_P_eq__ : Mdf K "Program" "__eq__" "Program.__eq__" s_P_eq__
  d_P_rows : Mdf K "Program" "rows" "Program.rows" s_P_rows
  d_P_places_of : Mdf K "Program" "places_of" "Program.places_of" s_P_places_of
  d_P_places : Mdf K "Program" "places" "Program.places" s_P_places
  d_P_copies : Mdf K "Program" "copies" "Program.copies" s_P_copies
  d_P_readers : Mdf K "Program" "readers" "Program.readers" s_P_readers
  d_P_variables : Mdf K "Program" "variables" "Program.variables" s_P_variables
  d_row_lines : Dfn K mg "row_lines" s_row_lines
  d_program_text : Dfn K mg "program_text" s_program_text
  d_number_of : Dfn K mg "number_of" s_number_of
  d_head_words : Dfn K mg "head_words" s_head_words
  d_plain_row : Dfn K mg "plain_row" s_plain_row
  d_R_init__ : Mdf K "RowReader" "__init__" "RowReader.__init__" s_R_init__
  d_R_level_allowed : Mdf K "RowReader" "level_allowed" "RowReader.level_allowed" s_R_level_allowed
  d_R_close_to : Mdf K "RowReader" "close_to" "RowReader.close_to" s_R_close_to
  d_R_take : Mdf K "RowReader" "take" "RowReader.take" s_R_take
  d_R_is_complete : Mdf K "RowReader" "is_complete" "RowReader.is_complete" s_R_is_complete
  d_read_program : Dfn K mg "read_program" s_read_program
  d_law_state : Dfn K mg "_law_state" s_law_state
  d_law_draw : Dfn K mg "_law_draw" s_law_draw
  d_law_words : Dfn K mg "_law_words" s_law_words
  d_law_choose : Dfn K mg "_law_choose" s_law_choose
  d_law_plain : Dfn K mg "_law_plain" s_law_plain
  d_law_row : Dfn K mg "_law_row" s_law_row
  d_law_rows : Dfn K mg "_law_rows" s_law_rows
  d_law_program : Dfn K mg "_law_program" s_law_program
  d_law_special : Dfn K mg "_law_special" s_law_special
  d_law_named : Dfn K mg "_law_named" s_law_named
  d_law_lines : Dfn K mg "_law_lines" s_law_lines
  d_law_texted : Dfn K mg "_law_texted" s_law_texted
  d_law : Dfn K mg "law" s_law
/-! ### calls -/
section
variable {P : Program} {w : World} {K : PySem.W.Frag} {mg : Str → Option Value} {base : Heap}
/-- a def of the top that keeps a promise -/
structure Cal (P : Program) (w : World) (K : PySem.W.Frag) (mg : Str → Option Value) (base : Heap) (x : Str) (k : Nat) (ps : List Str) (sp : Sp) : Prop where
  ex : ∃ f fd, FnOk P w K mg base CX0 k f fd ps sp ∧ mg x = some (.ref f) ∧ PySem.W.keepIn K (.ref f) = true ∧ Binds K fd ps []
/-- a method that keeps a promise -/
structure Mal (P : Program) (w : World) (K : PySem.W.Frag) (mg : Str → Option Value) (base : Heap) (C m : Str) (k : Nat) (ps : List Str) (sp : Sp) : Prop where
  ex : ∃ f fd, FnOk P w K mg base CX0 k f fd ps sp ∧ Meth K (He.ga K C) m f ∧ Binds K fd ps []
theorem Cal.mono {x : Str} {j k : Nat} {ps : List Str} {sp : Sp} (c : Cal P w K mg base x j ps sp) (h : j ≤ k) : Cal P w K mg base x k ps sp := by
  obtain ⟨f, fd, G, r⟩ := c.ex
  exact ⟨f, fd, G.mono h, r⟩
theorem Mal.mono {C m : Str} {j k : Nat} {ps : List Str} {sp : Sp} (c : Mal P w K mg base C m j ps sp) (h : j ≤ k) : Mal P w K mg base C m k ps sp := by
  obtain ⟨f, fd, G, r⟩ := c.ex
  exact ⟨f, fd, G.mono h, r⟩
theorem Cal.imp {x : Str} {k : Nat} {ps : List Str} {sp sp' : Sp} (c : Cal P w K mg base x k ps sp) (h : ∀ vs H Q E, sp' vs H Q E → sp vs H Q E) : Cal P w K mg base x k ps sp' := by
  obtain ⟨f, fd, G, r⟩ := c.ex
  exact ⟨f, fd, G.imp h, r⟩
abbrev BindOk (x q : Str) (st : Stmt) (ps : List Str) : Prop := ∀ (kV doc pm : Value) (an : Option Addr) (cdv ct : Value) (us : List Value), us.length = ps.length →
  bindArgs (PySem.W.fnOf x q (defArgs st) (defBody st) (defScope st) .none kV doc pm an cdv ct) ⟨us, []⟩ = pure (ps.zip us)
abbrev BodyOk (P : Program) (w : World) (K : PySem.W.Frag) (mg : Str → Option Value) (base : Heap) (N : List Str) (q : Str) (st : Stmt) (k : Nat) (sp : Sp) : Prop :=
  ∀ (f : Addr) (cdv : Value) (A : Around) (outer : List Env) (s : Shared) (H : Hp) (vs : List V) (Q : VK) (E : XK), Room k (A.deeper (envOfC q (defScope st) s.heap.objs.size f cdv)) → sp vs H Q E →
    ∃ t, PSs (cxOf CX0 P w K mg base N q (defScope st) f cdv A outer s H E).nox (defBody st) t ∧ t { nx := fun _ H' => Q .non H', rt := Q } (start N vs) H
theorem Dfn.cal {x : Str} {st : Stmt} {N ps : List Str} {k : Nat} {sp : Sp} (D : Dfn K mg x st) (S : FnScope N ps (defScope st)) (b : BindOk x x st ps) (len : ∀ vs H Q E, sp vs H Q E → vs.length = ps.length)
    (body : BodyOk P w K mg base N x st k sp) : Cal P w K mg base x (k + 1) ps sp := by
  obtain ⟨f, fd, F, g⟩ := D.ex
  exact ⟨f, fd, F.ok S len (body f), g, F.kp, F.binds b⟩
theorem Mdf.cal {C m q : Str} {st : Stmt} {N ps : List Str} {k : Nat} {sp : Sp} (D : Mdf K C m q st) (S : FnScope N ps (defScope st)) (b : BindOk m q st ps) (len : ∀ vs H Q E, sp vs H Q E → vs.length = ps.length)
    (body : BodyOk P w K mg base N q st k sp) : Mal P w K mg base C m (k + 1) ps sp := by
  obtain ⟨f, fd, F, g⟩ := D.ex
  exact ⟨f, fd, F.ok S len (body f), g, F.binds b⟩
end
def tCl (sp : Sp) (t : TA) : TE := fun σ H Q => t σ H fun vs H1 => sp vs H1 Q E0
def tMl (C : Addr) (m : Str) (sp : Sp) (ta : TE) (t : TA) : TE := fun σ H Q => ta σ H fun x H1 => ∃ a dx fs, x = .ref a ∧ H1 a = some (.ins C dx fs) ∧ fs.lookup m = none ∧ t σ H1 fun vs H2 => sp (.ref a :: vs) H2 Q E0
section
variable {X : Cx} {x m C : Str} {p apos pos : Pos} {o e : Expr} {es : List Expr} {t : TA} {ta : TE} {k : Nat} {ps : List Str} {sp : Sp}
theorem pe_c (c : Cal X.prog X.w X.K X.mg X.base x k ps sp) (hr : Room k X.A) (ha : PA X (e :: es) t) (hg : Gl X x := by rfl) (hdb : (x == ("__debug__" : Str)) = false := by decide)
    (he : starEach (e :: es) X.env = (false, eval e X.env) :: starEach es X.env := by rfl) (hpl : (backTo pos (starEach es X.env)).any (·.1) = false := by rfl) : PE X (.Call (.Name x p) (e :: es) [] pos) (tCl sp t) := by
  obtain ⟨f, fd, G, hm, kp, b⟩ := c.ex
  refine ⟨fun pins s σ H Q I h => (pe_call G hr hg hm kp b .nil pass0 ha hdb he hpl).run pins s σ H Q I ?_⟩
  have e1 : (fun (vs : List V) H1 => sp (vs ++ []) H1 Q E0) = fun vs H1 => sp vs H1 Q E0 := funext fun vs => by rw [List.append_nil]
  show t σ H fun vs H1 => sp (vs ++ []) H1 Q E0
  rw [e1]
  exact h
end

/-! ### constants, isinstance, written dicts -/
section
variable {X : Cx} {x : Str} {p p2 pos apos : Pos} {o e e2 : Expr} {te ty td tx : TE}
theorem pe_gI {i : Int} (h : ∃ t, X.mg x = some (.int i t)) (hg : Gl X x := by rfl) (hd : (x == ("__debug__" : Str)) = false := by decide) : PE X (.Name x pos) (tC (.int i)) := by
  obtain ⟨t, h⟩ := h
  exact pe_glob hg h ⟨t, rfl⟩ hd
theorem pe_gS {z : Str} (h : ∃ t, X.mg x = some (.str z t)) (hg : Gl X x := by rfl) (hd : (x == ("__debug__" : Str)) = false := by decide) : PE X (.Name x pos) (tC (.str z)) := by
  obtain ⟨t, h⟩ := h
  exact pe_glob hg h ⟨t, rfl⟩ hd
theorem pe_gR {a : Addr} (h : X.mg x = some (.ref a)) (hg : Gl X x := by rfl) (hd : (x == ("__debug__" : Str)) = false := by decide) : PE X (.Name x pos) (tC (.ref a)) := pe_glob hg h rfl hd
/-- isinstance(e, T), T a built-in type -/
theorem pe_isi {T : String} {y : Str} (he : PE X e te) (m1 : X.mg "isinstance" = none) (m2 : X.mg y = none) (hv : bootBuiltins y = some (.type T)) (g1 : Gl X "isinstance" := by rfl) (g2 : Gl X y := by rfl) (hn : y ≠ "__name__" := by decide) (hd : (y == ("__debug__" : Str)) = false := by decide)
    (s1 : starEach [e, .Name y p2] X.env = (false, eval e X.env) :: starEach [.Name y p2] X.env := by rfl) (s2 : (backTo pos (starEach [.Name y p2] X.env)).any (·.1) = false := by rfl) :
    PE X (.Call (.Name "isinstance" p) [e, .Name y p2] [] pos) (tCB (rIsi X.K) (tCons te (tCons (tC (.ty T)) tNil))) :=
  pe_callB call_isi g1 m1 boot_isinstance (pa_cons he (pa_cons (pe_bltn (v := .ty T) g2 m2 hv rfl hn hd) pa_nil) s1) (by decide) (by decide) s1 s2
theorem isi_q {K : PySem.W.Frag} {H : Hp} {Q : VK} {x : V} {T : String} (t : String) (b : Bool) (h1 : TyX K H x (.type t)) (h2 : kitB t T = some b) (q : Q (.bl b) H) : rIsi K [x, .ty T] H Q := ⟨x, .ty T, .type t, .type T, b, rfl, .ty T, h1, kit_ty h2, q⟩
/-- NAME.get(e), NAME.get(e, x) of a written dict -/
def tKG1 (K : PySem.W.Frag) (w : World) (td ty : TE) : TE := fun σ H Q => td σ H fun x H1 => ∃ a es n, x = .ref a ∧ KDict K w a es n ∧ ty σ H1 fun y H2 => ∃ z v, y = .str z ∧ KDct K w a z v ∧ Q v H2
def tKG2 (K : PySem.W.Frag) (w : World) (td ty tx : TE) : TE := fun σ H Q => td σ H fun x H1 => ∃ a es n, x = .ref a ∧ KDict K w a es n ∧ ty σ H1 fun y H2 => tx σ H2 fun d H3 => ∃ z v, y = .str z ∧ KDct K w a z v ∧ Q v H3
theorem kd_exact {pins : List (Addr × Obj)} {σ : L2.St} {H : Hp} {s : Shared} {a : Addr} {es : Array DictEntry} {n : Nat} (I : Inv X pins σ H s) (D : KDict X.K X.w a es n) : ∀ b, Value.ref a = .ref b → ∃ ob, s.heap.get? b = some ob ∧ ob.dict = none := fun b q => by
  cases q
  exact ⟨_, I.kIn _ _ D.at_, rfl⟩
theorem kd_map {pins : List (Addr × Obj)} {σ : L2.St} {H : Hp} {s : Shared} {a : Addr} {es : Array DictEntry} {n : Nat} {z : Str} {v : V} (I : Inv X pins σ H s) (D : KDict X.K X.w a es n) (k : KDct X.K X.w a z v) :
    ∃ f u, s.heap.MapOf (strKind X.prog X.w) a f ∧ f z = some u ∧ RelV v u := by
  obtain ⟨es', n', u, l, lit, e, r⟩ := k
  exact ⟨_, u, PySem.W.mapOf_K (prog := X.prog) (w := X.w) I.kIn l lit, PySem.W.find_K l e, r⟩
theorem pe_kg1 (ho : PE X o td) (he : PE X e ty) (m : M1 X o "get" apos e pos) : PE X (.Call (.Attribute o "get" apos) [e] [] pos) (tKG1 X.K X.w td ty) := by
  refine ⟨fun pins s σ H Q I h => ?_⟩
  refine wpAny_Call_method m.base m.few m.line PySem.F.plainAttrs_dict PySem.F.slot_dict_get PySem.F.type_dict_get (thn (ho.run pins s σ H _ I h) fun u s1 ⟨x, H1, I1, rx, a, es, n, ex, D, q⟩ => ?_)
  subst ex
  cases rx
  refine ⟨kd_type D I1, kd_exact I1 D, ?_⟩
  rw [m.trees]
  refine Calls.callWith_builtin rfl (Calls.evalArgs_plain (Calls.spliced_cons (thn (he.run pins s1 σ H1 _ I1 q) fun u2 s2 ⟨y, H2, I2, ry, z, v, ey, k, q2⟩ => Calls.spliced_nil ?_)))
  subst ey
  obtain ⟨t, rfl⟩ := ry
  obtain ⟨f, u, hm, e1, r⟩ := kd_map I2 D k
  refine call_meetsIn PySem.F.slot_dict_get (kd_type D I2) PySem.F.entry_dict_get (PySem.F.args_dict_get_2 _ _) (meets_dict_get (strKind X.prog X.w) a (strKind_is X.prog X.w z t) D.low) ⟨f, hm, ?_⟩
  rw [e1]
  exact ⟨v, H2, I2.tok _, r, q2⟩
theorem pe_kg2 (ho : PE X o td) (he : PE X e ty) (hf : PE X e2 tx) (m : M2 X o "get" apos e e2 pos) : PE X (.Call (.Attribute o "get" apos) [e, e2] [] pos) (tKG2 X.K X.w td ty tx) := by
  refine ⟨fun pins s σ H Q I h => ?_⟩
  refine wpAny_Call_method m.base m.few m.line PySem.F.plainAttrs_dict PySem.F.slot_dict_get PySem.F.type_dict_get (thn (ho.run pins s σ H _ I h) fun u s1 ⟨x, H1, I1, rx, a, es, n, ex, D, q⟩ => ?_)
  subst ex
  cases rx
  refine ⟨kd_type D I1, kd_exact I1 D, ?_⟩
  rw [m.trees]
  refine Calls.callWith_builtin rfl (Calls.evalArgs_plain (Calls.spliced_cons (thn (he.run pins s1 σ H1 _ I1 q) fun u2 s2 ⟨y, H2, I2, ry, q2⟩ =>
    Calls.spliced_cons (thn (hf.run pins s2 σ H2 _ I2 q2) fun u3 s3 ⟨d, H3, I3, rd, z, v, ey, k, q3⟩ => Calls.spliced_nil ?_))))
  subst ey
  obtain ⟨t, rfl⟩ := ry
  obtain ⟨f, u, hm, e1, r⟩ := kd_map I3 D k
  refine call_meetsIn PySem.F.slot_dict_get (kd_type D I3) PySem.F.entry_dict_get (PySem.F.args_dict_get_3 _ _ _) (meets_dict_get_default (strKind X.prog X.w) a (strKind_is X.prog X.w z t) D.low u3) ⟨f, hm, ?_⟩
  rw [e1]
  exact ⟨v, H3, I3.tok _, r, q3⟩
end
end Tw

set_option Elab.async false
set_option maxRecDepth 100000
set_option maxHeartbeats 4000000
/-! C1: words. -/
namespace Tw
open PySem PySem.Spec L2 PyProof.Rows
theorem letters_all : ∀ c, 97 ≤ c → c ≤ 122 → c ∈ (Str.ofString "abcdefghijklmnopqrstuvwxyz").cps.toList := by
  intro c h1 h2
  have e : (Str.ofString "abcdefghijklmnopqrstuvwxyz").cps.toList = (List.range 26).map (· + 97) := by decide +kernel
  rw [e]
  exact List.mem_map.mpr ⟨c - 97, List.mem_range.mpr (by omega), by show c - 97 + 97 = c; omega⟩
theorem line8 {n : Nat} (h : n ≤ 8) : n ≤ sizeLine := Nat.le_trans h (by decide)
section
variable {P : Program} {w : World} {K : PySem.W.Frag} {mg : Str → Option Value} {base : Heap}
theorem ty_int {H : Hp} (i : Int) : TyX K H (.int i) (.type "int") := .base (.int i)
theorem ty_str {H : Hp} (x : Str) : TyX K H (.str x) (.type "str") := .base (.str x)
/-! is_integer -/
def sp_is_integer : Sp := fun vs H Q _ => ∃ i : Int, vs = [.int i] ∧ Q (.bl true) H
theorem sc_is_integer : FnScope ["value"] ["value"] (defScope s_is_integer) := ⟨rfl, rfl, rfl, by decide +kernel, rfl, by decide +kernel, by decide +kernel⟩
theorem c_is_integer (T : Txt w K mg) : Cal P w K mg base "is_integer" 1 ["value"] sp_is_integer := by
  refine T.d_is_integer.cal sc_is_integer (fun _ _ _ _ _ _ us hl => match us, hl with | [_], _ => rfl) (fun vs H Q E h => by obtain ⟨i, rfl, _⟩ := h; rfl) (fun f cdv A outer s H vs Q E hr h => ?_)
  obtain ⟨i, rfl, q⟩ := h
  refine ⟨_, pss_one (ps_ret (pe_and (pe_isi (pv 0) T.b_isinstance T.b_int boot_int) (pe_one (pe_not (pe_isi (pv 0) T.b_isinstance T.b_bool boot_bool))))), ?_⟩
  refine ⟨_, rfl, _, _, .type "int", .type "int", true, rfl, .ty _, ty_int i, kit_ty (by decide +kernel), true, rfl, iteT ?_⟩
  exact ⟨_, rfl, _, _, .type "int", .type "bool", false, rfl, .ty _, ty_int i, kit_ty (by decide +kernel), false, rfl, q⟩
/-! is_number_below -/
def sp_is_number_below : Sp := fun vs H Q _ => ∃ i n : Int, vs = [.int i, .int n] ∧ 0 ≤ i ∧ i < n ∧ Q (.bl true) H
theorem sc_is_number_below : FnScope ["value", "count"] ["value", "count"] (defScope s_is_number_below) := ⟨rfl, rfl, rfl, by decide +kernel, rfl, by decide +kernel, by decide +kernel⟩
theorem c_is_number_below (T : Txt w K mg) : Cal P w K mg base "is_number_below" 2 ["value", "count"] sp_is_number_below := by
  refine T.d_is_number_below.cal sc_is_number_below (fun _ _ _ _ _ _ us hl => match us, hl with | [_, _], _ => rfl) (fun vs H Q E h => by obtain ⟨i, n, rfl, _⟩ := h; rfl) (fun f cdv A outer s H vs Q E hr h => ?_)
  obtain ⟨i, n, rfl, h0, h1, q⟩ := h
  refine ⟨_, pss_one (ps_ret (pe_and (pe_c (c_is_integer T) hr (pa_cons (pv 0) pa_nil)) (pe_one (pe_chain op_le op_lt pe_int (pv 0) (pv 1))))), ?_⟩
  refine ⟨_, rfl, i, rfl, true, rfl, iteT ?_⟩
  refine ⟨_, rfl, _, _, rfl, rfl, _, rfl, ?_⟩
  rw [decide_eq_true h0]
  refine iteT ⟨_, rfl, _, _, rfl, rfl, ?_⟩
  show Q (.bl (decide (i < n))) H
  rw [decide_eq_true h1]
  exact q
/-! is_word -/
def sp_is_word : Sp := fun vs H Q _ => ∃ x : Str, vs = [.str x] ∧ isW x ∧ Q (.bl true) H
theorem sc_is_word : FnScope ["value", "letter"] ["value"] (defScope s_is_word) := ⟨rfl, rfl, rfl, by decide +kernel, rfl, by decide +kernel, by decide +kernel⟩
theorem c_is_word (T : Txt w K mg) : Cal P w K mg base "is_word" 1 ["value"] sp_is_word := by
  refine T.d_is_word.cal sc_is_word (fun _ _ _ _ _ _ us hl => match us, hl with | [_], _ => rfl) (fun vs H Q E h => by obtain ⟨i, rfl, _⟩ := h; rfl) (fun f cdv A outer s H vs Q E hr h => ?_)
  obtain ⟨x, rfl, ⟨w1, w2, w3⟩, q⟩ := h
  refine ⟨_, pss_cons (ps_if (PW.pt (pw_or (pt_not (pt_val (pe_isi (pv 0) T.b_isinstance T.b_str boot_str))) (pw_or1 (pt_not (pt_chain op_le op_le pe_int (pe_callB call_len_str (by rfl) T.b_len PySem.boot_len (pa_cons (pv 0) pa_nil)) (pe_gI T.c_LONGEST)))))) (pss_one ps_never) pss_nil)
    (pss_cons (ps_for PassesOwn.never rfl (pi_str (pv 0)) (pg_name (i := 1) sc_is_word.nd rfl (Or.inl rfl)) (pss_one (ps_if (pt_cmpR op_notIn_sign (pv 1) (pe_gS T.c_LETTERS) rfl) (pss_one ps_never) pss_nil)))
    (pss_one (ps_ret pe_bl))), ?_⟩
  refine ⟨_, rfl, _, _, .type "str", .type "str", true, rfl, .ty _, ty_str x, kit_ty (by decide +kernel), true, rfl, iteF ?_⟩
  refine ⟨_, rfl, x, rfl, line8 w2, _, _, rfl, rfl, _, rfl, ?_⟩
  rw [decide_eq_true (by omega)]
  refine iteT ⟨_, _, rfl, rfl, _, rfl, ?_⟩
  rw [decide_eq_true (by omega)]
  refine iteF ⟨_, rfl, x, rfl, for_it walk_str (fun i σ H' => (∃ v, σ = [some (.str x), v]) ∧ H' = H) ⟨⟨none, rfl⟩, rfl⟩ (fun _ _ _ _ _ => trivial) ?_ ?_⟩
  · rintro i y σ H1 H2 hi ⟨⟨v, rfl⟩, rfl⟩ ⟨rfl, c, hc, rfl⟩
    refine ⟨_, rfl, c, _, rfl, rfl, _, rfl, ?_⟩
    have hm : c ∈ x.cps.toList := by
      rw [← Array.getElem?_toList] at hc
      exact List.mem_of_getElem? hc
    rw [decide_eq_true (letters_all c (w3 c hm).1 (w3 c hm).2)]
    exact iteF ⟨⟨_, rfl⟩, rfl⟩
  · rintro σ H1 ⟨⟨v, rfl⟩, rfl⟩
    exact q
end
end Tw

set_option Elab.async false
set_option maxRecDepth 100000
set_option maxHeartbeats 4000000
/-! C2: lists of words, a row's shape, its parts. -/
namespace Tw
open PySem PySem.Spec L2 PyProof.Rows
/-- a list or a tuple -/
def SqA (K : PySem.W.Frag) (H : Hp) (a : Addr) (xs : List V) : Prop := SqL K H a xs ∨ SqT K H a xs
theorem sqA_same {K : PySem.W.Frag} {H H' : Hp} {a : Addr} {xs : List V} (e : Same H H') (h : SqA K H a xs) : SqA K H' a xs := h.elim (fun h => .inl (sqL_same e h)) fun h => .inr (sqT_same e h)
theorem ty_list {K : PySem.W.Frag} {H : Hp} {a : Addr} {xs : List V} (h : SqL K H a xs) : TyX K H (.ref a) (.type "list") := by
  rcases h with (h | ⟨o, h⟩) | ⟨o, its, n, h, hc, _⟩
  · exact .base (.lst h)
  · exact .base (.frz h)
  · exact .kList h hc
theorem ty_tup {K : PySem.W.Frag} {H : Hp} {a : Addr} {xs : List V} (h : SqT K H a xs) : TyX K H (.ref a) (.type "tuple") := by
  rcases h with (h | ⟨o, h⟩) | ⟨o, its, n, h, hc, _⟩
  · exact .base (.tup h)
  · exact .fTuple h
  · exact .kTuple h hc
/-- is it among them -/
theorem inV_str (x : Str) : ∀ xs : List Str, inV (.str x) (xs.map V.str) = decide (x ∈ xs)
  | [] => rfl
  | y :: ys => by
    have h := inV_str x ys
    unfold inV at h ⊢
    rw [List.map_cons, List.any_cons, h]
    by_cases e : y = x
    · subst e
      simp [eqV]
    · have e' : ¬ x = y := fun q => e q.symm
      simp [eqV, e, e']
theorem flat_strs (xs : List Str) : (xs.map V.str).all flatV = true := by
  rw [List.all_eq_true]
  intro v hv
  obtain ⟨x, _, rfl⟩ := List.mem_map.mp hv
  rfl
theorem take_get {α : Type} {xs : List α} {i : Nat} {x : α} (h : xs[i]? = some x) : xs.take (i + 1) = xs.take i ++ [x] := by
  rw [List.take_add_one, h]
  rfl
theorem drop_get {α : Type} {xs : List α} {i : Nat} {x : α} (h : xs[i]? = some x) : xs.drop i = x :: xs.drop (i + 1) := by
  obtain ⟨h1, h2⟩ := List.getElem?_eq_some_iff.mp h
  rw [List.drop_eq_getElem_cons h1, h2]
theorem map_get {α β : Type} {f : α → β} {xs : List α} {i : Nat} {y : β} (h : (xs.map f)[i]? = some y) : ∃ x, xs[i]? = some x ∧ y = f x := by
  rw [List.getElem?_map] at h
  obtain ⟨x, h1, h2⟩ := Option.map_eq_some_iff.mp h
  exact ⟨x, h1, h2.symm⟩
theorem nd_take {α : Type} {xs : List α} {i : Nat} {x : α} (hn : xs.Nodup) (h : xs[i]? = some x) : x ∉ xs.take i := fun hm => by
  obtain ⟨j, hj, e⟩ := List.getElem_of_mem hm
  rw [List.length_take] at hj
  rw [List.getElem_take] at e
  have : i = j := nd_ix hn h (List.getElem?_eq_some_iff.mpr ⟨by omega, e⟩)
  omega
theorem small_line {n : Nat} (h : n ≤ 1000) : n ≤ sizeLine := Nat.le_of_lt (small1000 h)
section
variable {P : Program} {w : World} {K : PySem.W.Frag} {mg : Str → Option Value} {base : Heap}
/-! is_word_list -/
def sp_is_word_list (K : PySem.W.Frag) : Sp := fun vs H Q _ => ∃ (a : Addr) (xs : List Str) (lo hi : Int), vs = [.ref a, .int lo, .int hi] ∧ SqL K H a (xs.map V.str) ∧ lo ≤ xs.length ∧ (xs.length : Int) ≤ hi ∧ xs.length ≤ 1000 ∧ (∀ x ∈ xs, isW x) ∧ xs.Nodup ∧
  ∀ H', Same H H' → Q (.bl true) H'
theorem sc_is_word_list : FnScope ["values", "least", "most", "seen", "value"] ["values", "least", "most"] (defScope s_is_word_list) := ⟨rfl, rfl, rfl, by decide +kernel, rfl, by decide +kernel, by decide +kernel⟩
theorem c_is_word_list (T : Txt w K mg) : Cal P w K mg base "is_word_list" 2 ["values", "least", "most"] (sp_is_word_list K) := by
  refine T.d_is_word_list.cal sc_is_word_list (fun _ _ _ _ _ _ us hl => match us, hl with | [_, _, _], _ => rfl) (fun vs H Q E h => by obtain ⟨a, xs, lo, hi, rfl, _⟩ := h; rfl) (fun f cdv A outer s H vs Q E hr h => ?_)
  obtain ⟨a, xs, lo, hi, rfl, hA, h1, h2, h3, hw, nd, q⟩ := h
  refine ⟨_, pss_cons (ps_if (PW.pt (pw_or (pt_not (pt_val (pe_callB call_isiT (by rfl) T.b_isinstance boot_isinstance (pa_cons (pv 0) (pa_cons (pe_tup (pa_cons (pe_bltn (v := .ty "list") (by rfl) T.b_list boot_list rfl) (pa_cons (pe_bltn (v := .ty "tuple") (by rfl) T.b_tuple boot_tuple rfl) pa_nil))) pa_nil)))))
        (pw_or1 (pt_not (pt_chain op_le op_le (pv 1) (pe_callB call_len_seq (by rfl) T.b_len PySem.boot_len (pa_cons (pv 0) pa_nil)) (pv 2)))))) (pss_one ps_never) pss_nil)
    (pss_cons (ps_set (i := 3) sc_is_word_list.nd rfl (Or.inl rfl) (pe_lst pa_nil))
    (pss_cons (ps_for PassesOwn.never rfl (pi_list (pv 0)) (pg_name (i := 4) sc_is_word_list.nd rfl (Or.inl rfl))
      (pss_cons (ps_if (PW.pt (pw_or (pt_not (pt_val (pe_c (c_is_word T) hr (pa_cons (pv 4) pa_nil)))) (pw_or1 (pt_cmpR op_in_seq (pv 4) (pv 3) (by rfl))))) (pss_one ps_never) pss_nil)
      (pss_one (ps_expr (pe_bm PySem.F.plainAttrs_list PySem.F.slot_list_append PySem.F.type_list_append mt_append (pv 3) (pa_cons (pv 4) pa_nil))))))
    (pss_one (ps_ret pe_bl)))), ?_⟩
  refine ⟨_, rfl, (by show 2 ≤ sizeLine; decide), fun tp np => ?_⟩
  have g1 : Same H (upd H tp (.tup [.ty "list", .ty "tuple"])) := same_new np _
  refine ⟨_, tp, _, .type "list", [.type "list", .type "tuple"], true, rfl, upd_same, .cons (.ty _) (.cons (.ty _) .nil), ty_list (sqL_same g1 hA), kitAny_cons (b := true) (kit_ty (by decide +kernel)) (fun z => by cases z) (fun _ => rfl), true, rfl, iteF ?_⟩
  refine ⟨_, rfl, _, rfl, a, _, rfl, .inl (sqL_same g1 hA), _, _, rfl, rfl, _, rfl, ?_⟩
  rw [List.length_map, decide_eq_true h1]
  refine iteT ⟨_, rfl, _, _, rfl, rfl, _, rfl, ?_⟩
  rw [decide_eq_true h2]
  refine iteF ⟨Nat.zero_le _, fun l nl => ?_⟩
  have nl0 : H l = none := g1.free nl
  refine ⟨_, rfl, a, rfl, ⟨_, sqL_same (same_upd g1 nl0 _) hA⟩, for_list (K := K) (a := a) (xs := xs.map V.str) (fun i σ H' => (∃ v, σ = [some (.ref a), some (.int lo), some (.int hi), some (.ref l), v]) ∧ Same H H' ∧ H' l = some (.lst ((xs.take i).map V.str)))
    ⟨⟨none, rfl⟩, same_upd g1 nl0 _, upd_same⟩ (fun i σ H' _ z => sqL_same z.2.1 hA) ?_ ?_⟩
  · rintro i y σ H1 hi ⟨⟨v, rfl⟩, g, hl⟩
    obtain ⟨x, hx, rfl⟩ := map_get hi
    refine ⟨_, rfl, x, rfl, hw x (List.mem_of_getElem? hx), true, rfl, iteF ?_⟩
    refine ⟨_, rfl, _, rfl, l, _, rfl, .inl (SqL.of hl), rfl, flat_strs _, _, rfl, ?_⟩
    rw [inV_str, decide_eq_false (nd_take nd hx)]
    refine iteF ⟨_, rfl, .inl ⟨rfl, _, SqL.of hl⟩, _, rfl, l, _, _, rfl, rfl, hl, ?_, ?_⟩
    · rw [List.length_map, List.length_take]
      exact small1000 (by omega)
    · refine ⟨⟨_, rfl⟩, same_upd g nl0 _, ?_⟩
      rw [upd_same, take_get hx, List.map_append] <;> rfl
  · rintro σ H1 ⟨⟨v, rfl⟩, g, hl⟩
    exact q H1 g
end

/-! ### a row's parts -/
def PartOk (K : PySem.W.Frag) (H : Hp) (W F : List Str) (c : Nat) (y : V) : Prop := (c = 98 ∧ ∃ p xs, y = .ref p ∧ SqL K H p xs) ∨ (c ≠ 98 ∧ ∃ a, y = Atom.v a ∧ Good W F c a)
theorem partOk_same {K : PySem.W.Frag} {H H' : Hp} {W F : List Str} {c : Nat} {y : V} (e : Same H H') (h : PartOk K H W F c y) : PartOk K H' W F c y := by
  rcases h with ⟨h, p, xs, h1, h2⟩ | h
  · exact .inl ⟨h, p, xs, h1, sqL_same e h2⟩
  · exact .inr h
structure RowAt (K : PySem.W.Frag) (H : Hp) (W F : List Str) (t : Addr) (w sh : Str) (ys : List V) : Prop where
  seq : SqT K H t (.str w :: ys)
  tab : (w, sh) ∈ shapesL
  len : sh.cps.size = ys.length
  part : ∀ (i c : Nat) (y : V), sh.cps[i]? = some c → ys[i]? = some y → PartOk K H W F c y
  few : ys.length ≤ 4
  some_ : 1 ≤ ys.length
theorem RowAt.same {K : PySem.W.Frag} {H H' : Hp} {W F : List Str} {t : Addr} {w sh : Str} {ys : List V} (e : Same H H') (h : RowAt K H W F t w sh ys) : RowAt K H' W F t w sh ys :=
  ⟨sqT_same e h.seq, h.tab, h.len, fun i c y a b => partOk_same e (h.part i c y a b), h.few, h.some_⟩
theorem shapes_len : ∀ q ∈ shapesL, 1 ≤ q.2.cps.size ∧ q.2.cps.size ≤ 4 := by decide +kernel
theorem row_at {K : PySem.W.Frag} {H : Hp} {W F : List Str} {r : Row} {v : V} (h : Dp K H v (dR r)) (ok : okR W F r) : ∃ t sh ys, v = .ref t ∧ RowAt K H W F t r.word sh ys := by
  cases r with
  | leaf w ps =>
    obtain ⟨t, rfl, hs⟩ := leaf_at h
    rw [okR] at ok
    obtain ⟨sh, h1, h2⟩ := ok
    obtain ⟨h3, h4⟩ := tabs _ h1
    have ln : sh.cps.size = (ps.map Atom.v).length := by
      rw [List.length_map, ← h2.len, Array.length_toList]
    refine ⟨t, sh, _, rfl, hs, h3, ln, fun i c y e1 e2 => ?_, by rw [← ln]; exact (shapes_len _ h3).2, by rw [← ln]; exact (shapes_len _ h3).1⟩
    obtain ⟨a, e3, rfl⟩ := map_get e2
    rw [← Array.getElem?_toList] at e1
    exact .inr ⟨h4 c (List.mem_of_getElem? e1), a, rfl, h2.at e1 e3⟩
  | node w vs a b =>
    obtain ⟨t, p, q, xs, ys, rfl, hs, p1, p2, q1, q2⟩ := node_at h
    rw [okR] at ok
    obtain ⟨h1, h2, _, _⟩ := ok
    obtain ⟨z, h3, h4⟩ := tabsN _ h1
    have ln : z.cps.size = (vs.map V.str ++ [V.ref p, V.ref q]).length := by
      rw [← Array.length_toList, h4, List.length_append, List.length_append, List.length_replicate, List.length_map] <;> rfl
    refine ⟨t, z, _, rfl, hs, h3, ln, fun i c y e1 e2 => ?_, by rw [← ln]; exact (shapes_len _ h3).2, by rw [← ln]; exact (shapes_len _ h3).1⟩
    rw [← Array.getElem?_toList, h4] at e1
    by_cases hi : i < vs.length
    · rw [List.getElem?_append_left (by rw [List.length_replicate]; exact hi), List.getElem?_replicate] at e1
      rw [List.getElem?_append_left (by rw [List.length_map]; exact hi)] at e2
      obtain ⟨x, e3, rfl⟩ := map_get e2
      have ec : c = 118 := by
        have e4 : (if i < vs.length then some 118 else none) = some c := e1
        rw [if_pos hi] at e4
        exact (Option.some.inj e4).symm
      subst ec
      exact .inr ⟨by decide, .s x, rfl, .v (h2 x (List.mem_of_getElem? e3))⟩
    · have h5 : vs.length ≤ i := Nat.le_of_not_lt hi
      rw [List.getElem?_append_right (by rw [List.length_replicate]; exact h5), List.length_replicate] at e1
      rw [List.getElem?_append_right (by rw [List.length_map]; exact h5), List.length_map] at e2
      generalize i - vs.length = j at e1 e2
      match j, e1, e2 with
      | 0, e1, e2 =>
        simp at e1 e2
        subst e1 e2
        exact .inl ⟨rfl, p, xs, rfl, p1⟩
      | 1, e1, e2 =>
        simp at e1 e2
        subst e1 e2
        exact .inl ⟨rfl, q, ys, rfl, q1⟩
      | j + 2, e1, e2 => simp at e1
section
variable {P : Program} {w : World} {K : PySem.W.Frag} {mg : Str → Option Value} {base : Heap}
/-! shape_of -/
def sp_shape_of (K : PySem.W.Frag) : Sp := fun vs H Q _ => ∃ (t : Addr) (x z : Str) (ys : List V), vs = [.ref t] ∧ SqT K H t (.str x :: ys) ∧ (x, z) ∈ shapesL ∧ Q (.str z) H
theorem sc_shape_of : FnScope ["row"] ["row"] (defScope s_shape_of) := ⟨rfl, rfl, rfl, by decide +kernel, rfl, by decide +kernel, by decide +kernel⟩
theorem c_shape_of (T : Txt w K mg) : Cal P w K mg base "shape_of" 1 ["row"] (sp_shape_of K) := by
  refine T.d_shape_of.cal sc_shape_of (fun _ _ _ _ _ _ us hl => match us, hl with | [_], _ => rfl) (fun vs H Q E h => by obtain ⟨t, x, z, ys, rfl, _⟩ := h; rfl) (fun f cdv A outer s H vs Q E hr h => ?_)
  obtain ⟨t, x, z, ys, rfl, hs, ht, q⟩ := h
  obtain ⟨es, n, kd⟩ := T.kdS
  refine ⟨_, pss_cons (ps_if (PW.pt (pw_or (pt_not (pt_val (pe_isi (pv 0) T.b_isinstance T.b_tuple boot_tuple))) (pw_or (pt_cmpR op_eq (pe_callB call_len_seq (by rfl) T.b_len PySem.boot_len (pa_cons (pv 0) pa_nil)) pe_int (nomark _))
        (pw_or1 (pt_not (pt_val (pe_isi (pe_ix ix_tup (pv 0) pe_int (fun _ _ => rfl)) T.b_isinstance T.b_str boot_str))))))) (pss_one ps_never) pss_nil)
    (pss_one (ps_ret (pe_kg1 (pe_gR T.g_SHAPES) (pe_ix ix_tup (pv 0) pe_int (fun _ _ => rfl)) ⟨rfl, rfl, rfl, rfl⟩))), ?_⟩
  refine ⟨_, rfl, _, _, .type "tuple", .type "tuple", true, rfl, .ty _, ty_tup hs, kit_ty (by decide +kernel), true, rfl, iteF ?_⟩
  refine ⟨_, rfl, t, _, rfl, .inr hs, rfl, _, rfl, ?_⟩
  rw [decide_eq_false (by rw [List.length_cons]; intro e; injection e with e; omega)]
  refine iteF ⟨_, rfl, t, _, 0, _, rfl, rfl, hs, at_0 _ _, ?_⟩
  refine ⟨_, _, .type "str", .type "str", true, rfl, .ty _, ty_str x, kit_ty (by decide +kernel), true, rfl, iteF ?_⟩
  exact ⟨_, _, _, rfl, kd, _, rfl, t, _, 0, _, rfl, rfl, hs, at_0 _ _, x, _, rfl, T.shapes _ ht, q⟩
/-! is_good_part -/
def sp_is_good_part (K : PySem.W.Frag) : Sp := fun vs H Q _ => ∃ (c : Nat) (y : V) (fa : Addr) (W F : List Str), vs = [.str ⟨#[c]⟩, y, .ref fa] ∧ SqL K H fa (F.map V.str) ∧ PartOk K H W F c y ∧ (∀ x ∈ W, isW x) ∧ Q (.bl true) H
theorem sc_is_good_part : FnScope ["letter", "part", "fields"] ["letter", "part", "fields"] (defScope s_is_good_part) := ⟨rfl, rfl, rfl, by decide +kernel, rfl, by decide +kernel, by decide +kernel⟩
theorem one_sign (c : Nat) (z : String) (n : Nat) (h : Str.ofString z = ⟨#[n]⟩) : ((⟨#[c]⟩ : Str) = Str.ofString z) ↔ c = n := by
  rw [h]
  constructor
  · intro e
    injection e with e
    simpa using e
  · rintro rfl
    rfl
theorem c_is_good_part (T : Txt w K mg) : Cal P w K mg base "is_good_part" 3 ["letter", "part", "fields"] (sp_is_good_part K) := by
  refine T.d_is_good_part.cal sc_is_good_part (fun _ _ _ _ _ _ us hl => match us, hl with | [_, _, _], _ => rfl) (fun vs H Q E h => by obtain ⟨c, y, fa, W, F, rfl, _⟩ := h; rfl) (fun f cdv A outer s H vs Q E hr h => ?_)
  obtain ⟨c, y, fa, W, F, rfl, hF, hp, hW, q⟩ := h
  have hr1 : Room 1 _ := hr.mono (by decide)
  refine ⟨_, pss_one (ps_match (pv 0) (pm_str (pss_one (ps_ret (pe_and (pe_isi (pv 1) T.b_isinstance T.b_str boot_str) (pe_one (pe_cmpR op_in_seq (pv 1) (pv 2) (by rfl))))))
    (pm_str (pss_one (ps_ret (pe_and (pe_isi (pv 1) T.b_isinstance T.b_str boot_str) (pe_one (pe_cmpR op_in_seq (pv 1) (pe_gR T.g_KINDS) (by rfl))))))
    (pm_str (pss_one (ps_ret (pe_c (c_is_number_below T) hr (pa_cons (pv 1) (pa_cons (pe_gI T.c_DEPTHS) pa_nil)))))
    (pm_str (pss_one (ps_ret pe_bl))
    (pm_any (pss_one (ps_ret (pe_c (c_is_word T) hr1 (pa_cons (pv 1) pa_nil)))))))))), ?_⟩
  refine ⟨_, rfl, ⟨#[c]⟩, rfl, ?_⟩
  have key : ∀ {A B : Prop} (z : String) (n : Nat), Str.ofString z = ⟨#[n]⟩ → c = n → A → if (⟨#[c]⟩ : Str) = Str.ofString z then A else B := fun z n e1 e2 a => by
    rw [if_pos ((one_sign c z n e1).mpr e2)]
    exact a
  have nokey : ∀ {A B : Prop} (z : String) (n : Nat), Str.ofString z = ⟨#[n]⟩ → c ≠ n → B → if (⟨#[c]⟩ : Str) = Str.ofString z then A else B := fun z n e1 e2 b => by
    rw [if_neg fun e => e2 ((one_sign c z n e1).mp e)]
    exact b
  have ef : Str.ofString "f" = ⟨#[102]⟩ := by decide +kernel
  have ek : Str.ofString "k" = ⟨#[107]⟩ := by decide +kernel
  have ed : Str.ofString "d" = ⟨#[100]⟩ := by decide +kernel
  have eb : Str.ofString "b" = ⟨#[98]⟩ := by decide +kernel
  rcases hp with ⟨rfl, p, xs, rfl, hq⟩ | ⟨hne, a, rfl, g⟩
  · exact nokey "f" 102 ef (by decide) ⟨_, rfl, nokey "k" 107 ek (by decide) ⟨_, rfl, nokey "d" 100 ed (by decide) ⟨_, rfl, key "b" 98 eb rfl q⟩⟩⟩
  · cases g with
    | v hx =>
      exact nokey "f" 102 ef (by decide) ⟨_, rfl, nokey "k" 107 ek (by decide) ⟨_, rfl, nokey "d" 100 ed (by decide) ⟨_, rfl, nokey "b" 98 eb (by decide) ⟨_, rfl, _, rfl, hW _ hx, q⟩⟩⟩⟩
    | r hx =>
      exact nokey "f" 102 ef (by decide) ⟨_, rfl, nokey "k" 107 ek (by decide) ⟨_, rfl, nokey "d" 100 ed (by decide) ⟨_, rfl, nokey "b" 98 eb (by decide) ⟨_, rfl, _, rfl, hx, q⟩⟩⟩⟩
    | @f x hx =>
      refine key "f" 102 ef rfl ⟨_, rfl, _, _, .type "str", .type "str", true, rfl, .ty _, ty_str x, kit_ty (by decide +kernel), true, rfl, iteT ?_⟩
      refine ⟨_, rfl, _, rfl, fa, _, rfl, .inl hF, rfl, flat_strs _, ?_⟩
      show Q (.bl (inV (.str x) (F.map V.str))) H
      rw [inV_str, decide_eq_true hx]
      exact q
    | @k x hx =>
      refine nokey "f" 102 ef (by decide) ⟨_, rfl, key "k" 107 ek rfl ⟨_, rfl, _, _, .type "str", .type "str", true, rfl, .ty _, ty_str x, kit_ty (by decide +kernel), true, rfl, iteT ?_⟩⟩
      refine ⟨_, rfl, _, _, rfl, .inr (T.kinds H), rfl, rfl, ?_⟩
      show Q (.bl (inV (.str x) ([Str.ofString "freeze", Str.ofString "thaw"].map V.str))) H
      rw [inV_str, decide_eq_true (by simpa using hx)]
      exact q
    | @d n hn =>
      exact nokey "f" 102 ef (by decide) ⟨_, rfl, nokey "k" 107 ek (by decide) ⟨_, rfl, key "d" 100 ed rfl ⟨_, rfl, _, _, rfl, by omega, by omega, q⟩⟩⟩
end
end Tw

set_option Elab.async false
set_option maxRecDepth 100000
set_option maxHeartbeats 4000000
/-! C3: branches, row_fault. -/
namespace Tw
open PySem PySem.Spec L2 PyProof.Rows
def Sides (K : PySem.W.Frag) (G : Hp) : Row → List V → Prop
  | .leaf _ _, xs => xs = []
  | .node _ _ a b, xs => ∃ p q, xs = [.ref p, .ref q] ∧ Dp K G (.ref p) (.list (dL a)) ∧ Dp K G (.ref q) (.list (dL b))
theorem leaf_word : ∀ q ∈ leafL, q.1 ∉ [Str.ofString "same", Str.ofString "empty"] := by decide +kernel
theorem node_word : ∀ q ∈ nodeL, q.1 ∈ [Str.ofString "same", Str.ofString "empty"] := by decide +kernel
theorem at_last2 (x : V) (xs : List V) (a b : V) : atI (x :: (xs ++ [a, b])) (-1) = some b := by
  rw [show x :: (xs ++ [a, b]) = (x :: (xs ++ [a])) ++ [b] by rw [List.cons_append, List.append_assoc] <;> rfl]
  exact at_neg1 _ b
section
variable {P : Program} {w : World} {K : PySem.W.Frag} {mg : Str → Option Value} {base : Heap}
/-! branches -/
def sp_branches (K : PySem.W.Frag) : Sp := fun vs H Q _ => ∃ (G : Hp) (r : Row) (v : V) (W F : List Str), vs = [v] ∧ Same G H ∧ Dp K G v (dR r) ∧ okR W F r ∧
  ∀ xs l H', Sides K G r xs → Same H H' → H l = none → H' l = some (.lst xs) → Q (.ref l) H'
theorem sc_branches : FnScope ["row"] ["row"] (defScope s_branches) := ⟨rfl, rfl, rfl, by decide +kernel, rfl, by decide +kernel, by decide +kernel⟩
theorem c_branches (T : Txt w K mg) : Cal P w K mg base "branches" 1 ["row"] (sp_branches K) := by
  refine T.d_branches.cal sc_branches (fun _ _ _ _ _ _ us hl => match us, hl with | [_], _ => rfl) (fun vs H Q E h => by obtain ⟨G, r, v, W, F, rfl, _⟩ := h; rfl) (fun f cdv A outer s H vs Q E hr h => ?_)
  obtain ⟨G, r, v, W, F, rfl, sg, hd, ok, q⟩ := h
  refine ⟨_, pss_cons (ps_if (pt_cmpR op_in_seq (pe_ix ix_tup (pv 0) pe_int (fun _ _ => rfl)) (pe_tup (pa_cons pe_str (pa_cons pe_str pa_nil))) (by rfl))
      (pss_one (ps_ret (pe_lst (pa_cons (pe_ix ix_tup (pv 0) (pe_un un_neg pe_int) (fun _ _ => rfl)) (pa_cons (pe_ix ix_tup (pv 0) (pe_un un_neg pe_int) (fun _ _ => rfl)) pa_nil))))) pss_nil)
    (pss_one (ps_ret (pe_lst pa_nil))), ?_⟩
  cases r with
  | leaf x ps =>
    obtain ⟨t, rfl, hs⟩ := leaf_at hd
    rw [okR] at ok
    obtain ⟨sh, h1, _⟩ := ok
    have hs' := sqT_same sg hs
    refine ⟨_, rfl, t, _, 0, _, rfl, rfl, hs', at_0 _ _, (by show 2 ≤ sizeLine; decide), fun tp np => ?_⟩
    refine ⟨tp, [Str.ofString "same", Str.ofString "empty"].map V.str, rfl, .inr (SqT.of upd_same), rfl, flat_strs _, _, rfl, ?_⟩
    rw [inV_str, decide_eq_false (leaf_word _ h1)]
    refine iteF ⟨Nat.zero_le _, fun l nl => ?_⟩
    exact q [] l _ rfl (same_upd (same_new np _) ((same_new np _).free nl) _) ((same_new np _).free nl) upd_same
  | node x us a b =>
    obtain ⟨t, p1, p2, xs, ys, rfl, hs, h3, h4, h5, h6⟩ := node_at hd
    rw [okR] at ok
    have hs' := sqT_same sg hs
    refine ⟨_, rfl, t, _, 0, _, rfl, rfl, hs', at_0 _ _, (by show 2 ≤ sizeLine; decide), fun tp np => ?_⟩
    have g1 := same_new np (.tup [.str "same", .str "empty"])
    have hs2 := sqT_same g1 hs'
    refine ⟨tp, [Str.ofString "same", Str.ofString "empty"].map V.str, rfl, .inr (SqT.of upd_same), rfl, flat_strs _, _, rfl, ?_⟩
    rw [inV_str, decide_eq_true (node_word _ ok.1)]
    refine iteT ⟨_, rfl, 2, rfl, t, _, _, _, rfl, rfl, hs2, at_neg2 (.str x :: us.map V.str) _ _, _, rfl, 1, rfl, t, _, _, _, rfl, rfl, hs2, at_last2 _ _ _ _, (by show 2 ≤ sizeLine; decide), fun l nl => ?_⟩
    exact q _ l _ ⟨p1, p2, rfl, .lst h3 h4, .lst h5 h6⟩ (same_upd g1 (g1.free nl) _) (g1.free nl) upd_same
/-! row_fault -/
def sp_row_fault (K : PySem.W.Frag) : Sp := fun vs H Q _ => ∃ (t fa : Addr) (x sh : Str) (ys : List V) (W F : List Str), vs = [.ref t, .ref fa] ∧ RowAt K H W F t x sh ys ∧ SqL K H fa (F.map V.str) ∧ (∀ x ∈ W, isW x) ∧ ∀ H', Same H H' → Q .non H'
theorem sc_row_fault : FnScope ["row", "fields", "shape", "letter", "part"] ["row", "fields"] (defScope s_row_fault) := ⟨rfl, rfl, rfl, by decide +kernel, rfl, by decide +kernel, by decide +kernel⟩
theorem tail_cut (n : Nat) (h : 1 ≤ n) : ¬ (HT.sIx n 0 (some 1) = 0 ∧ HT.sIx n n none = n) := fun e => by
  have := e.1
  rw [show (1 : Int) = ((1 : Nat) : Int) from rfl, HT.sIx_nat] at this
  omega
theorem c_row_fault (T : Txt w K mg) : Cal P w K mg base "row_fault" 4 ["row", "fields"] (sp_row_fault K) := by
  refine T.d_row_fault.cal sc_row_fault (fun _ _ _ _ _ _ us hl => match us, hl with | [_, _], _ => rfl) (fun vs H Q E h => by obtain ⟨t, fa, x, sh, ys, W, F, rfl, _⟩ := h; rfl) (fun f cdv A outer s H vs Q E hr h => ?_)
  obtain ⟨t, fa, x, sh, ys, W, F, rfl, R, hF, hW, q⟩ := h
  have hr1 : Room 1 _ := hr.mono (by decide)
  refine ⟨_, pss_cons (ps_set (i := 2) sc_row_fault.nd rfl (Or.inl rfl) (pe_c (c_shape_of T) hr1 (pa_cons (pv 0) pa_nil)))
    (pss_cons (ps_if (PW.pt (pw_or (pt_cmpR op_isN (pv 2) pe_non (nomark _)) (pw_or1 (pt_cmpR op_ne (pe_callB call_len_seq (by rfl) T.b_len PySem.boot_len (pa_cons (pv 0) pa_nil)) (pe_op op_add (pe_callB call_len_str (by rfl) T.b_len PySem.boot_len (pa_cons (pv 2) pa_nil)) pe_int) (nomark _))))) (pss_one ps_never) pss_nil)
    (pss_cons (ps_for PassesOwn.never rfl (pi_zipS true (by rfl) T.b_zip (pa_cons (pv 2) (pa_cons (pe_slice sl_tup (pv 0) (po_some pe_int) po_none) pa_nil))) (pg_tup (by rfl) (pgs_cons (pg_name (i := 3) sc_row_fault.nd rfl (Or.inl rfl)) (pgs_cons (pg_name (i := 4) sc_row_fault.nd rfl (Or.inl rfl)) pgs_nil)))
      (pss_one (ps_if (PW.pt (pw_and (pt_cmpR op_eq (pv 3) pe_str (nomark _)) (pw_and1 (pt_not (pt_val (pe_isi (pv 4) T.b_isinstance T.b_list boot_list)))))) (pss_one ps_never) pss_nil)))
    (pss_cons (ps_for PassesOwn.never rfl (pi_zipS true (by rfl) T.b_zip (pa_cons (pv 2) (pa_cons (pe_slice sl_tup (pv 0) (po_some pe_int) po_none) pa_nil))) (pg_tup (by rfl) (pgs_cons (pg_name (i := 3) sc_row_fault.nd rfl (Or.inl rfl)) (pgs_cons (pg_name (i := 4) sc_row_fault.nd rfl (Or.inl rfl)) pgs_nil)))
      (pss_one (ps_if (pt_not (pt_val (pe_c (c_is_good_part T) hr (pa_cons (pv 3) (pa_cons (pv 4) (pa_cons (pv 1) pa_nil)))))) (pss_one ps_never) pss_nil)))
    (pss_one (ps_ret pe_non))))), ?_⟩
  refine ⟨_, rfl, t, x, sh, ys, rfl, R.seq, R.tab, ?_⟩
  refine ⟨_, rfl, rfl, _, rfl, ?_⟩
  rw [decide_eq_false (by intro e; cases e)]
  have ln : sh.length ≤ sizeLine := small_line (by show sh.cps.size ≤ 1000; rw [R.len]; have := R.few; omega)
  refine iteF ⟨_, rfl, t, _, rfl, .inr R.seq, _, rfl, sh, rfl, ln, _, _, rfl, rfl, rfl, _, rfl, ?_⟩
  rw [decide_eq_true (by rw [List.length_cons, ← R.len] <;> rfl)]
  refine iteF ⟨_, rfl, _, rfl, 1, rfl, t, _, rfl, R.seq, tail_cut _ (by rw [List.length_cons]; omega), fun tp np => ?_⟩
  rw [cut_tail]
  have g1 := same_new np (.tup ys)
  refine ⟨sh, tp, ys, rfl, SqT.of upd_same, for_it (walk_zipS R.len rfl) (fun i σ H' => (∃ v3 v4, σ = [some (.ref t), some (.ref fa), some (.str sh), v3, v4]) ∧ Same (upd H tp (.tup ys)) H')
    ⟨⟨none, none, rfl⟩, Same.refl _⟩ (fun i σ H' _ z => sqT_same z.2 (SqT.of upd_same)) ?_ ?_⟩
  · rintro i y σ H1 H2 hi ⟨⟨v3, v4, rfl⟩, g⟩ ⟨tt, c', y, rfl, nt, rfl, hc, hy⟩
    obtain ⟨c, hc1, rfl⟩ := Option.map_eq_some_iff.mp hc
    refine ⟨tt, _, rfl, SqT.of upd_same, rfl, _, _, rfl, _, _, rfl, rfl, ?_⟩
    refine ⟨_, rfl, rfl, _, rfl, ?_⟩
    have g2 := same_new nt (.tup [.str ⟨#[c]⟩, y])
    have fin : Same (upd H tp (.tup ys)) (upd H1 tt (.tup [.str ⟨#[c]⟩, y])) := g.trans g2
    rcases R.part i c y hc1 hy with ⟨rfl, p, xs, rfl, hq⟩ | ⟨hne, _⟩
    · rw [decide_eq_true (by exact congrArg V.str (show (⟨#[98]⟩ : Str) = Str.ofString "b" by decide +kernel))]
      refine iteT ⟨_, rfl, _, _, .type "list", .type "list", true, rfl, .ty _, ty_list (sqL_same g1 hq |> sqL_same fin), kit_ty (by decide +kernel), true, rfl, iteF ?_⟩
      exact ⟨⟨_, _, rfl⟩, fin⟩
    · rw [decide_eq_false (fun e => by injection e with e; exact hne ((one_sign c "b" 98 (by decide +kernel)).mp e))]
      exact iteF (iteF ⟨⟨_, _, rfl⟩, fin⟩)
  · rintro σ H1 ⟨⟨v3, v4, rfl⟩, g⟩
    have g0 := g1.trans g
    refine ⟨_, rfl, _, rfl, 1, rfl, t, _, rfl, sqT_same g0 R.seq, tail_cut _ (by rw [List.length_cons]; omega), fun tp2 np2 => ?_⟩
    rw [cut_tail]
    have g3 := same_new np2 (.tup ys)
    refine ⟨sh, tp2, ys, rfl, SqT.of upd_same, for_it (walk_zipS R.len rfl) (fun i σ H' => (∃ v3 v4, σ = [some (.ref t), some (.ref fa), some (.str sh), v3, v4]) ∧ Same (upd H1 tp2 (.tup ys)) H')
      ⟨⟨_, _, rfl⟩, Same.refl _⟩ (fun i σ H' _ z => sqT_same z.2 (SqT.of upd_same)) ?_ ?_⟩
    · rintro i y σ H2 H3 hi ⟨⟨v3, v4, rfl⟩, g'⟩ ⟨tt, c', y, rfl, nt, rfl, hc, hy⟩
      obtain ⟨c, hc1, rfl⟩ := Option.map_eq_some_iff.mp hc
      have g2 := same_new nt (.tup [.str ⟨#[c]⟩, y])
      have all := g0.trans (g3.trans (g'.trans g2))
      refine ⟨tt, _, rfl, SqT.of upd_same, rfl, _, _, rfl, _, _, rfl, rfl, ?_⟩
      refine ⟨_, rfl, _, rfl, _, rfl, c, y, fa, W, F, rfl, sqL_same all hF, partOk_same all (R.part i c y hc1 hy), hW, true, rfl, iteF ?_⟩
      exact ⟨⟨_, _, rfl⟩, g'.trans g2⟩
    · rintro σ H2 ⟨⟨v3, v4, rfl⟩, g'⟩
      exact q _ (g0.trans (g3.trans g'))
end
end Tw

set_option Elab.async false
set_option maxRecDepth 100000
set_option maxHeartbeats 4000000
/-! C4: checked_readers. -/
namespace Tw
open PySem PySem.Spec L2 PyProof.Rows
/-- t + u, told in one way -/
def rCatQ (K : PySem.W.Frag) : R2 := fun x y H Q => ∃ a b xs ys, x = .ref a ∧ y = .ref b ∧ SqT K H a xs ∧ SqT K H b ys ∧ xs.length + ys.length ≤ sizeLine ∧ ∀ p H', Same H H' → SqT K H' p (xs ++ ys) → Q (.ref p) H'
theorem op_catQ {X : Cx} : OpR X (binaryOp .Add) (rCatQ X.K) := by
  intro pins s σ H x y v u Q I rx ry h
  obtain ⟨a, b, xs, ys, rfl, rfl, ha, hb, hz, q⟩ := h
  refine op_catA pins s σ H _ _ v u Q I rx ry ⟨a, b, xs, ys, rfl, rfl, ha, hb, hz, fun e => ?_, fun _ e => ?_, fun _ _ p np => ?_⟩
  · subst e; exact q b H (Same.refl _) hb
  · subst e; exact q a H (Same.refl _) (by rw [List.append_nil]; exact ha)
  · exact q p _ (same_new np _) (SqT.of upd_same)
def sideRows : Row → List (List Row)
  | .leaf _ _ => []
  | .node _ _ a b => [a, b]
def ownRd : Row → List Str
  | .leaf w ps => rdR (.leaf w ps)
  | .node _ _ _ _ => []
theorem rdR_sides (r : Row) : rdR r = ownRd r ++ (sideRows r).flatMap rdL := by
  cases r with
  | leaf w ps => rw [sideRows, List.flatMap_nil, List.append_nil, ownRd]
  | node w vs a b =>
    rw [rdR, ownRd, sideRows, List.nil_append, List.flatMap_cons, List.flatMap_cons, List.flatMap_nil, List.append_nil]
theorem sides_at {K : PySem.W.Frag} {G : Hp} {r : Row} {xs : List V} (h : Sides K G r xs) : xs.length = (sideRows r).length ∧ ∀ (j : Nat) (x : V), xs[j]? = some x → ∃ p rows, (sideRows r)[j]? = some rows ∧ x = .ref p ∧ Dp K G x (.list (dL rows)) := by
  cases r with
  | leaf w ps =>
    have h : xs = [] := h
    subst h
    exact ⟨rfl, fun j x e => by simp at e⟩
  | node w vs a b =>
    obtain ⟨p, q, rfl, h1, h2⟩ := h
    refine ⟨rfl, fun j x e => ?_⟩
    match j, e with
    | 0, e =>
      simp at e
      subst e
      exact ⟨p, a, rfl, rfl, h1⟩
    | 1, e =>
      simp at e
      subst e
      exact ⟨q, b, rfl, rfl, h2⟩
    | j + 2, e => simp at e
theorem sides_ok {W F : List Str} {r : Row} (ok : okR W F r) : ∀ rows ∈ sideRows r, okL W F rows := by
  cases r with
  | leaf w ps => intro rows h; cases h
  | node w vs a b =>
    rw [okR] at ok
    intro rows h
    have h : rows = a ∨ rows = b := by simpa [sideRows] using h
    rcases h with rfl | rfl
    · exact ok.2.2.1
    · exact ok.2.2.2
theorem sides_ht {r : Row} : ∀ rows ∈ sideRows r, htL rows ≤ htR r := by
  cases r with
  | leaf w ps => intro rows h; cases h
  | node w vs a b =>
    intro rows h
    have h : rows = a ∨ rows = b := by simpa [sideRows] using h
    rw [htR]
    rcases h with rfl | rfl
    · exact Nat.le_max_left _ _
    · exact Nat.le_max_right _ _
theorem rdL_take {rs : List Row} {i : Nat} {r : Row} (h : rs[i]? = some r) : rdL (rs.take (i + 1)) = rdL (rs.take i) ++ rdR r := by
  rw [take_get h, rdL_app, rdL, rdL, List.append_nil]
theorem rdL_drop {rs : List Row} {i : Nat} {r : Row} (h : rs[i]? = some r) : rdL rs = rdL (rs.take i) ++ (rdR r ++ rdL (rs.drop (i + 1))) := by
  conv => lhs; rw [← List.take_append_drop i rs, rdL_app, drop_get h, rdL]
theorem flat_take {α β : Type} {f : α → List β} {xs : List α} {i : Nat} {x : α} (h : xs[i]? = some x) : (xs.take (i + 1)).flatMap f = (xs.take i).flatMap f ++ f x := by
  rw [take_get h, List.flatMap_append, List.flatMap_cons, List.flatMap_nil, List.append_nil]
section
variable {P : Program} {w : World} {K : PySem.W.Frag} {mg : Str → Option Value} {base : Heap}
theorem Dfn.cal0 {x : Str} {st : Stmt} {ps : List Str} {k : Nat} {sp : Sp} (D : Dfn K mg x st) (b : BindOk x x st ps) (no : ∀ vs H Q E, ¬ sp vs H Q E) : Cal P w K mg base x k ps sp := by
  obtain ⟨f, fd, F, g⟩ := D.ex
  exact ⟨f, fd, ⟨fun vs H Q E h => absurd h (no vs H Q E), fun A outer s H args us vs Q E _ _ _ _ h => absurd h (no vs H Q E)⟩, g, F.kp, F.binds b⟩
def sp_checked_readers (K : PySem.W.Frag) (n : Nat) : Sp := fun vs H Q _ => ∃ (l ab fa ra : Addr) (rs : List Row) (bs : List V) (W F rd : List Str), vs = [.ref l, .ref ab, .ref fa, .ref ra] ∧ Dp K H (.ref l) (.list (dL rs)) ∧ okL W F rs ∧ htL rs ≤ n ∧
  SqT K H ab bs ∧ bs.length + 2 * htL rs ≤ 8 ∧ SqL K H fa (F.map V.str) ∧ SqL K H ra (rd.map V.str) ∧ (rd ++ rdL rs).Nodup ∧ (rd ++ rdL rs).length ≤ 1000 ∧ (∀ x ∈ W, isW x) ∧
  ∀ a H', Same H H' → SqL K H' a ((rd ++ rdL rs).map V.str) → Q (.ref a) H'
theorem sc_checked_readers : FnScope ["rows", "base", "fields", "readers", "index", "row", "place", "fault", "side", "inner"] ["rows", "base", "fields", "readers"] (defScope s_checked_readers) := ⟨rfl, rfl, rfl, by decide +kernel, rfl, by decide +kernel, by decide +kernel⟩
theorem bd_checked_readers : BindOk "checked_readers" "checked_readers" s_checked_readers ["rows", "base", "fields", "readers"] := fun _ _ _ _ _ _ us hl => match us, hl with | [_, _, _, _], _ => rfl
theorem watch_own {W F : List Str} {r : Row} (ok : okR W F r) (e : r.word = Str.ofString "watch") : ∃ z x n, r = .leaf r.word [.s z, .s x, .n n] ∧ ownRd r = [z] := by
  cases r with
  | leaf w ps =>
    have e : w = Str.ofString "watch" := e
    subst e
    obtain ⟨z, x, n, rfl, _⟩ := okW_leaf ok
    refine ⟨z, x, n, rfl, ?_⟩
    rw [ownRd, rdR, if_pos rfl]
  | node w vs a b =>
    rw [okR] at ok
    have h : ∀ q ∈ nodeL, q.1 ≠ Str.ofString "watch" := by decide +kernel
    exact absurd e (h _ ok.1)
theorem no_own {r : Row} (e : r.word ≠ Str.ofString "watch") : ownRd r = [] := by
  cases r with
  | leaf w ps =>
    rw [ownRd]
    unfold rdR
    exact if_neg (show ¬ w = Str.ofString "watch" from e)
  | node w vs a b => rfl
theorem c_checked_readers (T : Txt w K mg) : ∀ n : Nat, Cal P w K mg base "checked_readers" (4 + n) ["rows", "base", "fields", "readers"] (sp_checked_readers K n)
  | 0 => T.d_checked_readers.cal0 bd_checked_readers fun vs H Q E h => by
    obtain ⟨l, ab, fa, ra, rs, bs, W, F, rd, _, _, _, h, _⟩ := h
    have := htL_pos rs
    omega
  | n + 1 => by
    have rec_ := c_checked_readers T n
    refine T.d_checked_readers.cal sc_checked_readers bd_checked_readers (fun vs H Q E h => by obtain ⟨l, ab, fa, ra, rs, bs, W, F, rd, rfl, _⟩ := h; rfl) (fun f cdv A outer s H vs Q E hr h => ?_)
    obtain ⟨l, ab, fa, ra, rs, bs, W, F, rd, rfl, hd, ok, hht, hb, hbl, hF, hra, hnd, hsz, hW, q⟩ := h
    have hr1 : Room 1 _ := hr.mono (Nat.le_trans (by decide) (Nat.le_add_right 4 n))
    have hr4 : Room 4 _ := hr.mono (Nat.le_add_right 4 n)
    have nd := sc_checked_readers.nd
    refine ⟨_, pss_cons (ps_for PassesOwn.never rfl (pi_enum (by rfl) T.b_enumerate (pa_cons (pv 0) pa_nil)) (pg_tup (by rfl) (pgs_cons (pg_name (i := 4) nd rfl (Or.inl rfl)) (pgs_cons (pg_name (i := 5) nd rfl (Or.inl rfl)) pgs_nil)))
      (pss_cons (ps_set (i := 6) nd rfl (Or.inl rfl) (pe_op op_catQ (pv 1) (pe_tup (pa_cons (pv 4) pa_nil))))
      (pss_cons (ps_if (pt_cmpR op_gt (pe_callB call_len_seq (by rfl) T.b_len PySem.boot_len (pa_cons (pv 6) pa_nil)) (pe_op op_sub (pe_op op_mul pe_int (pe_gI T.c_MOST_NESTED)) pe_int) (nomark _)) (pss_one ps_never) pss_nil)
      (pss_cons (ps_set (i := 7) nd rfl (Or.inl rfl) (pe_c (c_row_fault T) hr4 (pa_cons (pv 5) (pa_cons (pv 2) pa_nil))))
      (pss_cons (ps_if (pt_cmpR op_notN (pv 7) pe_non (nomark _)) (pss_one ps_never) pss_nil)
      (C8.pss_cut (ps_if (pt_cmpR op_eq (pe_ix ix_tup (pv 5) pe_int (fun _ _ => rfl)) pe_str (nomark _))
          (pss_cons (ps_if (pt_cmpR op_in_seq (pe_ix ix_tup (pv 5) pe_int (fun _ _ => rfl)) (pv 3) (by rfl)) (pss_one ps_never) pss_nil)
          (pss_one (ps_set (i := 3) nd rfl (Or.inl rfl) (pe_lst (StX.pa_star (pv 3) (pa_cons (pe_ix ix_tup (pv 5) pe_int (fun _ _ => rfl)) pa_nil)))))) pss_nil)
      (pss_one (ps_for PassesOwn.never rfl (pi_enum (by rfl) T.b_enumerate (pa_cons (pe_c (c_branches T) hr1 (pa_cons (pv 5) pa_nil)) pa_nil)) (pg_tup (by rfl) (pgs_cons (pg_name (i := 8) nd rfl (Or.inl rfl)) (pgs_cons (pg_name (i := 9) nd rfl (Or.inl rfl)) pgs_nil)))
        (pss_one (ps_set (i := 3) nd rfl (Or.inl rfl) (pe_c rec_ hr (pa_cons (pv 9) (pa_cons (pe_op op_catQ (pv 6) (pe_tup (pa_cons (pv 8) pa_nil))) (pa_cons (pv 2) (pa_cons (pv 3) pa_nil)))))))))))))))
      (pss_one (ps_ret (pv 3))), ?_⟩
    obtain ⟨xs, hl, hall⟩ : ∃ xs, SqL K H l xs ∧ DpAll K H xs (dL rs) := by
      cases hd with
      | lst a b => exact ⟨_, a, b⟩
    have lx : xs.length = rs.length := by rw [dA_len hall, dL_length]
    refine ⟨_, rfl, l, xs, rfl, hl, for_it walk_enum (fun i σ H' => ∃ (a : Addr) (v4 v5 v6 v7 v8 v9 : Option V), σ = [some (.ref l), some (.ref ab), some (.ref fa), some (.ref a), v4, v5, v6, v7, v8, v9] ∧ Same H H' ∧ SqL K H' a ((rd ++ rdL (rs.take i)).map V.str))
      ⟨ra, _, _, _, _, _, _, rfl, Same.refl _, by rw [List.take_zero, rdL, List.append_nil]; exact hra⟩ (fun i σ H' _ z => by obtain ⟨_, _, _, _, _, _, _, _, g, _⟩ := z; exact sqL_same g hl) ?_ ?_⟩
    · rintro i y σ H1 H2 hi ⟨a, v4, v5, v6, v7, v8, v9, rfl, g, ha⟩ ⟨tt, ix, x, rfl, nt, rfl, hix, hx⟩
      obtain ⟨r, hr0, hdr⟩ := dA_row hall hx
      have okr := okL_at ok hr0
      obtain ⟨t, sh, ys, rfl, R⟩ := row_at hdr okr
      have hix : V.int (i : Nat) = ix := Option.some.inj hix
      subst hix
      have g2 : Same H (upd H1 tt (.tup [.int (i : Nat), .ref t])) := g.trans (same_new nt _)
      have hhr : htR r + 1 ≤ htL rs := htR_mem hr0
      refine ⟨tt, _, rfl, SqT.of upd_same, rfl, _, _, rfl, _, _, rfl, rfl, ?_⟩
      refine ⟨_, rfl, _, rfl, (by show 1 ≤ sizeLine; decide), fun t1 n1 => ?_⟩
      have g3 := g2.trans (same_new n1 (.tup [.int (i : Nat)]))
      refine ⟨ab, t1, bs, [.int (i : Nat)], rfl, rfl, sqT_same g3 hb, SqT.of upd_same, small_line (by show bs.length + 1 ≤ 1000; omega), fun pl H3 g4 hpl => ?_⟩
      have g5 := g3.trans g4
      refine ⟨_, rfl, pl, _, rfl, .inr hpl, 2, 4, rfl, rfl, .inl ⟨by decide, by decide⟩, _, _, rfl, rfl, _, _, rfl, rfl, _, rfl, ?_⟩
      rw [decide_eq_false (by rw [List.length_append]; have := htL_pos rs; show ¬ ((2 : Int) * 4 - 1 < ((bs.length + 1 : Nat) : Int)); omega)]
      refine iteF ⟨_, rfl, _, rfl, t, fa, r.word, sh, ys, W, F, rfl, R.same g5, sqL_same g5 hF, hW, fun H4 g6 => ?_⟩
      have g7 := g5.trans g6
      refine ⟨_, rfl, rfl, _, rfl, ?_⟩
      rw [show (!decide (V.non = V.non)) = false by decide]
      refine iteF ⟨fun σ' H' => ∃ (a' : Addr), σ' = [some (.ref l), some (.ref ab), some (.ref fa), some (.ref a'), some (.int (i : Nat)), some (.ref t), some (.ref pl), some .non, v8, v9] ∧ Same H4 H' ∧ SqL K H' a' ((rd ++ (rdL (rs.take i) ++ ownRd r)).map V.str), ?_, ?_⟩
      · refine ⟨_, rfl, t, _, 0, _, rfl, rfl, (R.same g7).seq, at_0 _ _, rfl, _, rfl, ?_⟩
        have ha4 : SqL K H4 a ((rd ++ rdL (rs.take i)).map V.str) := sqL_same ((same_new nt _).trans ((same_new n1 _).trans (g4.trans g6))) ha
        refine ite2 (fun c => ?_) (fun c => ?_)
        · have c' : r.word = Str.ofString "watch" := by
            have := of_decide_eq_true c
            injection this
          obtain ⟨z, x, n', er, eo⟩ := watch_own okr c'
          have hz : z ∉ rd ++ rdL (rs.take i) := by
            have h1 := hnd
            rw [rdL_drop hr0, rdR_sides, eo, ← List.append_assoc] at h1
            intro hm
            have h2 := (List.nodup_append.mp h1).2.2
            exact h2 z hm z (by simp) rfl
          have hseq : SqT K H4 t (.str r.word :: [V.str z, V.str x, V.int n']) := by
            rw [er] at hdr
            obtain ⟨t', e', hs'⟩ := leaf_at hdr
            cases e'
            exact sqT_same (g.trans ((same_new nt _).trans ((same_new n1 _).trans (g4.trans g6)))) hs'
          refine ⟨_, rfl, t, _, 1, _, rfl, rfl, hseq, rfl, _, rfl, a, _, rfl, .inl ha4, rfl, flat_strs _, _, rfl, ?_⟩
          rw [inV_str, decide_eq_false hz]
          refine iteF ⟨_, rfl, a, _, rfl, .inr ha4, _, rfl, t, _, 1, _, rfl, rfl, hseq, rfl, ?_, fun l2 n2 => ?_⟩
          · show (List.map V.str (rd ++ rdL (rs.take i)) ++ [V.str z]).length ≤ sizeLine
            rw [rdL_drop hr0] at hsz
            simp only [List.length_append, List.length_map, List.length_singleton] at hsz ⊢
            have : 1 ≤ (rdR r).length := by rw [rdR_sides, eo]; simp
            exact small_line (by omega)
          · refine ⟨l2, rfl, same_new n2 _, ?_⟩
            have e9 : ((rd ++ rdL (rs.take i)) ++ [z]).map V.str = (rd ++ rdL (rs.take i)).map V.str ++ [V.str z] := List.map_append ..
            rw [eo, ← List.append_assoc, e9]
            exact SqL.of upd_same
        · have c' : r.word ≠ Str.ofString "watch" := fun e => by
            rw [e] at c
            exact c (decide_eq_true rfl)
          refine ⟨a, rfl, Same.refl _, ?_⟩
          rw [no_own c', List.append_nil]
          exact ha4
      · rintro σ' H5 ⟨a', rfl, g8, ha'⟩
        have g9 := g7.trans g8
        refine ⟨_, rfl, H5, r, .ref t, W, F, rfl, Same.refl _, dp_same (g9) hdr, okr, fun bx bl H6 hsd g10 nbl hbl' => ?_⟩
        have g11 := g9.trans g10
        obtain ⟨slen, sat⟩ := sides_at hsd
        refine ⟨bl, bx, rfl, SqL.of hbl', for_it walk_enum (fun j σ H' => ∃ (a : Addr) (v8 v9 : Option V), σ = [some (.ref l), some (.ref ab), some (.ref fa), some (.ref a), some (.int (i : Nat)), some (.ref t), some (.ref pl), some .non, v8, v9] ∧ Same H6 H' ∧ SqL K H' a ((rd ++ (rdL (rs.take i) ++ ownRd r) ++ ((sideRows r).take j).flatMap rdL).map V.str))
          ⟨a', _, _, rfl, Same.refl _, by rw [List.take_zero, List.flatMap_nil, List.append_nil]; exact sqL_same g10 ha'⟩ (fun j σ H' _ z => by obtain ⟨_, _, _, _, g, _⟩ := z; exact SqL.of (g _ _ hbl')) ?_ ?_⟩
        · rintro j y σ H7 H8 hj ⟨a2, v8, v9, rfl, g12, ha2⟩ ⟨t3, jx, x3, rfl, nt3, rfl, hjx, hx3⟩
          have hjx : V.int (j : Nat) = jx := Option.some.inj hjx
          subst hjx
          obtain ⟨p3, rows, hrow, rfl, hdp⟩ := sat j x3 hx3
          have g13 := g12.trans (same_new nt3 (.tup [.int (j : Nat), .ref p3]))
          refine ⟨t3, _, rfl, SqT.of upd_same, rfl, _, _, rfl, _, _, rfl, rfl, ?_⟩
          refine ⟨_, rfl, _, rfl, _, rfl, (by show 1 ≤ sizeLine; decide), fun t5 n5 => ?_⟩
          have g14 := g13.trans (same_new n5 (.tup [.int (j : Nat)]))
          have hpl6 : SqT K H6 pl (bs ++ [.int (i : Nat)]) := sqT_same (g6.trans (g8.trans g10)) hpl
          refine ⟨pl, t5, _, [.int (j : Nat)], rfl, rfl, sqT_same g14 hpl6, SqT.of upd_same, small_line (by rw [List.length_append]; show bs.length + 1 + 1 ≤ 1000; omega), fun p6 H9 g15 hp6 => ?_⟩
          have g16 := g14.trans g15
          have hrm : rows ∈ sideRows r := List.mem_of_getElem? hrow
          have hrd : rdR r = ownRd r ++ (((sideRows r).take j).flatMap rdL ++ (rdL rows ++ ((sideRows r).drop (j + 1)).flatMap rdL)) := by
            conv => lhs; rw [rdR_sides, ← List.take_append_drop j (sideRows r), List.flatMap_append, drop_get hrow, List.flatMap_cons]
          have hall2 : rd ++ rdL rs = (rd ++ (rdL (rs.take i) ++ ownRd r) ++ ((sideRows r).take j).flatMap rdL ++ rdL rows) ++ (((sideRows r).drop (j + 1)).flatMap rdL ++ rdL (rs.drop (i + 1))) := by
            rw [rdL_drop hr0, hrd]
            simp only [List.append_assoc]
          have hht2 := sides_ht rows hrm
          refine ⟨_, rfl, _, rfl, p3, p6, fa, a2, rows, _, W, F, _, rfl, dp_same ((g10.trans g16)) hdp, sides_ok okr rows hrm, by omega, hp6, ?_, sqL_same (g11.trans g16) hF, sqL_same (((same_new nt3 _).trans (same_new n5 _)).trans g15) ha2, ?_, ?_, hW, fun a9 H10 g17 ha9 => ?_⟩
          · rw [List.length_append, List.length_append]
            show bs.length + 1 + 1 + 2 * htL rows ≤ 8
            omega
          · rw [hall2] at hnd
            exact (List.nodup_append.mp hnd).1
          · rw [hall2, List.length_append] at hsz
            omega
          · refine ⟨a9, _, _, rfl, g16.trans g17, ?_⟩
            rw [flat_take hrow, ← List.append_assoc]
            exact ha9
        · rintro σ H7 ⟨a2, v8, v9, rfl, g12, ha2⟩
          refine ⟨a2, _, _, _, _, _, _, rfl, g11.trans g12, ?_⟩
          rw [slen, List.take_length] at ha2
          rw [rdL_take hr0, rdR_sides]
          simp only [List.append_assoc] at ha2 ⊢
          exact ha2
    · rintro σ H1 ⟨a, v4, v5, v6, v7, v8, v9, rfl, g, ha⟩
      rw [lx, List.take_length] at ha
      exact ⟨_, rfl, q a H1 g ha⟩
end
end Tw

set_option Elab.async false
set_option maxRecDepth 100000
set_option maxHeartbeats 4000000
/-! C5: copied_rows. -/
namespace Tw
open PySem PySem.Spec L2 PyProof.Rows
def Lsts (M : List Addr) (H : Hp) : Prop := ∀ b ∈ M, ∃ xs, H b = some (.lst xs)
theorem Lsts.same {M : List Addr} {H H' : Hp} (h : Lsts M H) (e : Same H H') : Lsts M H' := fun b hb => let ⟨xs, q⟩ := h b hb; ⟨xs, e _ _ q⟩
theorem Lsts.cons {M : List Addr} {H : Hp} {p : Addr} {xs : List V} (h : Lsts M H) (e : H p = some (.lst xs)) : Lsts (p :: M) H := fun b hb => by
  rcases List.mem_cons.mp hb with rfl | hb
  · exact ⟨xs, e⟩
  · exact h b hb
theorem Lsts.upd {M : List Addr} {H : Hp} {p : Addr} {xs : List V} (h : Lsts M H) : Lsts M (upd H p (.lst xs)) := fun b hb => by
  by_cases e : b = p
  · subst e; exact ⟨xs, upd_same⟩
  · rw [upd_ne e]; exact h b hb
theorem Lsts.out {M : List Addr} {H : Hp} {p : Addr} (h : Lsts M H) (e : H p = none) : p ∉ M := fun hm => by
  obtain ⟨xs, q⟩ := h p hm
  rw [e] at q
  cases q
theorem sqT_hid {K : PySem.W.Frag} {M : List Addr} {H : Hp} {a : Addr} {xs : List V} (h : Lsts M H) (s : SqT K H a xs) : SqT K (hid M H) a xs := by
  rcases s with (s | ⟨o, s⟩) | s
  · refine .inl (.inl ?_)
    rw [hid_out fun hm => by obtain ⟨ys, q⟩ := h a hm; rw [s] at q; cases q]
    exact s
  · refine .inl (.inr ⟨o, ?_⟩)
    rw [hid_out fun hm => by obtain ⟨ys, q⟩ := h a hm; rw [s] at q; cases q]
    exact s
  · exact .inr s
theorem hid_cons {M : List Addr} {H H1 : Hp} {p : Addr} (h : H p = none) (e : Same H H1) : Same (hid M H) (hid (p :: M) H1) := fun b o q => by
  have q' := hid_le M H b o q
  by_cases hb : b ∈ M
  · rw [hid_in hb] at q; cases q
  · rw [hid_out fun z => by
      rcases List.mem_cons.mp z with r | r
      · rw [r, h] at q'; cases q'
      · exact hb r]
    exact e b o q'
theorem hid_tl {M : List Addr} {H : Hp} {p : Addr} : Same (hid (p :: M) H) (hid M H) := hid_sub fun b hb => List.mem_cons_of_mem _ hb
theorem sqL_hid {K : PySem.W.Frag} {M : List Addr} {H : Hp} {p : Addr} {xs : List V} (h : p ∉ M) (e : H p = some (.lst xs)) : SqL K (hid M H) p xs := by
  refine .inl (.inl ?_)
  rw [hid_out h]
  exact e
theorem init_cut (n : Nat) (h : 2 ≤ n) : ¬ (HT.sIx n 0 none = 0 ∧ HT.sIx n n (some (-2)) = n) := fun e => by
  have e2 := e.2
  rw [show (-2 : Int) = -((2 : Nat) : Int) from rfl, sIx_neg n 2 h (by decide)] at e2
  omega
theorem dL_take {rs : List Row} {i : Nat} {r : Row} (h : rs[i]? = some r) : dL (rs.take (i + 1)) = dL (rs.take i) ++ [dR r] := by
  rw [take_get h, dL_append, dL, dL]
section
variable {P : Program} {w : World} {K : PySem.W.Frag} {mg : Str → Option Value} {base : Heap}
def sp_copied_rows (K : PySem.W.Frag) (n : Nat) : Sp := fun vs H Q _ => ∃ (M : List Addr) (l : Addr) (rs : List Row) (W F : List Str), vs = [.ref l] ∧ Lsts M H ∧ Dp K (hid M H) (.ref l) (.list (dL rs)) ∧ okL W F rs ∧ htL rs ≤ n ∧ szL rs ≤ 1000 ∧
  ∀ p xs H', Same H H' → H p = none → H' p = some (.lst xs) → DpAll K (hid (p :: M) H') xs (dL rs) → Q (.ref p) H'
theorem sc_copied_rows : FnScope ["rows", "result", "row"] ["rows"] (defScope s_copied_rows) := ⟨rfl, rfl, rfl, by decide +kernel, rfl, by decide +kernel, by decide +kernel⟩
theorem bd_copied_rows : BindOk "copied_rows" "copied_rows" s_copied_rows ["rows"] := fun _ _ _ _ _ _ us hl => match us, hl with | [_], _ => rfl
theorem szR_mem : ∀ {l : List Row} {i : Nat} {r : Row}, l[i]? = some r → szR r ≤ szL l
  | [], _, _, h => by simp at h
  | x :: xs, 0, r, h => by
    simp at h
    subst h
    rw [szL]
    omega
  | x :: xs, i + 1, r, h => by
    rw [szL]
    exact Nat.le_trans (szR_mem (i := i) (by simpa using h)) (Nat.le_add_left _ _)
theorem c_copied_rows (T : Txt w K mg) : ∀ n : Nat, Cal P w K mg base "copied_rows" (1 + n) ["rows"] (sp_copied_rows K n)
  | 0 => T.d_copied_rows.cal0 bd_copied_rows fun vs H Q E h => by
    obtain ⟨M, l, rs, W, F, _, _, _, _, h, _⟩ := h
    have := htL_pos rs
    omega
  | n + 1 => by
    have rec_ := c_copied_rows T n
    refine T.d_copied_rows.cal sc_copied_rows bd_copied_rows (fun vs H Q E h => by obtain ⟨M, l, rs, W, F, rfl, _⟩ := h; rfl) (fun f cdv A outer s H vs Q E hr h => ?_)
    obtain ⟨M, l, rs, W, F, rfl, hM, hd, ok, hht, hsz, q⟩ := h
    have hr1 : Room 1 _ := hr.mono (Nat.le_add_right 1 n)
    have nd := sc_copied_rows.nd
    refine ⟨_, pss_cons (ps_set (i := 1) nd rfl (Or.inl rfl) (pe_lst pa_nil))
      (pss_cons (ps_for PassesOwn.never rfl (pi_list (pv 0)) (pg_name (i := 2) nd rfl (Or.inl rfl))
        (C8.pss_cut (ps_if (pt_truth (pe_c (c_branches T) hr1 (pa_cons (pv 2) pa_nil)) (by intro _; rfl))
          (pss_one (ps_set (i := 2) nd rfl (Or.inl rfl) (pe_tup (StX.pa_star (pe_slice sl_tup (pv 2) po_none (po_some (pe_un un_neg pe_int))) (pa_cons (pe_c rec_ hr (pa_cons (pe_ix ix_tup (pv 2) (pe_un un_neg pe_int) (fun _ _ => rfl)) pa_nil))
            (pa_cons (pe_c rec_ hr (pa_cons (pe_ix ix_tup (pv 2) (pe_un un_neg pe_int) (fun _ _ => rfl)) pa_nil)) pa_nil)))))) pss_nil)
        (pss_one (ps_expr (pe_bm PySem.F.plainAttrs_list PySem.F.slot_list_append PySem.F.type_list_append mt_append (pv 1) (pa_cons (pv 2) pa_nil))))))
      (pss_one (ps_ret (pv 1)))), ?_⟩
    obtain ⟨xs, hl, hall⟩ : ∃ xs, SqL K (hid M H) l xs ∧ DpAll K (hid M H) xs (dL rs) := by
      cases hd with
      | lst a b => exact ⟨_, a, b⟩
    have lx : xs.length = rs.length := by rw [dA_len hall, dL_length]
    have lrs := len_le_szL rs
    refine ⟨Nat.zero_le _, fun p np => ?_⟩
    have hlH : SqL K H l xs := sqL_same (hid_le M H) hl
    refine ⟨_, rfl, l, rfl, ⟨_, sqL_same (same_new np _) hlH⟩, for_list (K := K) (a := l) (xs := xs) (fun i σ H' => (∃ v, σ = [some (.ref l), some (.ref p), v]) ∧ Same H H' ∧ ∃ ys, H' p = some (.lst ys) ∧ DpAll K (hid (p :: M) H') ys (dL (rs.take i)))
      ⟨⟨none, rfl⟩, same_new np _, [], upd_same, by rw [List.take_zero, dL]; exact .nil⟩ (fun i σ H' _ z => sqL_same z.2.1 hlH) ?_ ?_⟩
    · rintro i y σ H1 hx ⟨⟨v, rfl⟩, g, ys, hp, hys⟩
      obtain ⟨r, hr0, hdr⟩ := dA_row hall hx
      have okr := okL_at ok hr0
      have hhr : htR r + 1 ≤ htL rs := htR_mem hr0
      have hsr := szR_mem hr0
      have sg : Same (hid M H) (hid (p :: M) H1) := hid_cons np g
      have hM1 : Lsts (p :: M) H1 := (hM.same g).cons hp
      have hdr1 := dp_same sg hdr
      refine ⟨fun σ' H' => (∃ v, σ' = [some (.ref l), some (.ref p), some v] ∧ Dp K (hid (p :: M) H') v (dR r)) ∧ Same H1 H', ?_, ?_⟩
      · refine ⟨_, rfl, hid (p :: M) H1, r, y, W, F, rfl, hid_le _ _, hdr1, okr, fun bx bl H2 hsd g2 nbl hbl => ?_⟩
        cases r with
        | leaf x ps =>
          have hsd : bx = [] := hsd
          subst hsd
          exact ⟨false, .inl ⟨[], SqL.of hbl, rfl⟩, iteF ⟨⟨y, rfl, dp_same (hid_same g2) hdr1⟩, g2⟩⟩
        | node x us a b =>
          obtain ⟨p1, p2, rfl, _, _⟩ := hsd
          obtain ⟨t, q1, q2, xa, xb, rfl, hs, h3, h4, h5, h6⟩ := node_at hdr1
          rw [okR] at okr
          rw [htR] at hhr
          rw [szR] at hsr
          have s2 : Same (hid (p :: M) H1) H2 := (hid_le _ _).trans g2
          refine ⟨true, .inl ⟨_, SqL.of hbl, rfl⟩, iteT ⟨_, rfl, 2, rfl, _, rfl, t, _, rfl, sqT_same s2 hs, init_cut _ (by rw [List.length_cons, List.length_append]; show 2 ≤ _ + 2 + 1; omega), fun tp ntp => ?_⟩⟩
          rw [show V.str x :: (us.map V.str ++ [.ref q1, .ref q2]) = (V.str x :: us.map V.str) ++ [.ref q1, .ref q2] from rfl, cut_init2]
          have g3 := g2.trans (same_new ntp (.tup (V.str x :: us.map V.str)))
          refine ⟨tp, _, rfl, .inl (SqT.of upd_same), _, rfl, 2, rfl, t, _, _, _, rfl, rfl, sqT_same ((hid_le _ _).trans g3) hs, at_neg2 (V.str x :: us.map V.str) _ _, ?_⟩
          refine ⟨p :: M, q1, a, W, F, rfl, hM1.same g3, dp_same (hid_same g3) (.lst h3 h4), okr.2.2.1, by omega, by omega, fun c1 xc1 H3 g4 nc1 hc1 dc1 => ?_⟩
          have g5 := g3.trans g4
          refine ⟨_, rfl, 1, rfl, t, _, _, _, rfl, rfl, sqT_same ((hid_le _ _).trans g5) hs, at_last2 _ _ _ _, ?_⟩
          refine ⟨p :: M, q2, b, W, F, rfl, hM1.same g5, dp_same (hid_same g5) (.lst h5 h6), okr.2.2.2, by omega, by omega, fun c2 xc2 H4 g6 nc2 hc2 dc2 => ?_⟩
          have g7 := g5.trans g6
          refine ⟨?_, fun t2 nt2 => ?_⟩
          · have hv : us.length ≤ 1000 := by
              have : ∀ q ∈ nodeL, q.2 ≤ 1000 := by decide +kernel
              exact this _ okr.1
            simp only [List.length_append, List.length_cons, List.length_map, List.length_nil]
            exact Nat.le_trans (by omega : _ ≤ 1003) (by decide)
          have g8 := same_new nt2 (.tup ((V.str x :: us.map V.str) ++ [.ref c1, .ref c2]))
          have hM4 := hM1.same g7
          have n1 : c1 ∉ p :: M := (hM1.same g3).out nc1
          have n2 : c2 ∉ p :: M := (hM1.same g5).out nc2
          refine ⟨⟨_, rfl, node_mk (p := c1) (q := c2) (xs := xc1) (ys := xc2) ?_ ?_ ?_ ?_ ?_⟩, g7.trans g8⟩
          · exact sqT_hid (hM4.same g8) (SqT.of upd_same)
          · exact sqL_hid n1 (g8 _ _ (g6 _ _ hc1))
          · exact dpAll_same ((hid_same (g6.trans g8)).trans hid_tl) dc1
          · exact sqL_hid n2 (g8 _ _ hc2)
          · exact dpAll_same ((hid_same g8).trans hid_tl) dc2
      · rintro σ' H2 ⟨⟨v2, rfl, hv2⟩, g2⟩
        have hp2 := g2 _ _ hp
        refine ⟨_, rfl, .inl ⟨rfl, _, SqL.of hp2⟩, _, rfl, p, _, _, rfl, rfl, hp2, ?_, ?_⟩
        · rw [dA_len hys, dL_length, List.length_take]
          exact small1000 (by omega)
        · refine ⟨⟨_, rfl⟩, same_upd (g.trans g2) np _, _, upd_same, ?_⟩
          rw [hid_upd (List.mem_cons_self ..), dL_take hr0]
          exact dA_snoc (dpAll_same (hid_same g2) hys) hv2
    · rintro σ H1 ⟨⟨v, rfl⟩, g, ys, hp, hys⟩
      rw [lx, List.take_length] at hys
      exact ⟨_, rfl, q p ys H1 g np hp hys⟩
end
end Tw

set_option Elab.async false
set_option maxRecDepth 100000
set_option maxHeartbeats 4000000
/-! C6: placed_rows, row_variables. -/
namespace Tw
open PySem PySem.Spec L2 PyProof.Rows
mutual
def plR (pl : List Int) : Row → List (List Int × Row)
  | .leaf _ _ => []
  | .node _ _ a b => plL (pl ++ [0]) 0 a ++ plL (pl ++ [1]) 0 b
def plL (base : List Int) (k : Nat) : List Row → List (List Int × Row)
  | [] => []
  | r :: rs => (base ++ [(k : Int)], r) :: (plR (base ++ [(k : Int)]) r ++ plL base (k + 1) rs)
end
theorem sqT_kept {K : PySem.W.Frag} {H H' : Hp} {p a : Addr} {ys xs : List V} (k : Kept [p] H H') (h : H p = some (.lst ys)) (s : SqT K H a xs) : SqT K H' a xs := by
  rcases s with (s | ⟨o, s⟩) | s
  · exact .inl (.inl (k _ _ s fun hm => by rw [List.mem_singleton.mp hm, h] at s; cases s))
  · exact .inl (.inr ⟨o, k _ _ s fun hm => by rw [List.mem_singleton.mp hm, h] at s; cases s⟩)
  · exact .inr s
theorem sqT_updL {K : PySem.W.Frag} {H : Hp} {p a : Addr} {ys xs : List V} {o : HO} (h : H p = some (.lst ys)) (s : SqT K H a xs) : SqT K (upd H p o) a xs := sqT_kept (Kept.upd (List.mem_singleton.mpr rfl)) h s
def plS (pl : List Int) (j : Nat) : List (List Row) → List (List Int × Row)
  | [] => []
  | rows :: rest => plL (pl ++ [(j : Int)]) 0 rows ++ plS pl (j + 1) rest
theorem plR_sides (pl : List Int) (r : Row) : plR pl r = plS pl 0 (sideRows r) := by
  cases r with
  | leaf w ps => rw [plR, sideRows, plS]
  | node w vs a b =>
    rw [plR, sideRows, plS, plS, plS, List.append_nil] <;> rfl
def plD (l : List (List Int × Row)) : List PyData := l.map fun q => .tuple [.tuple (q.1.map PyData.int), dR q.2]
theorem plD_app (a b : List (List Int × Row)) : plD (a ++ b) = plD a ++ plD b := List.map_append ..
mutual
theorem plR_len (pl : List Int) : ∀ r : Row, (plR pl r).length + 1 = szR r
  | .leaf _ _ => by rw [plR, szR] <;> rfl
  | .node _ _ a b => by
    rw [plR, szR, List.length_append, plL_len _ _ a, plL_len _ _ b]
    omega
theorem plL_len (base : List Int) (k : Nat) : ∀ rs : List Row, (plL base k rs).length = szL rs
  | [] => by rw [plL, szL] <;> rfl
  | r :: rs => by
    rw [plL, szL, List.length_cons, List.length_append, plL_len _ _ rs]
    have := plR_len (base ++ [(k : Int)]) r
    omega
end
theorem plL_drop {rs : List Row} {i : Nat} {r : Row} (base : List Int) (h : rs[i]? = some r) : plL base i (rs.drop i) = (base ++ [(i : Int)], r) :: (plR (base ++ [(i : Int)]) r ++ plL base (i + 1) (rs.drop (i + 1))) := by
  rw [drop_get h, plL]
theorem plS_drop {xs : List (List Row)} {j : Nat} {rows : List Row} (pl : List Int) (h : xs[j]? = some rows) : plS pl j (xs.drop j) = plL (pl ++ [(j : Int)]) 0 rows ++ plS pl (j + 1) (xs.drop (j + 1)) := by
  rw [drop_get h, plS]
section
variable {P : Program} {w : World} {K : PySem.W.Frag} {mg : Str → Option Value} {base : Heap}
def sp_placed_rows (K : PySem.W.Frag) (n : Nat) : Sp := fun vs H Q _ => ∃ (M : List Addr) (l ab : Addr) (rs : List Row) (bs : List Int) (W F : List Str), vs = [.ref l, .ref ab] ∧ Lsts M H ∧ Dp K (hid M H) (.ref l) (.list (dL rs)) ∧ okL W F rs ∧ htL rs ≤ n ∧ szL rs ≤ 1000 ∧
  SqT K H ab (bs.map V.int) ∧ bs.length + 2 * htL rs ≤ 1000 ∧ ∀ p xs H', Same H H' → H p = none → H' p = some (.lst xs) → DpAll K (hid (p :: M) H') xs (plD (plL bs 0 rs)) → Q (.ref p) H'
theorem sc_placed_rows : FnScope ["rows", "base", "result", "index", "row", "place", "side", "inner"] ["rows", "base"] (defScope s_placed_rows) := ⟨rfl, rfl, rfl, by decide +kernel, rfl, by decide +kernel, by decide +kernel⟩
theorem bd_placed_rows : BindOk "placed_rows" "placed_rows" s_placed_rows ["rows", "base"] := fun _ _ _ _ _ _ us hl => match us, hl with | [_, _], _ => rfl
theorem c_placed_rows (T : Txt w K mg) : ∀ n : Nat, Cal P w K mg base "placed_rows" (1 + n) ["rows", "base"] (sp_placed_rows K n)
  | 0 => T.d_placed_rows.cal0 bd_placed_rows fun vs H Q E h => by
    obtain ⟨M, l, ab, rs, bs, W, F, _, _, _, _, h, _⟩ := h
    have := htL_pos rs
    omega
  | n + 1 => by
    have rec_ := c_placed_rows T n
    refine T.d_placed_rows.cal sc_placed_rows bd_placed_rows (fun vs H Q E h => by obtain ⟨M, l, ab, rs, bs, W, F, rfl, _⟩ := h; rfl) (fun f cdv A outer s H vs Q E hr h => ?_)
    obtain ⟨M, l, ab, rs, bs, W, F, rfl, hM, hd, ok, hht, hsz, hb, hbl, q⟩ := h
    have hr1 : Room 1 _ := hr.mono (Nat.le_add_right 1 n)
    have nd := sc_placed_rows.nd
    refine ⟨_, pss_cons (ps_set (i := 2) nd rfl (Or.inl rfl) (pe_lst pa_nil))
      (pss_cons (ps_for PassesOwn.never rfl (pi_enum (by rfl) T.b_enumerate (pa_cons (pv 0) pa_nil)) (pg_tup (by rfl) (pgs_cons (pg_name (i := 3) nd rfl (Or.inl rfl)) (pgs_cons (pg_name (i := 4) nd rfl (Or.inl rfl)) pgs_nil)))
        (pss_cons (ps_set (i := 5) nd rfl (Or.inl rfl) (pe_op op_catQ (pv 1) (pe_tup (pa_cons (pv 3) pa_nil))))
        (pss_cons (ps_expr (pe_bm PySem.F.plainAttrs_list PySem.F.slot_list_append PySem.F.type_list_append mt_append (pv 2) (pa_cons (pe_tup (pa_cons (pv 5) (pa_cons (pv 4) pa_nil))) pa_nil)))
        (pss_one (ps_for PassesOwn.never rfl (pi_enum (by rfl) T.b_enumerate (pa_cons (pe_c (c_branches T) hr1 (pa_cons (pv 4) pa_nil)) pa_nil)) (pg_tup (by rfl) (pgs_cons (pg_name (i := 6) nd rfl (Or.inl rfl)) (pgs_cons (pg_name (i := 7) nd rfl (Or.inl rfl)) pgs_nil)))
          (pss_one (ps_expr (pe_bm PySem.F.plainAttrs_list PySem.F.slot_list_extend PySem.F.type_list_extend mt_extend (pv 2) (pa_cons (pe_c rec_ hr (pa_cons (pv 7) (pa_cons (pe_op op_catQ (pv 5) (pe_tup (pa_cons (pv 6) pa_nil))) pa_nil))) pa_nil)))))))))
      (pss_one (ps_ret (pv 2)))), ?_⟩
    obtain ⟨xs, hl, hall⟩ : ∃ xs, SqL K (hid M H) l xs ∧ DpAll K (hid M H) xs (dL rs) := by
      cases hd with
      | lst a b => exact ⟨_, a, b⟩
    have lx : xs.length = rs.length := by rw [dA_len hall, dL_length]
    have tot := plL_len bs 0 rs
    refine ⟨Nat.zero_le _, fun p np => ?_⟩
    have hlH : SqL K H l xs := sqL_same (hid_le M H) hl
    refine ⟨_, rfl, l, xs, rfl, sqL_same (same_new np _) hlH, for_it walk_enum (fun i σ H' => (∃ v3 v4 v5 v6 v7, σ = [some (.ref l), some (.ref ab), some (.ref p), v3, v4, v5, v6, v7]) ∧ Same H H' ∧ ∃ ys acc, H' p = some (.lst ys) ∧ DpAll K (hid (p :: M) H') ys (plD acc) ∧ acc ++ plL bs i (rs.drop i) = plL bs 0 rs)
      ⟨⟨_, _, _, _, _, rfl⟩, same_new np _, [], [], upd_same, .nil, by rw [List.drop_zero, List.nil_append]⟩ (fun i σ H' _ z => sqL_same z.2.1 hlH) ?_ ?_⟩
    · rintro i y σ H1 H2 hi ⟨⟨v3, v4, v5, v6, v7, rfl⟩, g, ys, acc, hp, hys, hacc⟩ ⟨tt, ix, x, rfl, nt, rfl, hix, hx⟩
      obtain ⟨r, hr0, hdr⟩ := dA_row hall hx
      have okr := okL_at ok hr0
      have hhr : htR r + 1 ≤ htL rs := htR_mem hr0
      have hix : V.int (i : Nat) = ix := Option.some.inj hix
      subst hix
      rw [plL_drop bs hr0] at hacc
      have g2 := g.trans (same_new nt (.tup [.int (i : Nat), x]))
      refine ⟨tt, _, rfl, SqT.of upd_same, rfl, _, _, rfl, _, _, rfl, rfl, ?_⟩
      refine ⟨_, rfl, _, rfl, (by show 1 ≤ sizeLine; decide), fun t1 n1 => ?_⟩
      have g3 := g2.trans (same_new n1 (.tup [.int (i : Nat)]))
      refine ⟨ab, t1, _, [.int (i : Nat)], rfl, rfl, sqT_same g3 hb, SqT.of upd_same, small_line (by rw [List.length_map]; show bs.length + 1 ≤ 1000; omega), fun pl H3 g4 hpl => ?_⟩
      have g5 := g3.trans g4
      have s1 : Same H1 H3 := (same_new nt _).trans ((same_new n1 _).trans g4)
      have hpl : SqT K H3 pl ((bs ++ [(i : Int)]).map V.int) := by rw [List.map_append]; exact hpl
      refine ⟨_, rfl, .inl ⟨rfl, _, SqL.of (s1 _ _ hp)⟩, _, rfl, _, rfl, (by show 2 ≤ sizeLine; decide), fun t2 n2 => ?_⟩
      have s2 := s1.trans (same_new n2 (.tup [.ref pl, x]))
      have g6 := g5.trans (same_new n2 (.tup [.ref pl, x]))
      have hM2 : Lsts (p :: M) (upd H3 t2 (.tup [.ref pl, x])) := ((hM.same g).cons hp).same s2
      have ly : ys.length = acc.length := by rw [dA_len hys, plD, List.length_map]
      have lacc := congrArg List.length hacc
      rw [List.length_append, List.length_cons, List.length_append, tot] at lacc
      refine ⟨p, _, _, rfl, rfl, s2 _ _ hp, small1000 (by omega), ?_⟩
      have d2 : Dp K (hid (p :: M) (upd H3 t2 (.tup [.ref pl, x]))) (.ref t2) (.tuple [.tuple ((bs ++ [(i : Int)]).map PyData.int), dR r]) :=
        .tup (sqT_hid hM2 (SqT.of upd_same)) (.cons (.tup (sqT_hid hM2 (sqT_same (same_new n2 _) hpl)) (dpAll_ints _)) (.cons (dp_same (hid_cons np g6) hdr) .nil))
      have d3 := dA_snoc (dpAll_same (hid_same s2) hys) d2
      have g7 : Same H (upd (upd H3 t2 (.tup [.ref pl, x])) p (.lst (ys ++ [.ref t2]))) := same_upd g6 np _
      refine ⟨_, rfl, hid (p :: M) _, r, x, W, F, rfl, hid_le _ _, dp_same (hid_cons np g7) hdr, okr, fun bx bl H4 hsd g8 nbl hbl => ?_⟩
      have hp4 := g8 _ _ (upd_same (H := upd H3 t2 (.tup [.ref pl, x])) (a := p) (o := .lst (ys ++ [.ref t2])))
      obtain ⟨slen, sat⟩ := sides_at hsd
      have hpl4 : SqT K H4 pl ((bs ++ [(i : Int)]).map V.int) := sqT_same g8 (sqT_updL (s2 _ _ hp) (sqT_same (same_new n2 _) hpl))
      have d4 : DpAll K (hid (p :: M) H4) (ys ++ [.ref t2]) (plD (acc ++ [(bs ++ [(i : Int)], r)])) := by
        rw [plD_app]
        refine dpAll_same (hid_same g8) ?_
        rw [hid_upd (List.mem_cons_self ..)]
        exact d3
      have g9 : Same H H4 := g7.trans g8
      have nblp : bl ≠ p := fun e => by
        rw [e] at nbl
        rw [upd_same] at nbl
        cases nbl
      refine ⟨bl, bx, rfl, SqL.of hbl, for_it walk_enum (fun j σ H' => (∃ v6 v7, σ = [some (.ref l), some (.ref ab), some (.ref p), some (.int (i : Nat)), some x, some (.ref pl), v6, v7]) ∧ Kept [p] H4 H' ∧
          ∃ zs acc2, H' p = some (.lst zs) ∧ DpAll K (hid (p :: M) H') zs (plD acc2) ∧ acc2 ++ (plS (bs ++ [(i : Int)]) j ((sideRows r).drop j) ++ plL bs (i + 1) (rs.drop (i + 1))) = plL bs 0 rs)
        ⟨⟨_, _, rfl⟩, Kept.refl _ _, _, _, hp4, d4, by rw [List.drop_zero, ← plR_sides, List.append_assoc]; exact hacc⟩ (fun j σ H' _ z => SqL.of (z.2.1 _ _ hbl (by simp [nblp]))) ?_ ?_⟩
      · rintro j y σ H5 H6 hj ⟨⟨v6, v7, rfl⟩, kp, zs, acc2, hz, hzs, hacc2⟩ ⟨t3, jx, x3, rfl, nt3, rfl, hjx, hx3⟩
        have hjx : V.int (j : Nat) = jx := Option.some.inj hjx
        subst hjx
        obtain ⟨p3, rows, hrow, rfl, hdp⟩ := sat j x3 hx3
        have hrm : rows ∈ sideRows r := List.mem_of_getElem? hrow
        rw [plS_drop _ hrow] at hacc2
        have g10 : Same H H5 := fun b o e => kp b o (g9 b o e) (by
          intro hb
          rw [List.mem_singleton.mp hb, np] at e
          cases e)
        have g11 := g10.trans (same_new nt3 (.tup [.int (j : Nat), .ref p3]))
        refine ⟨t3, _, rfl, SqT.of upd_same, rfl, _, _, rfl, _, _, rfl, rfl, ?_⟩
        refine ⟨_, rfl, .inl ⟨rfl, _, SqL.of (same_new nt3 _ _ _ hz)⟩, _, rfl, _, rfl, _, rfl, (by show 1 ≤ sizeLine; decide), fun t5 n5 => ?_⟩
        have s3 := (same_new nt3 (.tup [.int (j : Nat), .ref p3])).trans (same_new n5 (.tup [.int (j : Nat)]))
        have hpl5 : SqT K H5 pl ((bs ++ [(i : Int)]).map V.int) := sqT_kept kp hp4 hpl4
        refine ⟨pl, t5, _, [.int (j : Nat)], rfl, rfl, sqT_same s3 hpl5, SqT.of upd_same, small_line (by rw [List.length_map, List.length_append]; show bs.length + 1 + 1 ≤ 1000; omega), fun p6 H9 g15 hp6 => ?_⟩
        have hp6 : SqT K H9 p6 ((bs ++ [(i : Int)] ++ [(j : Int)]).map V.int) := by rw [List.map_append]; exact hp6
        have s4 := s3.trans g15
        have g16 := g10.trans s4
        have hht2 := sides_ht rows hrm
        have hM9 : Lsts (p :: M) H9 := ((hM.same g10).cons hz).same s4
        have l2 := congrArg List.length hacc2
        rw [List.length_append, List.length_append, List.length_append, plL_len, tot] at l2
        have hdp9 : Dp K (hid (p :: M) H9) (.ref p3) (.list (dL rows)) := by
          refine dp_same (fun b o e => ?_) hdp
          have hb : b ∉ p :: M := fun hm => by rw [hid_in hm] at e; cases e
          have e' := hid_le _ _ b o e
          rw [hid_out hb]
          exact s4 _ _ (kp b o (g8 b o e') (fun hm => hb (List.mem_cons.mpr (.inl (List.mem_singleton.mp hm)))))
        refine ⟨p :: M, p3, p6, rows, _, W, F, rfl, hM9, hdp9, sides_ok okr rows hrm, by omega, by omega, hp6, ?_, fun p7 xs7 H10 g17 np7 hp7 d7 => ?_⟩
        · rw [List.length_append, List.length_append]
          show bs.length + 1 + 1 + 2 * htL rows ≤ 1000
          omega
        · have lz : zs.length = acc2.length := by rw [dA_len hzs, plD, List.length_map]
          have l7 : xs7.length = szL rows := by rw [dA_len d7, plD, List.length_map, plL_len]
          have hz10 := g17 _ _ (s4 _ _ hz)
          refine ⟨p, p7, _, _, rfl, rfl, hz10, hp7, small_line (by omega), ?_⟩
          have hne : p7 ≠ p := fun e => by rw [e, s4 _ _ hz] at np7; cases np7
          refine ⟨⟨_, _, rfl⟩, fun b o e hb => ?_, _, acc2 ++ plL (bs ++ [(i : Int)] ++ [(j : Int)]) 0 rows, upd_same, ?_, ?_⟩
          · rw [upd_ne fun z => hb (List.mem_singleton.mpr z)]
            exact g17 _ _ (s4 _ _ (kp b o e hb))
          · rw [hid_upd (List.mem_cons_self ..), plD_app]
            exact dA_app (dpAll_same hid_tl d7) (dpAll_same (hid_same (s4.trans g17)) hzs)
          · rw [← hacc2]
            simp only [List.append_assoc]
      · rintro σ H5 ⟨⟨v6, v7, rfl⟩, kp, zs, acc2, hz, hzs, hacc2⟩
        rw [slen, List.drop_length, plS, List.nil_append] at hacc2
        exact ⟨⟨_, _, _, _, _, rfl⟩, fun b o e => kp b o (g9 b o e) (by
          intro hb
          rw [List.mem_singleton.mp hb, np] at e
          cases e), zs, acc2, hz, hzs, hacc2⟩
    · rintro σ H1 ⟨⟨v3, v4, v5, v6, v7, rfl⟩, g, ys, acc, hp, hys, hacc⟩
      rw [lx, List.drop_length, plL, List.append_nil] at hacc
      rw [hacc] at hys
      exact ⟨_, rfl, q p ys H1 g np hp hys⟩
end
end Tw

set_option Elab.async false
set_option maxRecDepth 100000
set_option maxHeartbeats 4000000
/-! C7: row_variables, row_lines. -/
namespace Tw
open PySem PySem.Spec L2 PyProof.Rows
section
variable {P : Program} {w : World} {K : PySem.W.Frag} {mg : Str → Option Value} {base : Heap}
def sp_row_variables (K : PySem.W.Frag) : Sp := fun vs H Q _ => ∃ (t : Addr) (x sh : Str) (ys : List V) (W F : List Str), vs = [.ref t] ∧ RowAt K H W F t x sh ys ∧
  ∀ (p : Addr) (zs : List Str) (H' : Hp), Same H H' → H p = none → H' p = some (.lst (zs.map V.str)) → (∀ z ∈ zs, z ∈ W) → zs.length ≤ 4 → Q (.ref p) H'
theorem sc_row_variables : FnScope ["row", "letter", "part"] ["row"] (defScope s_row_variables) := ⟨rfl, rfl, rfl, by decide +kernel, rfl, by decide +kernel, by decide +kernel⟩
theorem c_row_variables (T : Txt w K mg) : Cal P w K mg base "row_variables" 1 ["row"] (sp_row_variables K) := by
  refine T.d_row_variables.cal sc_row_variables (fun _ _ _ _ _ _ us hl => match us, hl with | [_], _ => rfl) (fun vs H Q E h => by obtain ⟨t, x, sh, ys, W, F, rfl, _⟩ := h; rfl) (fun f cdv A outer s H vs Q E hr h => ?_)
  obtain ⟨t, x, sh, ys, W, F, rfl, R, q⟩ := h
  have nd := sc_row_variables.nd
  refine ⟨_, pss_one (ps_ret (pe_lc (own := [("letter", 1), ("part", 2)]) (g := gTup K 2 (gCons (gName 1) (gCons (gName 2) gNil))) (by rfl) nd (pi_zipS true (by rfl) T.b_zip (pa_cons (pe_ix ix_kdict (pe_gR T.g_SHAPES) (pe_ix ix_tup (pv 0) pe_int (fun _ _ => rfl)) (fun _ _ => rfl)) (pa_cons (pe_slice sl_tup (pv 0) (po_some pe_int) po_none) pa_nil)))
      (blkOk_by (own := [("letter", 1), ("part", 2)]) (N := ["row", "letter", "part"]) (sc := defScope s_row_variables) (by decide +kernel))
      (fun _ _ _ _ _ => pg_tup (by rfl) (pgs_cons (pg_name (i := 1) nd rfl (Or.inl rfl)) (pgs_cons (pg_name (i := 2) nd rfl (Or.inl rfl)) pgs_nil)))
      (fun _ _ _ _ _ => pts_one (pt_cmpR op_eq (pv 1) pe_str (nomark _))) (fun _ _ _ _ _ => pv 2))), ?_⟩
  refine ⟨_, rfl, t, _, 0, _, rfl, rfl, R.seq, at_0 _ _, _, x, _, rfl, rfl, T.shapes _ R.tab, _, rfl, 1, rfl, t, _, rfl, R.seq, tail_cut _ (by rw [List.length_cons]; omega), fun tp np => ?_⟩
  rw [cut_tail]
  have g1 := same_new np (.tup ys)
  refine ⟨sh, tp, ys, rfl, SqT.of upd_same, fun D nD => ?_⟩
  have nD0 := g1.free nD
  refine lc_it (walk_zipS R.len rfl) (fun i H' => Same H H' ∧ SqT K H' tp ys ∧ ∃ zs : List Str, H' D = some (.lst (zs.map V.str)) ∧ (∀ z ∈ zs, z ∈ W) ∧ zs.length ≤ i)
    ⟨same_upd g1 nD0 _, sqT_same (same_new nD _) (SqT.of upd_same), [], upd_same, (fun z h => by cases h), Nat.le_refl _⟩ (fun i H' _ z => z.2.1) ?_ ?_
  · rintro i y H1 H2 hi ⟨g, hs, zs, hD, hz, hl⟩ ⟨tt, c', y, rfl, nt, rfl, hc, hy⟩
    obtain ⟨c, hc1, rfl⟩ := Option.map_eq_some_iff.mp hc
    have g2 := same_new nt (.tup [.str ⟨#[c]⟩, y])
    refine ⟨tt, _, rfl, SqT.of upd_same, rfl, _, _, rfl, _, _, rfl, rfl, rfl, ?_⟩
    refine ⟨_, rfl, rfl, _, rfl, ?_⟩
    refine ite2 (fun e => ?_) (fun _ => ⟨g.trans g2, sqT_same g2 hs, zs, g2 _ _ hD, hz, by omega⟩)
    have e' : (⟨#[c]⟩ : Str) = Str.ofString "v" := by
      have := of_decide_eq_true e
      injection this
    have ec : c = 118 := (one_sign c "v" 118 (by decide +kernel)).mp e'
    subst ec
    rcases R.part i _ y hc1 hy with ⟨h98, _⟩ | ⟨_, a, rfl, ga⟩
    · exact absurd h98 (by decide)
    · cases ga with
      | @v z hzW =>
        have few := R.few
        refine ⟨_, rfl, _, g2 _ _ hD, by rw [List.length_map]; exact small1000 (by omega), same_upd (g.trans g2) nD0 _, sqT_updL (g2 _ _ hD) (sqT_same g2 hs), zs ++ [z], ?_, fun z' h => ?_, ?_⟩
        · rw [upd_same, List.map_append] <;> rfl
        · rcases List.mem_append.mp h with h | h
          · exact hz z' h
          · rw [List.mem_singleton.mp h]; exact hzW
        · rw [List.length_append]; exact Nat.add_le_add hl (Nat.le_refl 1)
  · rintro H1 ⟨g, hs, zs, hD, hz, hl⟩
    exact q D zs H1 g nD0 hD hz (Nat.le_trans hl R.few)
end
end Tw

set_option Elab.async false
set_option maxRecDepth 100000
set_option maxHeartbeats 4000000
/-! C8a: the class Program: its fields, rows, places. -/
namespace Tw
open PySem PySem.Spec L2 PyProof.Rows
abbrev cP (K : PySem.W.Frag) : Addr := He.ga K "Program"
def pF (a1 a2 a3 a4 : Addr) : List (Str × V) := [("inputs", .ref a1), ("fields", .ref a2), ("outputs", .ref a3), ("body", .ref a4)]
theorem pF_inputs (a1 a2 a3 a4 : Addr) : (pF a1 a2 a3 a4).lookup ("inputs" : Str) = some (V.ref a1) := by kernel_rfl
theorem pF_fields (a1 a2 a3 a4 : Addr) : (pF a1 a2 a3 a4).lookup ("fields" : Str) = some (V.ref a2) := by kernel_rfl
theorem pF_outputs (a1 a2 a3 a4 : Addr) : (pF a1 a2 a3 a4).lookup ("outputs" : Str) = some (V.ref a3) := by kernel_rfl
theorem pF_body (a1 a2 a3 a4 : Addr) : (pF a1 a2 a3 a4).lookup ("body" : Str) = some (V.ref a4) := by kernel_rfl
theorem pF_m1 (a1 a2 a3 a4 : Addr) : (pF a1 a2 a3 a4).lookup ("check_counts" : Str) = none := by kernel_rfl
theorem pF_m2 (a1 a2 a3 a4 : Addr) : (pF a1 a2 a3 a4).lookup ("places" : Str) = none := by kernel_rfl
theorem pF_m3 (a1 a2 a3 a4 : Addr) : (pF a1 a2 a3 a4).lookup ("places_of" : Str) = none := by kernel_rfl
theorem pF_m4 (a1 a2 a3 a4 : Addr) : (pF a1 a2 a3 a4).lookup ("variables" : Str) = none := by kernel_rfl
theorem pF_m5 (a1 a2 a3 a4 : Addr) : (pF a1 a2 a3 a4).lookup ("copies" : Str) = none := by kernel_rfl
theorem pF_m6 (a1 a2 a3 a4 : Addr) : (pF a1 a2 a3 a4).lookup ("readers" : Str) = none := by kernel_rfl
theorem pF_m7 (a1 a2 a3 a4 : Addr) : (pF a1 a2 a3 a4).lookup ("rows" : Str) = none := by kernel_rfl
theorem pF_mk (a1 a2 a3 a4 : Addr) : putF ("body" : Str) (V.ref a4) (putF ("outputs" : Str) (V.ref a3) (putF ("fields" : Str) (V.ref a2) (putF ("inputs" : Str) (V.ref a1) []))) = pF a1 a2 a3 a4 := by kernel_rfl
/-- a program of these rows stands at p -/
structure ProgAt (K : PySem.W.Frag) (H G : Hp) (p : Addr) (ins fs outs : List Str) (rs : List Row) : Prop where
  ex : ∃ dx a1 a2 a3 a4, H p = some (.ins (cP K) dx (pF a1 a2 a3 a4)) ∧ SqT K H a1 (ins.map V.str) ∧ SqT K H a2 (fs.map V.str) ∧ SqT K H a3 (outs.map V.str) ∧ Dp K G (.ref a4) (.list (dL rs))
theorem ProgAt.same {K : PySem.W.Frag} {H H' G G' : Hp} {p : Addr} {ins fs outs : List Str} {rs : List Row} (h : ProgAt K H G p ins fs outs rs) (e : Same H H') (e' : Same G G') : ProgAt K H' G' p ins fs outs rs := by
  obtain ⟨dx, a1, a2, a3, a4, h0, h1, h2, h3, h4⟩ := h.ex
  exact ⟨dx, a1, a2, a3, a4, e _ _ h0, sqT_same e h1, sqT_same e h2, sqT_same e h3, dp_same e' h4⟩
/-- what is asked of a program -/
structure Prg (W ins fs outs : List Str) (rs : List Row) : Prop where
  ok : okL W fs rs
  ht : htL rs ≤ 4
  sz : szL rs ≤ 20
  cp : cpL rs ≤ 4
  rd : (rdL rs).length ≤ 3
  rdn : (rdL rs).Nodup
  w : ∀ x ∈ W, isW x
  wl : W.length ≤ 6
  i : ∀ x ∈ ins, x ∈ W
  i1 : 1 ≤ ins.length
  i3 : ins.length ≤ 3
  ind : ins.Nodup
  f : ∀ x ∈ fs, isW x
  f1 : 1 ≤ fs.length
  f2 : fs.length ≤ 2
  fnd : fs.Nodup
  o : ∀ x ∈ outs, x ∈ W
  o3 : outs.length ≤ 3
  ond : outs.Nodup
mutual
theorem plR_ok {W F : List Str} (pl : List Int) : ∀ {r : Row}, okR W F r → ∀ q ∈ plR pl r, okR W F q.2
  | .leaf _ _, _, q, h => by rw [plR] at h; cases h
  | .node _ _ a b, ok, q, h => by
    rw [okR] at ok
    rw [plR] at h
    rcases List.mem_append.mp h with h | h
    · exact plL_ok _ _ ok.2.2.1 q h
    · exact plL_ok _ _ ok.2.2.2 q h
theorem plL_ok {W F : List Str} (bs : List Int) (k : Nat) : ∀ {rs : List Row}, okL W F rs → ∀ q ∈ plL bs k rs, okR W F q.2
  | [], _, q, h => by rw [plL] at h; cases h
  | r :: rs, ok, q, h => by
    rw [okL] at ok
    rw [plL] at h
    rcases List.mem_cons.mp h with rfl | h
    · exact ok.1
    · rcases List.mem_append.mp h with h | h
      · exact plR_ok _ ok.1 q h
      · exact plL_ok _ _ ok.2 q h
end
theorem pl_at {K : PySem.W.Frag} {G : Hp} {xs : List V} {l : List (List Int × Row)} {i : Nat} {x : V} (h : DpAll K G xs (plD l)) (e : xs[i]? = some x) :
    ∃ q t pl v, l[i]? = some q ∧ x = .ref t ∧ SqT K G t [.ref pl, v] ∧ Dp K G (.ref pl) (.tuple (q.1.map PyData.int)) ∧ Dp K G v (dR q.2) := by
  obtain ⟨d, e1, h1⟩ := dA_get h e
  obtain ⟨q, e2, rfl⟩ := map_get e1
  cases h1 with
  | tup hs ha =>
    cases ha with
    | cons h2 h3 =>
      cases h3 with
      | cons h4 h5 =>
        cases h5
        cases h2 with
        | tup a b => exact ⟨q, _, _, _, e2, rfl, hs, .tup a b, h4⟩
def plcD (rs : List Row) : List PyData := (plL [] 0 rs).map fun q => .tuple (q.1.map PyData.int)
section
variable {P : Program} {w : World} {K : PySem.W.Frag} {mg : Str → Option Value} {base : Heap}
/-! rows -/
def sp_rows (K : PySem.W.Frag) : Sp := fun vs H Q _ => ∃ (M : List Addr) (p : Addr) (W ins fs outs : List Str) (rs : List Row), vs = [.ref p] ∧ Lsts M H ∧ ProgAt K H (hid M H) p ins fs outs rs ∧ Prg W ins fs outs rs ∧
  ∀ (l : Addr) (xs : List V) (H' : Hp), Same H H' → H l = none → H' l = some (.lst xs) → DpAll K (hid (l :: M) H') xs (dL rs) → Q (.ref l) H'
theorem sc_rows : FnScope ["self"] ["self"] (defScope s_P_rows) := ⟨rfl, rfl, rfl, by decide +kernel, rfl, by decide +kernel, by decide +kernel⟩
theorem m_rows (T : Txt w K mg) : Mal P w K mg base "Program" "rows" 6 ["self"] (sp_rows K) := by
  refine T.d_P_rows.cal sc_rows (fun _ _ _ _ _ _ us hl => match us, hl with | [_], _ => rfl) (fun vs H Q E h => by obtain ⟨M, p, W, ins, fs, outs, rs, rfl, _⟩ := h; rfl) (fun f cdv A outer s H vs Q E hr h => ?_)
  obtain ⟨M, p, W, ins, fs, outs, rs, rfl, hM, hp, G, q⟩ := h
  obtain ⟨dx, a1, a2, a3, a4, h0, h1, h2, h3, h4⟩ := hp.ex
  refine ⟨_, pss_one (ps_ret (pe_c (c_copied_rows T 4) hr (pa_cons (pe_fld (pv 0) rfl) pa_nil))), ?_⟩
  exact ⟨_, rfl, p, _, dx, _, _, rfl, h0, T.cl_Program, T.n_body, pF_body _ _ _ _, M, a4, rs, W, fs, rfl, hM, h4, G.ok, G.ht, Nat.le_trans G.sz (by decide), q⟩
/-! places -/
def sp_places (K : PySem.W.Frag) : Sp := fun vs H Q _ => ∃ (p : Addr) (W ins fs outs : List Str) (rs : List Row), vs = [.ref p] ∧ ProgAt K H H p ins fs outs rs ∧ Prg W ins fs outs rs ∧
  ∀ (l : Addr) (xs : List V) (H' : Hp), Same H H' → SqL K H' l xs → DpAll K H' xs (plcD rs) → Q (.ref l) H'
theorem sc_places : FnScope ["self", "place", "row"] ["self"] (defScope s_P_places) := ⟨rfl, rfl, rfl, by decide +kernel, rfl, by decide +kernel, by decide +kernel⟩
theorem m_places (T : Txt w K mg) : Mal P w K mg base "Program" "places" 6 ["self"] (sp_places K) := by
  refine T.d_P_places.cal sc_places (fun _ _ _ _ _ _ us hl => match us, hl with | [_], _ => rfl) (fun vs H Q E h => by obtain ⟨p, W, ins, fs, outs, rs, rfl, _⟩ := h; rfl) (fun f cdv A outer s H vs Q E hr h => ?_)
  obtain ⟨p, W, ins, fs, outs, rs, rfl, hp, G, q⟩ := h
  obtain ⟨dx, a1, a2, a3, a4, h0, h1, h2, h3, h4⟩ := hp.ex
  have nd := sc_places.nd
  refine ⟨_, pss_one (ps_ret (pe_lc (own := [("place", 1), ("row", 2)]) (g := gTup K 2 (gCons (gName 1) (gCons (gName 2) gNil))) (by rfl) nd (pi_list (pe_c (c_placed_rows T 4) hr (pa_cons (pe_fld (pv 0) rfl) (pa_cons (pe_tup pa_nil) pa_nil))))
      (blkOk_by (own := [("place", 1), ("row", 2)]) (N := ["self", "place", "row"]) (sc := defScope s_P_places) (by decide +kernel))
      (fun _ _ _ _ _ => pg_tup (by rfl) (pgs_cons (pg_name (i := 1) nd rfl (Or.inl rfl)) (pgs_cons (pg_name (i := 2) nd rfl (Or.inl rfl)) pgs_nil)))
      (fun _ _ _ _ _ => pts_nil) (fun _ _ _ _ _ => pv 1))), ?_⟩
  refine ⟨_, rfl, p, _, dx, _, _, rfl, h0, T.cl_Program, T.n_body, pF_body _ _ _ _, Nat.zero_le _, fun tp np => ?_⟩
  have g1 := same_new np (.tup [])
  refine ⟨[], a4, tp, rs, [], W, fs, rfl, (fun b hb => by cases hb), by rw [hid_nil]; exact dp_same g1 h4, G.ok, G.ht, Nat.le_trans G.sz (by decide), SqT.of upd_same, (by show 0 + 2 * htL rs ≤ 1000; have := G.ht; omega), fun pp xs H1 g2 npp hpp dpp => ?_⟩
  have g3 := g1.trans g2
  have lx : xs.length = szL rs := by rw [dA_len dpp, plD, List.length_map, plL_len]
  refine ⟨pp, rfl, ⟨_, SqL.of hpp⟩, fun D nD => ?_⟩
  have nD0 := g3.free nD
  have npD : pp ≠ D := ne_of_none hpp nD
  refine lc_it (walk_list (K := K) (a := pp) (xs := xs)) (fun i H' => Same H H' ∧ Kept [D] H1 H' ∧ ∃ zs, H' D = some (.lst zs) ∧ DpAll K (hid [D] H') zs (((plL [] 0 rs).take i).map fun q => .tuple (q.1.map PyData.int)))
    ⟨same_upd g3 nD0 _, Kept.of (same_new nD _), [], upd_same, .nil⟩ (fun i H' _ z => SqL.of (z.2.1 _ _ hpp (by simp [npD]))) ?_ ?_
  · rintro i y H2 H3 hi ⟨g, kp, zs, hD, hzs⟩ ⟨rfl, hx⟩
    obtain ⟨qq, t, pl, v, hq, rfl, ht, hpl, hv⟩ := pl_at dpp hx
    have up : Same (hid [pp] H1) (hid [D] H3) := fun b o e => by
      have e' := hid_le _ _ b o e
      have hb : b ≠ D := fun z => by rw [z, nD] at e'; cases e'
      rw [hid_out (by simp [hb])]
      exact kp b o e' (by simp [hb])
    refine ⟨t, _, rfl, sqT_same (up.trans (hid_le _ _)) ht, rfl, _, _, rfl, _, _, rfl, rfl, rfl, ?_⟩
    have lz : zs.length ≤ 20 := by
      rw [dA_len hzs, List.length_map, List.length_take]
      have := G.sz
      omega
    refine ⟨_, rfl, zs, hD, small1000 (by omega), same_upd g nD0 _, kp.trans (Kept.upd (List.mem_singleton.mpr rfl)), _, upd_same, ?_⟩
    rw [hid_upd (List.mem_singleton.mpr rfl), take_get hq, List.map_append]
    exact dA_snoc hzs (dp_same up hpl)
  · rintro H2 ⟨g, kp, zs, hD, hzs⟩
    have e : (plL [] 0 rs).take xs.length = plL [] 0 rs := by rw [lx, ← plL_len [] 0 rs, List.take_length]
    rw [e] at hzs
    exact q D zs H2 g (SqL.of hD) (dpAll_same (hid_le _ _) hzs)
end
end Tw

set_option Elab.async false
set_option maxRecDepth 100000
set_option maxHeartbeats 4000000
/-! C8b: copies, readers, variables, the counts. -/
namespace Tw
open PySem PySem.Spec L2 PyProof.Rows
/-! counting -/
def cnt (w : Str) (l : List (List Int × Row)) : Nat := (l.filter fun q => decide (q.2.word = w)).length
theorem cnt_app (w : Str) (a b : List (List Int × Row)) : cnt w (a ++ b) = cnt w a + cnt w b := by rw [cnt, List.filter_append, List.length_append] <;> rfl
theorem cnt_cons (w : Str) (q : List Int × Row) (l : List (List Int × Row)) : cnt w (q :: l) = (if q.2.word = w then 1 else 0) + cnt w l := by
  unfold cnt
  rw [List.filter_cons]
  by_cases h : q.2.word = w
  · rw [if_pos (decide_eq_true h), if_pos h, List.length_cons, Nat.add_comm]
  · rw [if_neg (by rw [decide_eq_true_eq]; exact h), if_neg h, Nat.zero_add]
theorem cnt_take {w : Str} {l : List (List Int × Row)} {i : Nat} {q : List Int × Row} (h : l[i]? = some q) : cnt w (l.take (i + 1)) = cnt w (l.take i) + (if q.2.word = w then 1 else 0) := by
  rw [take_get h, cnt_app, cnt_cons] <;> rfl
theorem cnt_le (w : Str) (l : List (List Int × Row)) : cnt w l ≤ l.length := List.length_filter_le ..
mutual
theorem cnt_cpR {W F : List Str} (pl : List Int) : ∀ r : Row, okR W F r → (if r.word = Str.ofString "copy" then 1 else 0) + cnt "copy" (plR pl r) = cpR r
  | .leaf w ps, _ => by rw [plR, cpR] <;> rfl
  | .node w vs a b, ok => by
    rw [okR] at ok
    have h : ∀ q ∈ nodeL, q.1 ≠ Str.ofString "copy" := by decide +kernel
    rw [plR, cpR, cnt_app, cnt_cpL _ _ a ok.2.2.1, cnt_cpL _ _ b ok.2.2.2]
    show (if w = Str.ofString "copy" then 1 else 0) + _ = _
    rw [if_neg (h _ ok.1), Nat.zero_add]
theorem cnt_cpL {W F : List Str} (bs : List Int) (k : Nat) : ∀ rs : List Row, okL W F rs → cnt "copy" (plL bs k rs) = cpL rs
  | [], _ => by rw [plL, cpL] <;> rfl
  | r :: rs, ok => by
    rw [okL] at ok
    rw [plL, cpL, cnt_cons, cnt_app, ← Nat.add_assoc]
    have h1 := cnt_cpR (bs ++ [(k : Int)]) r ok.1
    have h2 := cnt_cpL bs (k + 1) rs ok.2
    show (if r.word = Str.ofString "copy" then 1 else 0) + _ + _ = _
    omega
end
mutual
theorem cnt_rdR {W F : List Str} (pl : List Int) : ∀ r : Row, okR W F r → (if r.word = Str.ofString "watch" then 1 else 0) + cnt "watch" (plR pl r) = (rdR r).length
  | .leaf w ps, ok => by
    rw [plR]
    show (if w = Str.ofString "watch" then 1 else 0) + 0 = _
    by_cases e : w = Str.ofString "watch"
    · subst e
      obtain ⟨r, x, n, rfl, _⟩ := okW_leaf ok
      unfold rdR
      rw [if_pos rfl, if_pos rfl] <;> rfl
    · unfold rdR
      rw [if_neg e, if_neg e] <;> rfl
  | .node w vs a b, ok => by
    rw [okR] at ok
    have h : ∀ q ∈ nodeL, q.1 ≠ Str.ofString "watch" := by decide +kernel
    rw [plR, rdR, cnt_app, cnt_rdL _ _ a ok.2.2.1, cnt_rdL _ _ b ok.2.2.2]
    show (if w = Str.ofString "watch" then 1 else 0) + _ = _
    rw [if_neg (h _ ok.1), Nat.zero_add, List.length_append]
theorem cnt_rdL {W F : List Str} (bs : List Int) (k : Nat) : ∀ rs : List Row, okL W F rs → cnt "watch" (plL bs k rs) = (rdL rs).length
  | [], _ => by rw [plL, rdL] <;> rfl
  | r :: rs, ok => by
    rw [okL] at ok
    rw [plL, rdL, cnt_cons, cnt_app, ← Nat.add_assoc, List.length_append]
    have h1 := cnt_rdR (bs ++ [(k : Int)]) r ok.1
    have h2 := cnt_rdL bs (k + 1) rs ok.2
    show (if r.word = Str.ofString "watch" then 1 else 0) + _ + _ = _
    omega
end
theorem nd_few {α : Type} [DecidableEq α] : ∀ {xs ys : List α}, xs.Nodup → (∀ x ∈ xs, x ∈ ys) → xs.length ≤ ys.length
  | [], _, _, _ => Nat.zero_le _
  | x :: xs, ys, h, s => by
    have h1 := List.nodup_cons.mp h
    have hx : x ∈ ys := s x (List.mem_cons_self ..)
    have h2 : xs.length ≤ (ys.erase x).length := nd_few h1.2 fun z hz => (List.mem_erase_of_ne (fun e => h1.1 (by rw [← e]; exact hz))).mpr (s z (List.mem_cons_of_mem _ hz))
    rw [List.length_erase_of_mem hx] at h2
    have : 1 ≤ ys.length := List.length_pos_of_mem hx
    rw [List.length_cons]
    omega
/-- a row's own tuple begins with its word -/
theorem word_at {K : PySem.W.Frag} {H : Hp} {W F : List Str} {r : Row} {v : V} (h : Dp K H v (dR r)) (ok : okR W F r) : ∃ t ys, v = .ref t ∧ SqT K H t (.str r.word :: ys) := by
  obtain ⟨t, sh, ys, rfl, R⟩ := row_at h ok
  exact ⟨t, ys, rfl, R.seq⟩
theorem watch_at {K : PySem.W.Frag} {H : Hp} {W F : List Str} {r : Row} {t : Addr} (h : Dp K H (.ref t) (dR r)) (ok : okR W F r) (e : r.word = Str.ofString "watch") : ∃ z x n, SqT K H t (.str r.word :: [V.str z, V.str x, V.int (n : Nat)]) := by
  obtain ⟨z, x, n, er, _⟩ := watch_own ok e
  rw [er] at h
  obtain ⟨t', e', hs⟩ := leaf_at h
  cases e'
  exact ⟨z, x, n, hs⟩
theorem plcD_len (rs : List Row) : (plcD rs).length = szL rs := by rw [plcD, List.length_map, plL_len]
section
variable {P : Program} {w : World} {K : PySem.W.Frag} {mg : Str → Option Value} {base : Heap}
/-! places_of, copies -/
def sp_places_of (K : PySem.W.Frag) : Sp := fun vs H Q _ => ∃ (p : Addr) (W ins fs outs : List Str) (rs : List Row) (x : Str), vs = [.ref p, .str x] ∧ ProgAt K H H p ins fs outs rs ∧ Prg W ins fs outs rs ∧
  ∀ (l : Addr) (xs : List V) (H' : Hp), Same H H' → SqL K H' l xs → xs.length = cnt x (plL [] 0 rs) → Q (.ref l) H'
theorem sc_places_of : FnScope ["self", "word", "place", "row"] ["self", "word"] (defScope s_P_places_of) := ⟨rfl, rfl, rfl, by decide +kernel, rfl, by decide +kernel, by decide +kernel⟩
theorem m_places_of (T : Txt w K mg) : Mal P w K mg base "Program" "places_of" 6 ["self", "word"] (sp_places_of K) := by
  refine T.d_P_places_of.cal sc_places_of (fun _ _ _ _ _ _ us hl => match us, hl with | [_, _], _ => rfl) (fun vs H Q E h => by obtain ⟨p, W, ins, fs, outs, rs, x, rfl, _⟩ := h; rfl) (fun f cdv A outer s H vs Q E hr h => ?_)
  obtain ⟨p, W, ins, fs, outs, rs, wd, rfl, hp, G, q⟩ := h
  obtain ⟨dx, a1, a2, a3, a4, h0, h1, h2, h3, h4⟩ := hp.ex
  have nd := sc_places_of.nd
  refine ⟨_, pss_one (ps_ret (pe_lc (own := [("place", 2), ("row", 3)]) (g := gTup K 2 (gCons (gName 2) (gCons (gName 3) gNil))) (by rfl) nd (pi_list (pe_c (c_placed_rows T 4) hr (pa_cons (pe_fld (pv 0) rfl) (pa_cons (pe_tup pa_nil) pa_nil))))
      (blkOk_by (own := [("place", 2), ("row", 3)]) (N := ["self", "word", "place", "row"]) (sc := defScope s_P_places_of) (by decide +kernel))
      (fun _ _ _ _ _ => pg_tup (by rfl) (pgs_cons (pg_name (i := 2) nd rfl (Or.inl rfl)) (pgs_cons (pg_name (i := 3) nd rfl (Or.inl rfl)) pgs_nil)))
      (fun _ _ _ _ _ => pts_one (pt_cmpR op_eq (pe_ix (r := rIxT K) ix_tup (pv 3) pe_int (fun _ _ => rfl)) (pv 1) (by rfl))) (fun _ _ _ _ _ => pv 2))), ?_⟩
  refine ⟨_, rfl, p, _, dx, _, _, rfl, h0, T.cl_Program, T.n_body, pF_body _ _ _ _, Nat.zero_le _, fun tp np => ?_⟩
  have g1 := same_new np (.tup [])
  refine ⟨[], a4, tp, rs, [], W, fs, rfl, (fun b hb => by cases hb), by rw [hid_nil]; exact dp_same g1 h4, G.ok, G.ht, Nat.le_trans G.sz (by decide), SqT.of upd_same, (by show 0 + 2 * htL rs ≤ 1000; have := G.ht; omega), fun pp xs H1 g2 npp hpp dpp => ?_⟩
  have g3 := g1.trans g2
  have lx : xs.length = szL rs := by rw [dA_len dpp, plD, List.length_map, plL_len]
  refine ⟨pp, rfl, ⟨_, SqL.of hpp⟩, fun D nD => ?_⟩
  have nD0 := g3.free nD
  have npD : pp ≠ D := ne_of_none hpp nD
  refine lc_it (walk_list (K := K) (a := pp) (xs := xs)) (fun i H' => Same H H' ∧ Kept [D] H1 H' ∧ ∃ zs, H' D = some (.lst zs) ∧ zs.length = cnt wd ((plL [] 0 rs).take i))
    ⟨same_upd g3 nD0 _, Kept.of (same_new nD _), [], upd_same, rfl⟩ (fun i H' _ z => SqL.of (z.2.1 _ _ hpp (by simp [npD]))) ?_ ?_
  · rintro i y H2 H3 hi ⟨g, kp, zs, hD, hzs⟩ ⟨rfl, hx⟩
    obtain ⟨qq, t, pl, v, hq, rfl, ht, hpl, hv⟩ := pl_at dpp hx
    obtain ⟨t2, ys, rfl, hs⟩ := word_at hv (plL_ok _ _ G.ok qq (List.mem_of_getElem? hq))
    have up : Same (hid [pp] H1) (hid [D] H3) := fun b o e => by
      have e' := hid_le _ _ b o e
      have hb : b ≠ D := fun z => by rw [z, nD] at e'; cases e'
      rw [hid_out (by simp [hb])]
      exact kp b o e' (by simp [hb])
    refine ⟨t, _, rfl, sqT_same (up.trans (hid_le _ _)) ht, rfl, _, _, rfl, _, _, rfl, rfl, rfl, ?_⟩
    have lz : zs.length ≤ 20 := by
      have := cnt_le wd ((plL [] 0 rs).take i)
      rw [List.length_take, plL_len] at this
      have := G.sz
      omega
    have e9 := cnt_take (w := wd) hq
    refine ⟨_, rfl, t2, _, 0, _, rfl, rfl, sqT_same (up.trans (hid_le _ _)) hs, at_0 _ _, _, rfl, rfl, _, rfl, ?_⟩
    refine ite2 (fun e => ?_) (fun e => ?_)
    · have e' : qq.2.word = wd := by
        have := of_decide_eq_true e
        injection this
      rw [if_pos e'] at e9
      refine ⟨_, rfl, zs, hD, small1000 (by omega), same_upd g nD0 _, kp.trans (Kept.upd (List.mem_singleton.mpr rfl)), _, upd_same, ?_⟩
      rw [e9, List.length_append, hzs] <;> rfl
    · have e' : ¬ qq.2.word = wd := fun z => e (decide_eq_true (by rw [z]))
      rw [if_neg e'] at e9
      exact ⟨g, kp, zs, hD, by rw [e9]; exact hzs⟩
  · rintro H2 ⟨g, kp, zs, hD, hzs⟩
    have e : (plL [] 0 rs).take xs.length = plL [] 0 rs := by rw [lx, ← plL_len [] 0 rs, List.take_length]
    rw [e] at hzs
    exact q D zs H2 g (SqL.of hD) hzs
def sp_copies (K : PySem.W.Frag) : Sp := fun vs H Q _ => ∃ (p : Addr) (W ins fs outs : List Str) (rs : List Row), vs = [.ref p] ∧ ProgAt K H H p ins fs outs rs ∧ Prg W ins fs outs rs ∧
  ∀ (l : Addr) (xs : List V) (H' : Hp), Same H H' → SqL K H' l xs → xs.length = cpL rs → Q (.ref l) H'
theorem sc_copies : FnScope ["self"] ["self"] (defScope s_P_copies) := ⟨rfl, rfl, rfl, by decide +kernel, rfl, by decide +kernel, by decide +kernel⟩
theorem m_copies (T : Txt w K mg) : Mal P w K mg base "Program" "copies" 7 ["self"] (sp_copies K) := by
  refine T.d_P_copies.cal sc_copies (fun _ _ _ _ _ _ us hl => match us, hl with | [_], _ => rfl) (fun vs H Q E h => by obtain ⟨p, W, ins, fs, outs, rs, rfl, _⟩ := h; rfl) (fun f cdv A outer s H vs Q E hr h => ?_)
  obtain ⟨p, W, ins, fs, outs, rs, rfl, hp, G, q⟩ := h
  obtain ⟨fm, fd, FG, mm, bb⟩ := (m_places_of (P := P) (base := base) T).ex
  refine ⟨_, pss_one (ps_ret (pe_meth (pv 0) T.cl_Program mm FG hr bb .nil pass0 (pa_cons pe_str pa_nil))), ?_⟩
  obtain ⟨dx, a1, a2, a3, a4, h0, h1, h2, h3, h4⟩ := hp.ex
  refine ⟨_, rfl, p, dx, _, rfl, h0, pF_m3 _ _ _ _, p, W, ins, fs, outs, rs, "copy", rfl, hp, G, fun l xs H' g hl he => q l xs H' g hl ?_⟩
  rw [he, cnt_cpL [] 0 rs G.ok]
/-! readers -/
def sp_readers (K : PySem.W.Frag) : Sp := fun vs H Q _ => ∃ (p : Addr) (W ins fs outs : List Str) (rs : List Row), vs = [.ref p] ∧ ProgAt K H H p ins fs outs rs ∧ Prg W ins fs outs rs ∧
  ∀ (l : Addr) (xs : List V) (H' : Hp), Same H H' → SqL K H' l xs → xs.length = (rdL rs).length → Q (.ref l) H'
theorem sc_readers : FnScope ["self", "place", "row"] ["self"] (defScope s_P_readers) := ⟨rfl, rfl, rfl, by decide +kernel, rfl, by decide +kernel, by decide +kernel⟩
theorem m_readers (T : Txt w K mg) : Mal P w K mg base "Program" "readers" 6 ["self"] (sp_readers K) := by
  refine T.d_P_readers.cal sc_readers (fun _ _ _ _ _ _ us hl => match us, hl with | [_], _ => rfl) (fun vs H Q E h => by obtain ⟨p, W, ins, fs, outs, rs, rfl, _⟩ := h; rfl) (fun f cdv A outer s H vs Q E hr h => ?_)
  obtain ⟨p, W, ins, fs, outs, rs, rfl, hp, G, q⟩ := h
  obtain ⟨dx, a1, a2, a3, a4, h0, h1, h2, h3, h4⟩ := hp.ex
  have nd := sc_readers.nd
  refine ⟨_, pss_one (ps_ret (pe_lc (own := [("place", 1), ("row", 2)]) (g := gTup K 2 (gCons (gName 1) (gCons (gName 2) gNil))) (by rfl) nd (pi_list (pe_c (c_placed_rows T 4) hr (pa_cons (pe_fld (pv 0) rfl) (pa_cons (pe_tup pa_nil) pa_nil))))
      (blkOk_by (own := [("place", 1), ("row", 2)]) (N := ["self", "place", "row"]) (sc := defScope s_P_readers) (by decide +kernel))
      (fun _ _ _ _ _ => pg_tup (by rfl) (pgs_cons (pg_name (i := 1) nd rfl (Or.inl rfl)) (pgs_cons (pg_name (i := 2) nd rfl (Or.inl rfl)) pgs_nil)))
      (fun _ _ _ _ _ => pts_one (pt_cmpR op_eq (pe_ix (r := rIxT K) ix_tup (pv 2) pe_int (fun _ _ => rfl)) pe_str (nomark _))) (fun _ _ _ _ _ => pe_tup (pa_cons (pe_ix (r := rIxT K) ix_tup (pv 2) pe_int (fun _ _ => rfl)) (pa_cons (pv 1) pa_nil))))), ?_⟩
  refine ⟨_, rfl, p, _, dx, _, _, rfl, h0, T.cl_Program, T.n_body, pF_body _ _ _ _, Nat.zero_le _, fun tp np => ?_⟩
  have g1 := same_new np (.tup [])
  refine ⟨[], a4, tp, rs, [], W, fs, rfl, (fun b hb => by cases hb), by rw [hid_nil]; exact dp_same g1 h4, G.ok, G.ht, Nat.le_trans G.sz (by decide), SqT.of upd_same, (by show 0 + 2 * htL rs ≤ 1000; have := G.ht; omega), fun pp xs H1 g2 npp hpp dpp => ?_⟩
  have g3 := g1.trans g2
  have lx : xs.length = szL rs := by rw [dA_len dpp, plD, List.length_map, plL_len]
  refine ⟨pp, rfl, ⟨_, SqL.of hpp⟩, fun D nD => ?_⟩
  have nD0 := g3.free nD
  have npD : pp ≠ D := ne_of_none hpp nD
  refine lc_it (walk_list (K := K) (a := pp) (xs := xs)) (fun i H' => Same H H' ∧ Kept [D] H1 H' ∧ ∃ zs, H' D = some (.lst zs) ∧ zs.length = cnt "watch" ((plL [] 0 rs).take i))
    ⟨same_upd g3 nD0 _, Kept.of (same_new nD _), [], upd_same, rfl⟩ (fun i H' _ z => SqL.of (z.2.1 _ _ hpp (by simp [npD]))) ?_ ?_
  · rintro i y H2 H3 hi ⟨g, kp, zs, hD, hzs⟩ ⟨rfl, hx⟩
    obtain ⟨qq, t, pl, v, hq, rfl, ht, hpl, hv⟩ := pl_at dpp hx
    have okq := plL_ok _ _ G.ok qq (List.mem_of_getElem? hq)
    obtain ⟨t2, ys, rfl, hs⟩ := word_at hv okq
    have up : Same (hid [pp] H1) (hid [D] H3) := fun b o e => by
      have e' := hid_le _ _ b o e
      have hb : b ≠ D := fun z => by rw [z, nD] at e'; cases e'
      rw [hid_out (by simp [hb])]
      exact kp b o e' (by simp [hb])
    refine ⟨t, _, rfl, sqT_same (up.trans (hid_le _ _)) ht, rfl, _, _, rfl, _, _, rfl, rfl, rfl, ?_⟩
    have lz : zs.length ≤ 20 := by
      have := cnt_le "watch" ((plL [] 0 rs).take i)
      rw [List.length_take, plL_len] at this
      have := G.sz
      omega
    have e9 := cnt_take (w := "watch") hq
    refine ⟨_, rfl, t2, _, 0, _, rfl, rfl, sqT_same (up.trans (hid_le _ _)) hs, at_0 _ _, rfl, _, rfl, ?_⟩
    refine ite2 (fun e => ?_) (fun e => ?_)
    · have e' : qq.2.word = Str.ofString "watch" := by
        have := of_decide_eq_true e
        injection this
      rw [if_pos e'] at e9
      obtain ⟨z, x, n, hs2⟩ := watch_at hv okq e'
      refine ⟨_, rfl, t2, _, 1, _, rfl, rfl, sqT_same (up.trans (hid_le _ _)) hs2, rfl, _, rfl, (by show 2 ≤ sizeLine; decide), fun t6 n6 => ?_⟩
      have g6 := same_new n6 (.tup [V.str z, .ref pl])
      refine ⟨zs, g6 _ _ hD, small1000 (by omega), same_upd (g.trans g6) nD0 _, (kp.trans (Kept.of g6)).trans (Kept.upd (List.mem_singleton.mpr rfl)), _, upd_same, ?_⟩
      rw [e9, List.length_append, hzs] <;> rfl
    · have e' : ¬ qq.2.word = Str.ofString "watch" := fun z => e (decide_eq_true (by rw [z] <;> rfl))
      rw [if_neg e'] at e9
      exact ⟨g, kp, zs, hD, by rw [e9]; exact hzs⟩
  · rintro H2 ⟨g, kp, zs, hD, hzs⟩
    have e : (plL [] 0 rs).take xs.length = plL [] 0 rs := by rw [lx, ← plL_len [] 0 rs, List.take_length]
    rw [e, cnt_rdL [] 0 rs G.ok] at hzs
    exact q D zs H2 g (SqL.of hD) hzs
end
end Tw

set_option Elab.async false
set_option maxRecDepth 100000
set_option maxHeartbeats 4000000
/-! C8c: variables, check_counts. -/
namespace Tw
open PySem PySem.Spec L2 PyProof.Rows
section
variable {P : Program} {w : World} {K : PySem.W.Frag} {mg : Str → Option Value} {base : Heap}
/-- a list of names found so far -/
structure Found (W : List Str) (H : Hp) (D : Addr) (zs : List Str) : Prop where
  at_ : H D = some (.lst (zs.map V.str))
  nd : zs.Nodup
  all : ∀ z ∈ zs, z ∈ W
theorem Found.few {W : List Str} {H : Hp} {D : Addr} {zs : List Str} (F : Found W H D zs) (h : W.length ≤ 6) : zs.length ≤ 6 := Nat.le_trans (nd_few F.nd F.all) h
theorem Found.same {W : List Str} {H H' : Hp} {D : Addr} {zs : List Str} (e : Same H H') (F : Found W H D zs) : Found W H' D zs := ⟨e _ _ F.at_, F.nd, F.all⟩
theorem Found.add {W : List Str} {H : Hp} {D : Addr} {zs : List Str} {z : Str} (F : Found W H D zs) (h : z ∈ W) (n : z ∉ zs) : Found W (upd H D (.lst (zs.map V.str ++ [.str z]))) D (zs ++ [z]) :=
  ⟨by rw [upd_same, List.map_append] <;> rfl, List.nodup_append.mpr ⟨F.nd, List.nodup_cons.mpr ⟨List.not_mem_nil, .nil⟩, fun a ha b hb => by rw [List.mem_singleton.mp hb]; rintro rfl; exact n ha⟩, fun a ha => by
    rcases List.mem_append.mp ha with ha | ha
    · exact F.all a ha
    · rw [List.mem_singleton.mp ha]; exact h⟩
def sp_variables (K : PySem.W.Frag) : Sp := fun vs H Q _ => ∃ (p : Addr) (W ins fs outs : List Str) (rs : List Row), vs = [.ref p] ∧ ProgAt K H H p ins fs outs rs ∧ Prg W ins fs outs rs ∧
  ∀ (l : Addr) (xs : List V) (H' : Hp), Same H H' → SqL K H' l xs → xs.length ≤ 6 → Q (.ref l) H'
theorem sc_variables : FnScope ["self", "found", "place", "row", "name"] ["self"] (defScope s_P_variables) := ⟨rfl, rfl, rfl, by decide +kernel, rfl, by decide +kernel, by decide +kernel⟩
theorem m_variables (T : Txt w K mg) : Mal P w K mg base "Program" "variables" 6 ["self"] (sp_variables K) := by
  refine T.d_P_variables.cal sc_variables (fun _ _ _ _ _ _ us hl => match us, hl with | [_], _ => rfl) (fun vs H Q E h => by obtain ⟨p, W, ins, fs, outs, rs, rfl, _⟩ := h; rfl) (fun f cdv A outer s H vs Q E hr h => ?_)
  obtain ⟨p, W, ins, fs, outs, rs, rfl, hp, G, q⟩ := h
  obtain ⟨dx, a1, a2, a3, a4, h0, h1, h2, h3, h4⟩ := hp.ex
  have nd := sc_variables.nd
  have hr1 : Room 1 _ := hr.mono (by decide)
  refine ⟨_, pss_cons (ps_set (i := 1) nd rfl (Or.inl rfl) (pe_callTy call_list_of (by rfl) T.b_list boot_list (pa_cons (pe_fld (pv 0) rfl) pa_nil)))
    (pss_cons (ps_for PassesOwn.never rfl (pi_list (pe_c (c_placed_rows T 4) hr (pa_cons (pe_fld (pv 0) rfl) (pa_cons (pe_tup pa_nil) pa_nil)))) (pg_tup (by rfl) (pgs_cons (pg_name (i := 2) nd rfl (Or.inl rfl)) (pgs_cons (pg_name (i := 3) nd rfl (Or.inl rfl)) pgs_nil)))
      (pss_one (ps_for PassesOwn.never rfl (pi_list (pe_c (c_row_variables T) hr1 (pa_cons (pv 3) pa_nil))) (pg_name (i := 4) nd rfl (Or.inl rfl))
        (pss_one (ps_if (pt_cmpR op_notIn_seq (pv 4) (pv 1) (by rfl)) (pss_one (ps_expr (pe_bm PySem.F.plainAttrs_list PySem.F.slot_list_append PySem.F.type_list_append mt_append (pv 1) (pa_cons (pv 4) pa_nil)))) pss_nil)))))
    (pss_cons (ps_for PassesOwn.never rfl (pi_tup (pe_fld (pv 0) rfl)) (pg_name (i := 4) nd rfl (Or.inl rfl))
        (pss_one (ps_if (pt_cmpR op_notIn_seq (pv 4) (pv 1) (by rfl)) (pss_one (ps_expr (pe_bm PySem.F.plainAttrs_list PySem.F.slot_list_append PySem.F.type_list_append mt_append (pv 1) (pa_cons (pv 4) pa_nil)))) pss_nil)))
    (pss_one (ps_ret (pv 1))))), ?_⟩
  refine ⟨_, rfl, p, _, dx, _, _, rfl, h0, T.cl_Program, T.n_inputs, pF_inputs _ _ _ _, a1, _, rfl, .inr h1, fun l nl => ?_⟩
  have F0 : Found W (upd H l (.lst (ins.map V.str))) l ins := ⟨upd_same, G.ind, G.i⟩
  have g0 := same_new nl (.lst (ins.map V.str))
  refine ⟨_, rfl, p, _, dx, _, _, rfl, g0 _ _ h0, T.cl_Program, T.n_body, pF_body _ _ _ _, Nat.zero_le _, fun tp np => ?_⟩
  have g1 := g0.trans (same_new np (.tup []))
  have F1 := F0.same (same_new np (.tup []))
  refine ⟨[l], a4, tp, rs, [], W, fs, rfl, (fun b hb => by rw [List.mem_singleton.mp hb]; exact ⟨_, F1.at_⟩), by have := hid_cons (M := []) nl g1; rw [hid_nil] at this; exact dp_same this h4, G.ok, G.ht, Nat.le_trans G.sz (by decide), SqT.of upd_same, (by show 0 + 2 * htL rs ≤ 1000; have := G.ht; omega), fun pp xs H1 g2 npp hpp dpp => ?_⟩
  have g3 := g1.trans g2
  have F2 := F1.same g2
  have nlp : l ≠ pp := ne_of_none (F1.at_) npp
  have ipp : pp ∉ [l] := by simp [Ne.symm nlp]
  refine ⟨pp, rfl, ⟨_, SqL.of hpp⟩, for_list (K := K) (a := pp) (xs := xs) (fun i σ H' => (∃ v2 v3 v4, σ = [some (.ref p), some (.ref l), v2, v3, v4]) ∧ Same H H' ∧ Kept [l] H1 H' ∧ ∃ zs, Found W H' l zs)
    ⟨⟨_, _, _, rfl⟩, g3, Kept.refl _ _, _, F2⟩ (fun i σ H' _ z => SqL.of (z.2.2.1 _ _ hpp (by simp [Ne.symm nlp]))) ?_ ?_⟩
  · rintro i y σ H2 hx ⟨⟨v2, v3, v4, rfl⟩, g, kp, zs, FF⟩
    obtain ⟨qq, t, pl, v, hq, rfl, ht, hpl, hv⟩ := pl_at dpp hx
    have okq := plL_ok _ _ G.ok qq (List.mem_of_getElem? hq)
    have up : Same (hid [pp, l] H1) H2 := fun b o e => by
      have hb : b ∉ [pp, l] := fun hm => by rw [hid_in hm] at e; cases e
      exact kp b o (hid_le _ _ b o e) (fun hm => hb (by rw [List.mem_singleton.mp hm]; simp))
    refine ⟨t, _, rfl, sqT_same up ht, rfl, _, _, rfl, _, _, rfl, rfl, ?_⟩
    obtain ⟨t2, sh, ys, rfl, R⟩ := row_at (dp_same up hv) okq
    refine ⟨_, rfl, t2, _, sh, ys, W, fs, rfl, R, fun pz zs1 H3 g4 nz hz hzW hz4 => ?_⟩
    have FF3 := FF.same g4
    have nzl : pz ≠ l := fun e => by rw [e, FF.at_] at nz; cases nz
    refine ⟨pz, rfl, ⟨_, SqL.of hz⟩, for_list (K := K) (a := pz) (xs := zs1.map V.str) (fun j σ H' => (∃ v4, σ = [some (.ref p), some (.ref l), some (.ref pl), some (.ref t2), v4]) ∧ Kept [l] H3 H' ∧ ∃ zs, Found W H' l zs)
      ⟨⟨_, rfl⟩, Kept.refl _ _, _, FF3⟩ (fun j σ H' _ z => SqL.of (z.2.1 _ _ hz (by simp [nzl]))) ?_ ?_⟩
    · rintro j y σ H4 hy ⟨⟨v4, rfl⟩, kp4, zs4, F4⟩
      obtain ⟨z, hz0, rfl⟩ := map_get hy
      have zW := hzW z (List.mem_of_getElem? hz0)
      refine ⟨_, rfl, _, rfl, l, _, rfl, .inl (SqL.of F4.at_), rfl, flat_strs _, _, rfl, ?_⟩
      show if (!inV (.str z) (zs4.map V.str)) = true then _ else _
      rw [inV_str]
      by_cases hm : z ∈ zs4
      · rw [decide_eq_true hm]
        exact iteF ⟨⟨_, rfl⟩, kp4, _, F4⟩
      · rw [decide_eq_false hm]
        refine iteT ⟨_, rfl, .inl ⟨rfl, _, SqL.of F4.at_⟩, _, rfl, l, _, _, rfl, rfl, F4.at_, ?_, ⟨_, rfl⟩, kp4.trans (Kept.upd (List.mem_singleton.mpr rfl)), _, F4.add zW hm⟩
        rw [List.length_map]
        exact small1000 (Nat.le_trans (F4.few G.wl) (by decide))
    · rintro σ H4 ⟨⟨v4, rfl⟩, kp4, zs4, F4⟩
      refine ⟨⟨_, _, _, rfl⟩, fun b o e => kp4 b o (g4 b o (g b o e)) (fun hm => by rw [List.mem_singleton.mp hm, nl] at e; cases e), kp.trans ((Kept.of g4).trans kp4), _, F4⟩
  · rintro σ H2 ⟨⟨v2, v3, v4, rfl⟩, g, kp, zs, FF⟩
    refine ⟨_, rfl, p, _, dx, _, _, rfl, g _ _ h0, T.cl_Program, T.n_outputs, pF_outputs _ _ _ _, ?_⟩
    refine ⟨a3, rfl, ⟨_, sqT_same g h3⟩, for_tup (K := K) (a := a3) (xs := outs.map V.str) (fun j σ H' => (∃ v2 v3 v4, σ = [some (.ref p), some (.ref l), v2, v3, v4]) ∧ Same H H' ∧ ∃ zs, Found W H' l zs)
      ⟨⟨_, _, _, rfl⟩, g, _, FF⟩ (fun j σ H' _ z => sqT_same z.2.1 h3) ?_ ?_⟩
    · rintro j y σ H4 hy ⟨⟨v2, v3, v4, rfl⟩, g4, zs4, F4⟩
      obtain ⟨z, hz0, rfl⟩ := map_get hy
      have zW := G.o z (List.mem_of_getElem? hz0)
      refine ⟨_, rfl, _, rfl, l, _, rfl, .inl (SqL.of F4.at_), rfl, flat_strs _, _, rfl, ?_⟩
      show if (!inV (.str z) (zs4.map V.str)) = true then _ else _
      rw [inV_str]
      by_cases hm : z ∈ zs4
      · rw [decide_eq_true hm]
        exact iteF ⟨⟨_, _, _, rfl⟩, g4, _, F4⟩
      · rw [decide_eq_false hm]
        refine iteT ⟨_, rfl, .inl ⟨rfl, _, SqL.of F4.at_⟩, _, rfl, l, _, _, rfl, rfl, F4.at_, ?_, ⟨_, _, _, rfl⟩, same_upd g4 nl _, _, F4.add zW hm⟩
        rw [List.length_map]
        exact small1000 (Nat.le_trans (F4.few G.wl) (by decide))
    · rintro σ H4 ⟨⟨v2, v3, v4, rfl⟩, g4, zs4, F4⟩
      exact ⟨_, rfl, q l _ H4 g4 (SqL.of F4.at_) (by rw [List.length_map]; exact F4.few G.wl)⟩
/-! check_counts -/
def sp_check_counts (K : PySem.W.Frag) : Sp := fun vs H Q _ => ∃ (p : Addr) (W ins fs outs : List Str) (rs : List Row), vs = [.ref p] ∧ ProgAt K H H p ins fs outs rs ∧ Prg W ins fs outs rs ∧ ∀ H', Same H H' → Q .non H'
theorem sc_check_counts : FnScope ["self"] ["self"] (defScope s_P_check_counts) := ⟨rfl, rfl, rfl, by decide +kernel, rfl, by decide +kernel, by decide +kernel⟩
theorem m_check_counts (T : Txt w K mg) : Mal P w K mg base "Program" "check_counts" 8 ["self"] (sp_check_counts K) := by
  refine T.d_P_check_counts.cal sc_check_counts (fun _ _ _ _ _ _ us hl => match us, hl with | [_], _ => rfl) (fun vs H Q E h => by obtain ⟨p, W, ins, fs, outs, rs, rfl, _⟩ := h; rfl) (fun f cdv A outer s H vs Q E hr h => ?_)
  obtain ⟨p, W, ins, fs, outs, rs, rfl, hp, G, q⟩ := h
  obtain ⟨f1, fd1, F1, m1, b1⟩ := (m_places (P := P) (base := base) T).ex
  obtain ⟨f2, fd2, F2, m2, b2⟩ := (m_variables (P := P) (base := base) T).ex
  obtain ⟨f3, fd3, F3, m3, b3⟩ := (m_copies (P := P) (base := base) T).ex
  obtain ⟨f4, fd4, F4, m4, b4⟩ := (m_readers (P := P) (base := base) T).ex
  have hr6 : Room 6 _ := hr.mono (by decide)
  refine ⟨_, pss_cons (ps_if (PW.pt (pw_or (pt_cmpR op_gt (pe_callB call_len_seq (by rfl) T.b_len PySem.boot_len (pa_cons (pe_meth0 (pv 0) T.cl_Program m1 F1 hr6 b1 .nil pass0) pa_nil)) (pe_gI T.c_MOST_ROWS) (nomark _))
      (pw_or1 (pt_cmpR op_gt (pe_callB call_len_seq (by rfl) T.b_len PySem.boot_len (pa_cons (pe_meth0 (pv 0) T.cl_Program m2 F2 hr6 b2 .nil pass0) pa_nil)) (pe_gI T.c_MOST_VARIABLES) (nomark _))))) (pss_one ps_never) pss_nil)
    (pss_one (ps_if (PW.pt (pw_or (pt_cmpR op_gt (pe_callB call_len_seq (by rfl) T.b_len PySem.boot_len (pa_cons (pe_meth0 (pv 0) T.cl_Program m3 F3 hr b3 .nil pass0) pa_nil)) (pe_gI T.c_MOST_COPIES) (nomark _))
      (pw_or1 (pt_cmpR op_gt (pe_callB call_len_seq (by rfl) T.b_len PySem.boot_len (pa_cons (pe_meth0 (pv 0) T.cl_Program m4 F4 hr6 b4 .nil pass0) pa_nil)) (pe_gI T.c_MOST_READERS) (nomark _))))) (pss_one ps_never) pss_nil)), ?_⟩
  have pa : ∀ H', Same H H' → ∃ dx fs', H' p = some (.ins (cP K) dx fs') ∧ fs'.lookup ("places" : Str) = none ∧ fs'.lookup ("variables" : Str) = none ∧ fs'.lookup ("copies" : Str) = none ∧ fs'.lookup ("readers" : Str) = none := fun H' g => by
    obtain ⟨dx, a1, a2, a3, a4, h0, _⟩ := hp.ex
    exact ⟨dx, _, g _ _ h0, pF_m2 _ _ _ _, pF_m4 _ _ _ _, pF_m5 _ _ _ _, pF_m6 _ _ _ _⟩
  obtain ⟨dx, fs', e0, e1, _⟩ := pa H (Same.refl _)
  refine ⟨_, rfl, p, dx, fs', rfl, e0, e1, p, W, ins, fs, outs, rs, rfl, hp, G, fun l1 x1 H1 g1 hl1 d1 => ?_⟩
  refine ⟨l1, x1, rfl, .inl hl1, _, _, rfl, rfl, _, rfl, ?_⟩
  rw [decide_eq_false (by rw [dA_len d1, plcD_len]; have := G.sz; omega)]
  obtain ⟨dx, fs', e0, _, e1, _⟩ := pa H1 g1
  refine iteF ⟨_, rfl, p, dx, fs', rfl, e0, e1, p, W, ins, fs, outs, rs, rfl, hp.same g1 g1, G, fun l2 x2 H2 g2 hl2 d2 => ?_⟩
  refine ⟨l2, x2, rfl, .inl hl2, _, _, rfl, rfl, _, rfl, ?_⟩
  rw [decide_eq_false (by omega)]
  have g3 := g1.trans g2
  obtain ⟨dx, fs', e0, _, _, e1, _⟩ := pa H2 g3
  refine iteF ⟨_, rfl, p, dx, fs', rfl, e0, e1, p, W, ins, fs, outs, rs, rfl, hp.same g3 g3, G, fun l4 x4 H4 g4 hl4 d4 => ?_⟩
  refine ⟨l4, x4, rfl, .inl hl4, _, _, rfl, rfl, _, rfl, ?_⟩
  rw [decide_eq_false (by rw [d4]; have := G.cp; omega)]
  have g5 := g3.trans g4
  obtain ⟨dx, fs', e0, _, _, _, e1⟩ := pa H4 g5
  refine iteF ⟨_, rfl, p, dx, fs', rfl, e0, e1, p, W, ins, fs, outs, rs, rfl, hp.same g5 g5, G, fun l6 x6 H6 g6 hl6 d6 => ?_⟩
  refine ⟨l6, x6, rfl, .inl hl6, _, _, rfl, rfl, _, rfl, ?_⟩
  rw [decide_eq_false (by rw [d6]; have := G.rd; omega)]
  exact iteF (q H6 (g5.trans g6))
end
end Tw

set_option Elab.async false
set_option maxRecDepth 100000
set_option maxHeartbeats 4000000
/-! C8d: __init__, __eq__. -/
namespace Tw
open PySem PySem.Spec L2 PyProof.Rows
theorem keeps_ins {K : PySem.W.Frag} {G : Hp} {p C dx : Addr} {fs : List (Str × V)} (e : G p = some (.ins C dx fs)) (o : HO) : Keeps K G (upd G p o) := by
  have k : ∀ a u, G a = some u → (∀ C dx fs, u ≠ .ins C dx fs) → upd G p o a = some u := fun a u h n => by
    rw [upd_ne fun z => by rw [z, e] at h; exact n _ _ _ (Option.some.inj h).symm]
    exact h
  refine ⟨fun a xs h => ?_, fun a xs h => ?_⟩
  · rcases h with (h | ⟨o', h⟩) | h
    · exact .inl (.inl (k _ _ h (fun _ _ _ z => by cases z)))
    · exact .inl (.inr ⟨o', k _ _ h (fun _ _ _ z => by cases z)⟩)
    · exact .inr h
  · rcases h with (h | ⟨o', h⟩) | h
    · exact .inl (.inl (k _ _ h (fun _ _ _ z => by cases z)))
    · exact .inl (.inr ⟨o', k _ _ h (fun _ _ _ z => by cases z)⟩)
    · exact .inr h
theorem isW_ok {x : Str} (h : isW x) : PyData.strOk x = true := by
  show x.cps.all _ = true
  rw [Array.all_eq_true_iff_forall_mem]
  intro c hc
  have := (h.2.2 c (by simpa using hc)).2
  exact decide_eq_true (by omega)
theorem lay_strs : ∀ {xs : List Str}, (∀ x ∈ xs, PyData.strOk x = true) → PyData.canLayAll0 (xs.map PyData.str) = true
  | [], _ => rfl
  | x :: xs, h => by
    rw [List.map_cons, PyData.canLayAll0, PyData.canLay0, h x (List.mem_cons_self ..), lay_strs fun y hy => h y (List.mem_cons_of_mem _ hy)] <;> rfl
theorem dep_strs : ∀ xs : List Str, PyData.depthAll (xs.map PyData.str) = 0
  | [] => rfl
  | x :: xs => by rw [List.map_cons, PyData.depthAll, dep_strs xs] <;> rfl
theorem shaped_strs {xs : List Str} (h : ∀ x ∈ xs, isW x) : SeqAt.shaped (.tuple (xs.map PyData.str)) = true := by
  have h1 := lay_strs fun x hx => isW_ok (h x hx)
  unfold SeqAt.shaped
  rw [PyData.canLay0, h1, PyData.depth, dep_strs] <;> rfl
theorem eqv_strs {xs : List Str} (h : ∀ x ∈ xs, isW x) : PyData.eqv (.tuple (xs.map PyData.str)) (.tuple (xs.map PyData.str)) = true :=
  SeqAt.eqv_refl _ (by rw [PyData.canLay0]; exact lay_strs fun x hx => isW_ok (h x hx))
/-! rows have a shape -/
theorem canLay_app : ∀ {a b : List PyData}, PyData.canLayAll0 a = true → PyData.canLayAll0 b = true → PyData.canLayAll0 (a ++ b) = true
  | [], _, _, h => h
  | x :: a, b, h, h' => by
    rw [PyData.canLayAll0, Bool.and_eq_true] at h
    rw [List.cons_append, PyData.canLayAll0, h.1, canLay_app h.2 h'] <;> rfl
theorem dep_app : ∀ a b : List PyData, PyData.depthAll (a ++ b) = max (PyData.depthAll a) (PyData.depthAll b)
  | [], b => by rw [List.nil_append, PyData.depthAll, Nat.zero_max]
  | x :: a, b => by rw [List.cons_append, PyData.depthAll, PyData.depthAll, dep_app a b, Nat.max_assoc]
theorem good_ok {W F : List Str} (hW : ∀ x ∈ W, isW x) (hF : ∀ x ∈ F, isW x) {c : Nat} {a : Atom} (h : Good W F c a) : PyData.canLay0 a.d = true := by
  cases h with
  | v h => exact isW_ok (hW _ h)
  | r h => exact isW_ok h
  | f h => exact isW_ok (hF _ h)
  | k h => rcases h with rfl | rfl <;> decide +kernel
  | d h => rfl
theorem fits_ok {W F : List Str} (hW : ∀ x ∈ W, isW x) (hF : ∀ x ∈ F, isW x) {cs : List Nat} {as : List Atom} (h : Fits W F cs as) : PyData.canLayAll0 (as.map Atom.d) = true ∧ PyData.depthAll (as.map Atom.d) = 0 := by
  induction h with
  | nil => exact ⟨rfl, rfl⟩
  | @cons c a cs as g _ ih =>
    refine ⟨by rw [List.map_cons, PyData.canLayAll0, good_ok hW hF g, ih.1] <;> rfl, ?_⟩
    rw [List.map_cons, PyData.depthAll, ih.2]
    cases a <;> rfl
theorem leaf_words : ∀ q ∈ leafL, PyData.strOk q.1 = true := by decide +kernel
theorem node_words : ∀ q ∈ nodeL, PyData.strOk q.1 = true := by decide +kernel
mutual
theorem layR {W F : List Str} (hW : ∀ x ∈ W, isW x) (hF : ∀ x ∈ F, isW x) : ∀ r : Row, okR W F r → PyData.canLay0 (dR r) = true ∧ PyData.depth (dR r) ≤ 2 * htR r + 1
  | .leaf w ps, ok => by
    rw [okR] at ok
    obtain ⟨sh, h1, h2⟩ := ok
    obtain ⟨h3, h4⟩ := fits_ok hW hF h2
    have hw : PyData.strOk w = true := leaf_words _ h1
    rw [dR, PyData.canLay0, PyData.canLayAll0, h3, PyData.canLay0, hw, PyData.depth, PyData.depthAll, h4]
    exact ⟨rfl, by show max 0 0 + 1 ≤ _; rw [Nat.max_self]; omega⟩
  | .node w vs a b, ok => by
    rw [okR] at ok
    obtain ⟨h1, h2, h3, h4⟩ := ok
    have ea := layL hW hF a h3
    have eb := layL hW hF b h4
    have e1 : PyData.canLayAll0 (vs.map PyData.str ++ [.list (dL a), .list (dL b)]) = true := canLay_app (lay_strs fun x hx => isW_ok (hW x (h2 x hx))) (by rw [PyData.canLayAll0, PyData.canLayAll0, PyData.canLayAll0, PyData.canLay0, PyData.canLay0, ea.1, eb.1] <;> rfl)
    have e2 : PyData.depthAll [.list (dL a), .list (dL b)] ≤ 2 * max (htL a) (htL b) := by
      rw [PyData.depthAll, PyData.depthAll, PyData.depthAll, PyData.depth, PyData.depth]
      have := ea.2
      have := eb.2
      omega
    have hw : PyData.strOk w = true := node_words _ h1
    rw [dR, PyData.canLay0, PyData.canLayAll0, e1, PyData.canLay0, hw, PyData.depth, PyData.depthAll, dep_app, dep_strs, htR]
    refine ⟨rfl, ?_⟩
    show max 0 (max 0 _) + 1 ≤ _
    omega
theorem layL {W F : List Str} (hW : ∀ x ∈ W, isW x) (hF : ∀ x ∈ F, isW x) : ∀ l : List Row, okL W F l → PyData.canLayAll0 (dL l) = true ∧ PyData.depthAll (dL l) + 1 ≤ 2 * htL l
  | [], _ => by rw [dL, PyData.canLayAll0, PyData.depthAll, htL]; exact ⟨rfl, by decide⟩
  | r :: rs, ok => by
    rw [okL] at ok
    have e1 := layR hW hF r ok.1
    have e2 := layL hW hF rs ok.2
    rw [dL, PyData.canLayAll0, e1.1, e2.1, PyData.depthAll, htL]
    refine ⟨rfl, ?_⟩
    have := e1.2
    have := e2.2
    omega
end
theorem shaped_rows {W F : List Str} (hW : ∀ x ∈ W, isW x) (hF : ∀ x ∈ F, isW x) {l : List Row} (ok : okL W F l) (h : htL l ≤ 4) : SeqAt.shaped (.list (dL l)) = true := by
  obtain ⟨h1, h2⟩ := layL hW hF l ok
  unfold SeqAt.shaped
  rw [PyData.canLay0, h1, PyData.depth, decide_eq_true (by omega)] <;> rfl
theorem eqv_rows {W F : List Str} (hW : ∀ x ∈ W, isW x) (hF : ∀ x ∈ F, isW x) {l : List Row} (ok : okL W F l) : PyData.eqv (.list (dL l)) (.list (dL l)) = true :=
  SeqAt.eqv_refl _ (by rw [PyData.canLay0]; exact (layL hW hF l ok).1)
theorem dp_strs {K : PySem.W.Frag} {H : Hp} {a : Addr} {xs : List Str} (h : SqT K H a (xs.map V.str)) : Dp K H (.ref a) (.tuple (xs.map PyData.str)) := .tup h (dpAll_strs xs)
section
variable {P : Program} {w : World} {K : PySem.W.Frag} {mg : Str → Option Value} {base : Heap}
def sp_init (K : PySem.W.Frag) : Sp := fun vs H Q _ => ∃ (p dx ia fa ra oa : Addr) (W ins fs outs : List Str) (rs : List Row), vs = [.ref p, .ref ia, .ref fa, .ref ra, .ref oa] ∧ H p = some (.ins (cP K) dx []) ∧
  SqL K H ia (ins.map V.str) ∧ SqL K H fa (fs.map V.str) ∧ SqL K H oa (outs.map V.str) ∧ Dp K H (.ref ra) (.list (dL rs)) ∧ Prg W ins fs outs rs ∧
  ∀ H', Kept [p] H H' → ProgAt K H' H' p ins fs outs rs → Q .non H'
theorem sc_init : FnScope ["self", "inputs", "fields", "rows", "outputs"] ["self", "inputs", "fields", "rows", "outputs"] (defScope s_P_init__) := ⟨rfl, rfl, rfl, by decide +kernel, rfl, by decide +kernel, by decide +kernel⟩
structure Ini (P : Program) (w : World) (K : PySem.W.Frag) (mg : Str → Option Value) (base : Heap) : Prop where
  ex : ∃ f fd, FnOk P w K mg base CX0 9 f fd ["self", "inputs", "fields", "rows", "outputs"] (sp_init K) ∧ Meth K (cP K) "__init__" f ∧ f = He.ma K (cP K) "__init__" ∧ KBn K fd ["self", "inputs", "fields", "rows", "outputs"] 4 ["outputs"] (fun us ws => us ++ ws) (fun us ws => us ++ ws)
theorem keptp {p : Addr} {H H' : Hp} {o : HO} (k : Kept [p] H H') : Kept [p] H (upd H' p o) := k.trans (Kept.upd (List.mem_singleton.mpr rfl))
theorem m_init (T : Txt w K mg) : Ini P w K mg base := by
  obtain ⟨f, fd, F, M⟩ := T.d_P_init__.ex
  obtain ⟨oc, od, kV, doc, pm, an, cdv, ct, osl, rfl, lk, hcd⟩ := id F.ex
  refine ⟨f, _, F.ok sc_init (fun vs H Q E h => by obtain ⟨p, dx, ia, fa, ra, oa, W, ins, fs, outs, rs, rfl, _⟩ := h; rfl) (fun cdv A outer s H vs Q E hr h => ?_), M, (by unfold He.ma; rw [M.at_]), ⟨fun s us ws X l1 l2 => .of_eq ?_, fun r1 r2 => r1.append r2⟩⟩
  · obtain ⟨p, dx, ia, fa, ra, oa, W, ins, fs, outs, rs, rfl, hp, hi, hf, ho, hd, G, q⟩ := h
    have nd := sc_init.nd
    have hr2 : Room 2 _ := hr.mono (by decide)
    have hr5 : Room 5 _ := hr.mono (by decide)
    obtain ⟨f1, fd1, F1, m1, b1⟩ := (m_check_counts (P := P) (base := base) T).ex
    have isL : ∀ {X : Cx} {i : Nat} {x : Str} {p1 p2 p3 p4 p5 : Pos}, True := trivial
    refine ⟨_, pss_cons (ps_if (pt_not (pt_val (pe_c (c_is_word_list T) hr2 (pa_cons (pv 1) (pa_cons pe_int (pa_cons pe_int pa_nil)))))) (pss_one ps_never) pss_nil)
      (pss_cons (ps_if (pt_not (pt_val (pe_c (c_is_word_list T) hr2 (pa_cons (pv 2) (pa_cons pe_int (pa_cons pe_int pa_nil)))))) (pss_one ps_never) pss_nil)
      (pss_cons (ps_if (pt_not (pt_val (pe_c (c_is_word_list T) hr2 (pa_cons (pv 4) (pa_cons pe_int (pa_cons pe_int pa_nil)))))) (pss_one ps_never) pss_nil)
      (pss_cons (ps_if (pt_not (pt_val (pe_isi (pv 3) T.b_isinstance T.b_list boot_list))) (pss_one ps_never) pss_nil)
      (pss_cons (ps_expr (pe_c (c_checked_readers T 4) hr (pa_cons (pv 3) (pa_cons (pe_tup pa_nil) (pa_cons (pv 2) (pa_cons (pe_lst pa_nil) pa_nil))))))
      (pss_cons (ps_fld (pv 0) (pe_callTy call_tuple_of (by rfl) T.b_tuple boot_tuple (pa_cons (pv 1) pa_nil)) rfl)
      (pss_cons (ps_fld (pv 0) (pe_callTy call_tuple_of (by rfl) T.b_tuple boot_tuple (pa_cons (pv 2) pa_nil)) rfl)
      (pss_cons (ps_fld (pv 0) (pe_callTy call_tuple_of (by rfl) T.b_tuple boot_tuple (pa_cons (pv 4) pa_nil)) rfl)
      (pss_cons (ps_fld (pv 0) (pe_c (c_copied_rows T 4) hr5 (pa_cons (pv 3) pa_nil)) rfl)
      (pss_one (ps_expr (pe_meth0 (pv 0) T.cl_Program m1 F1 hr b1 .nil pass0))))))))))), ?_⟩
    refine ⟨_, rfl, ia, ins, 1, 3, rfl, hi, by have := G.i1; omega, by have := G.i3; omega, by have := G.i3; omega, fun x hx => G.w x (G.i x hx), G.ind, fun H1 g1 => ⟨true, rfl, iteF ?_⟩⟩
    refine ⟨_, rfl, fa, fs, 1, 2, rfl, sqL_same g1 hf, by have := G.f1; omega, by have := G.f2; omega, by have := G.f2; omega, G.f, G.fnd, fun H2 g2 => ⟨true, rfl, iteF ?_⟩⟩
    refine ⟨_, rfl, oa, outs, 0, 3, rfl, sqL_same (g1.trans g2) ho, by omega, by have := G.o3; omega, by have := G.o3; omega, fun x hx => G.w x (G.o x hx), G.ond, fun H3 g3 => ⟨true, rfl, iteF ?_⟩⟩
    have g4 := (g1.trans g2).trans g3
    obtain ⟨rx, hrx, drx⟩ : ∃ xs, SqL K H ra xs ∧ DpAll K H xs (dL rs) := by
      cases hd with
      | lst a b => exact ⟨_, a, b⟩
    refine ⟨_, rfl, _, _, .type "list", .type "list", true, rfl, .ty _, ty_list (sqL_same g4 hrx), kit_ty (by decide +kernel), true, rfl, iteF ?_⟩
    refine ⟨_, rfl, Nat.zero_le _, fun t1 n1 => ⟨_, rfl, Nat.zero_le _, fun l1 m1 => ?_⟩⟩
    have g5 := g4.trans (same_new n1 (.tup []))
    have g6 := g5.trans (same_new m1 (.lst []))
    refine ⟨ra, t1, fa, l1, rs, [], W, fs, [], rfl, dp_same g6 hd, G.ok, G.ht, SqT.of (same_new m1 _ _ _ upd_same), by have := G.ht; show 0 + _ ≤ _; omega, sqL_same g6 hf, SqL.of upd_same, by rw [List.nil_append]; exact G.rdn, by rw [List.nil_append]; have := G.rd; omega, G.w, fun a9 H4 g7 _ => ?_⟩
    have g8 := g6.trans g7
    have n8 : ∀ {H' : Hp} {a : Addr}, Kept [p] H H' → (∃ o, H' p = some o) → H' a = none → H a = none := fun k hp' h => k.free h (fun hm => by
      obtain ⟨o, e⟩ := hp'
      rw [List.mem_singleton.mp hm, e] at h
      cases h)
    have np : ∀ {xs : List V} {H' : Hp} {a : Addr}, Kept [p] H H' → SqL K H a xs → SqL K H' a xs := fun k h => by
      rcases h with (h | ⟨o, h⟩) | h
      · exact .inl (.inl (k _ _ h fun hm => by rw [List.mem_singleton.mp hm, hp] at h; cases h))
      · exact .inl (.inr ⟨o, k _ _ h fun hm => by rw [List.mem_singleton.mp hm, hp] at h; cases h⟩)
      · exact .inr h
    have k8 : Kept [p] H H4 := Kept.of g8
    refine ⟨_, rfl, ia, _, rfl, .inl ⟨np k8 hi, fun a1 na1 => ⟨_, rfl, p, _, dx, _, rfl, same_new na1 _ _ _ (g8 _ _ hp), T.cl_Program, T.n_inputs, by decide, ?_⟩⟩⟩
    have k9 : Kept [p] H (upd (upd H4 a1 (.tup (ins.map V.str))) p (.ins (cP K) dx (putF "inputs" (.ref a1) []))) := keptp (k8.trans (Kept.of (same_new na1 _)))
    have a1p : a1 ≠ p := fun e => by rw [e, g8 _ _ hp] at na1; cases na1
    have e1 : ∀ o, upd (upd H4 a1 (.tup (ins.map V.str))) p o a1 = some (.tup (ins.map V.str)) := fun o => by rw [upd_ne a1p, upd_same]
    have s1 := e1 (.ins (cP K) dx (putF "inputs" (.ref a1) []))
    have sp1 : (upd (upd H4 a1 (.tup (ins.map V.str))) p (.ins (cP K) dx (putF "inputs" (.ref a1) []))) p = some (.ins (cP K) dx (putF "inputs" (.ref a1) [])) := upd_same
    revert k9 s1 sp1
    generalize upd (upd H4 a1 (.tup (ins.map V.str))) p (.ins (cP K) dx (putF "inputs" (.ref a1) [])) = J1
    intro k9 s1 sp1
    refine ⟨_, rfl, fa, _, rfl, .inl ⟨np k9 hf, fun a2 na2 => ⟨_, rfl, p, _, dx, _, rfl, same_new na2 _ _ _ sp1, T.cl_Program, T.n_fields, by show 1 < 1000; decide, ?_⟩⟩⟩
    have a2p : a2 ≠ p := fun e => by rw [e, sp1] at na2; cases na2
    have k10 : Kept [p] J1 (upd (upd J1 a2 (.tup (fs.map V.str))) p (.ins (cP K) dx (putF "fields" (.ref a2) (putF "inputs" (.ref a1) [])))) := keptp (Kept.of (same_new na2 _))
    have s2 : (upd (upd J1 a2 (.tup (fs.map V.str))) p (.ins (cP K) dx (putF "fields" (.ref a2) (putF "inputs" (.ref a1) [])))) a2 = some (.tup (fs.map V.str)) := by rw [upd_ne a2p, upd_same]
    have sp2 : (upd (upd J1 a2 (.tup (fs.map V.str))) p (.ins (cP K) dx (putF "fields" (.ref a2) (putF "inputs" (.ref a1) [])))) p = some (.ins (cP K) dx (putF "fields" (.ref a2) (putF "inputs" (.ref a1) []))) := upd_same
    revert k10 s2 sp2
    generalize upd (upd J1 a2 (.tup (fs.map V.str))) p (.ins (cP K) dx (putF "fields" (.ref a2) (putF "inputs" (.ref a1) []))) = J2
    intro k10 s2 sp2
    refine ⟨_, rfl, oa, _, rfl, .inl ⟨np (k9.trans k10) ho, fun a3 na3 => ⟨_, rfl, p, _, dx, _, rfl, same_new na3 _ _ _ sp2, T.cl_Program, T.n_outputs, by show 2 < 1000; decide, ?_⟩⟩⟩
    have a3p : a3 ≠ p := fun e => by rw [e, sp2] at na3; cases na3
    have k11 : Kept [p] J2 (upd (upd J2 a3 (.tup (outs.map V.str))) p (.ins (cP K) dx (putF "outputs" (.ref a3) (putF "fields" (.ref a2) (putF "inputs" (.ref a1) []))))) := keptp (Kept.of (same_new na3 _))
    have s3 : (upd (upd J2 a3 (.tup (outs.map V.str))) p (.ins (cP K) dx (putF "outputs" (.ref a3) (putF "fields" (.ref a2) (putF "inputs" (.ref a1) []))))) a3 = some (.tup (outs.map V.str)) := by rw [upd_ne a3p, upd_same]
    have sp3 : (upd (upd J2 a3 (.tup (outs.map V.str))) p (.ins (cP K) dx (putF "outputs" (.ref a3) (putF "fields" (.ref a2) (putF "inputs" (.ref a1) []))))) p = some (.ins (cP K) dx (putF "outputs" (.ref a3) (putF "fields" (.ref a2) (putF "inputs" (.ref a1) [])))) := upd_same
    revert k11 s3 sp3
    generalize upd (upd J2 a3 (.tup (outs.map V.str))) p (.ins (cP K) dx (putF "outputs" (.ref a3) (putF "fields" (.ref a2) (putF "inputs" (.ref a1) [])))) = J3
    intro k11 s3 sp3
    have k12 := (k9.trans k10).trans k11
    have kk : Keeps K H J3 := ⟨fun a xs h => np k12 h, fun a xs h => by
      rcases h with (h | ⟨o, h⟩) | h
      · exact .inl (.inl (k12 _ _ h fun hm => by rw [List.mem_singleton.mp hm, hp] at h; cases h))
      · exact .inl (.inr ⟨o, k12 _ _ h fun hm => by rw [List.mem_singleton.mp hm, hp] at h; cases h⟩)
      · exact .inr h⟩
    refine ⟨_, rfl, [], ra, rs, W, fs, rfl, (fun b hb => by cases hb), by rw [hid_nil]; exact dp_keeps kk _ _ hd, G.ok, G.ht, Nat.le_trans G.sz (by decide), fun a4 xs H5 g13 na4 h5 d5 => ⟨_, rfl, p, _, dx, _, rfl, g13 _ _ sp3, T.cl_Program, T.n_body, by show 3 < 1000; decide, ?_⟩⟩
    rw [pF_mk]
    have a4p : a4 ≠ p := fun e => by rw [e, sp3] at na4; cases na4
    have k13 : Kept [p] J3 (upd H5 p (.ins (cP K) dx (pF a1 a2 a3 a4))) := keptp (Kept.of g13)
    have d6 : DpAll K (upd H5 p (.ins (cP K) dx (pF a1 a2 a3 a4))) xs (dL rs) := dpAll_keeps (keeps_ins (g13 _ _ sp3) _) _ _ (dpAll_same (hid_le _ _) d5)
    have PA : ProgAt K (upd H5 p (.ins (cP K) dx (pF a1 a2 a3 a4))) (upd H5 p (.ins (cP K) dx (pF a1 a2 a3 a4))) p ins fs outs rs :=
      ⟨dx, a1, a2, a3, a4, upd_same, SqT.of (k13 _ _ (k11 _ _ (k10 _ _ s1 (by simp [a1p])) (by simp [a1p])) (by simp [a1p])), SqT.of (k13 _ _ (k11 _ _ s2 (by simp [a2p])) (by simp [a2p])), SqT.of (k13 _ _ s3 (by simp [a3p])),
        .lst (SqL.of (by rw [upd_ne a4p]; exact h5)) d6⟩
    refine ⟨_, rfl, p, dx, _, rfl, upd_same, pF_m1 _ _ _ _, p, W, ins, fs, outs, rs, rfl, PA, G, fun H6 g14 => ?_⟩
    exact q H6 (k12.trans (k13.trans (Kept.of g14))) (PA.same g14 g14)
  · match us, ws, l1, l2 with
    | [_, _, _, _], [_], _, _ => rfl
/-! == -/
def SameP (K : PySem.W.Frag) (a b : Addr) (H : Hp) : Prop := ∃ (W ins fs outs : List Str) (rs : List Row), ProgAt K H H a ins fs outs rs ∧ ProgAt K H H b ins fs outs rs ∧ Prg W ins fs outs rs
theorem sc_eq : FnScope ["self", "other"] ["self", "other"] (defScope s_P_eq__) := ⟨rfl, rfl, rfl, by decide +kernel, rfl, by decide +kernel, by decide +kernel⟩
theorem m_eq (T : Txt w K mg) : Mal P w K mg base "Program" "__eq__" 1 ["self", "other"] (spEq (SameP K)) := by
  refine T.d_P_eq__.cal sc_eq (fun _ _ _ _ _ _ us hl => match us, hl with | [_, _], _ => rfl) (fun vs H Q E h => by obtain ⟨a, b, rfl, _⟩ := h; rfl) (fun f cdv A outer s H vs Q E hr h => ?_)
  obtain ⟨a, b, rfl, ⟨W, ins, fs, outs, rs, pa, pb, G⟩, q⟩ := h
  obtain ⟨dx, a1, a2, a3, a4, h0, h1, h2, h3, h4⟩ := pa.ex
  obtain ⟨dy, b1, b2, b3, b4, k0, k1, k2, k3, k4⟩ := pb.ex
  have hu : _ + 64 < cLine := hr.units
  refine ⟨_, pss_one (ps_ret (pe_and (pe_callB call_isi (by rfl) T.b_isinstance boot_isinstance (pa_cons (pv 1) (pa_cons (pe_gR T.g_Program) pa_nil)))
    (pe_and (pe_cmpR (op_eqD hu) (pe_fld (pv 0) rfl) (pe_fld (pv 1) rfl) (nomark _)) (pe_and (pe_cmpR (op_eqD hu) (pe_fld (pv 0) rfl) (pe_fld (pv 1) rfl) (nomark _)) (pe_and (pe_cmpR (op_eqD hu) (pe_fld (pv 0) rfl) (pe_fld (pv 1) rfl) (nomark _))
      (pe_one (pe_cmpR (op_eqD hu) (pe_fld (pv 0) rfl) (pe_fld (pv 1) rfl) (nomark _)))))))), ?_⟩
  have wi : ∀ x ∈ ins, isW x := fun x hx => G.w x (G.i x hx)
  have wo : ∀ x ∈ outs, isW x := fun x hx => G.w x (G.o x hx)
  refine ⟨_, rfl, _, _, .ref (cP K), .ref (cP K), true, rfl, .own _, T.isP _ _ _ _ k0, T.isP1, true, rfl, iteT ?_⟩
  refine ⟨_, rfl, a, _, dx, _, _, rfl, h0, T.cl_Program, T.n_inputs, pF_inputs _ _ _ _, _, rfl, b, _, dy, _, _, rfl, k0, T.cl_Program, T.n_inputs, pF_inputs _ _ _ _, _, _, dp_strs h1, dp_strs k1, shaped_strs wi, shaped_strs wi, _, rfl, ?_⟩
  rw [eqv_strs wi]
  refine iteT ?_
  refine ⟨_, rfl, a, _, dx, _, _, rfl, h0, T.cl_Program, T.n_fields, pF_fields _ _ _ _, _, rfl, b, _, dy, _, _, rfl, k0, T.cl_Program, T.n_fields, pF_fields _ _ _ _, _, _, dp_strs h2, dp_strs k2, shaped_strs G.f, shaped_strs G.f, _, rfl, ?_⟩
  rw [eqv_strs G.f]
  refine iteT ?_
  refine ⟨_, rfl, a, _, dx, _, _, rfl, h0, T.cl_Program, T.n_outputs, pF_outputs _ _ _ _, _, rfl, b, _, dy, _, _, rfl, k0, T.cl_Program, T.n_outputs, pF_outputs _ _ _ _, _, _, dp_strs h3, dp_strs k3, shaped_strs wo, shaped_strs wo, _, rfl, ?_⟩
  rw [eqv_strs wo]
  refine iteT ?_
  refine ⟨_, rfl, a, _, dx, _, _, rfl, h0, T.cl_Program, T.n_body, pF_body _ _ _ _, _, rfl, b, _, dy, _, _, rfl, k0, T.cl_Program, T.n_body, pF_body _ _ _ _, _, _, h4, k4, shaped_rows G.w G.f G.ok G.ht, shaped_rows G.w G.f G.ok G.ht, ?_⟩
  rw [eqv_rows G.w G.f G.ok]
  exact q H (fun _ _ h => h)
end
end Tw

set_option Elab.async false
set_option maxRecDepth 100000
set_option maxHeartbeats 4000000
/-! D1: the lines of rows. -/
namespace Tw
open PySem PySem.Spec L2 TL PyProof.Rows
abbrev sp1 : Str := Str.ofString " "
def Atom.t : Atom → Str
  | .s x => x
  | .n k => Str.ofString (toString (k : Int))
def hdR : Row → List Str
  | .leaf w ps => w :: ps.map Atom.t
  | .node w vs _ _ => w :: vs
def txR (r : Row) : Str := Txt.join sp1 (hdR r)
mutual
def lnR (ind : Str) : Row → List Str
  | .leaf w ps => [ind ++ txR (.leaf w ps)]
  | .node w vs a b => (ind ++ txR (.node w vs a b)) :: (lnL (ind ++ Str.ofString "  ") a ++ ((ind ++ Str.ofString "else") :: lnL (ind ++ Str.ofString "  ") b))
def lnL (ind : Str) : List Row → List Str
  | [] => []
  | r :: rs => lnR ind r ++ lnL ind rs
end
theorem lnL_app (ind : Str) : ∀ a b : List Row, lnL ind (a ++ b) = lnL ind a ++ lnL ind b
  | [], b => by rw [lnL, List.nil_append, List.nil_append]
  | r :: a, b => by rw [List.cons_append, lnL, lnL, lnL_app ind a b, List.append_assoc]
theorem lnL_take {rs : List Row} {i : Nat} {r : Row} (ind : Str) (h : rs[i]? = some r) : lnL ind (rs.take (i + 1)) = lnL ind (rs.take i) ++ lnR ind r := by
  rw [take_get h, lnL_app, lnL, lnL, List.append_nil]
/-- a word of a line -/
structure Wd (x : Str) : Prop where
  pos : 1 ≤ x.length
  few : x.length ≤ 8
  big : ∀ c ∈ tl x, 32 < c
theorem isW.wd {x : Str} (h : isW x) : Wd x := ⟨h.1, h.2.1, fun c hc => by have := (h.2.2 c hc).1; omega⟩
theorem isW_of : ∀ {x : Str}, (decide (1 ≤ x.length) && decide (x.length ≤ 8) && x.cps.toList.all fun c => decide (97 ≤ c ∧ c ≤ 122)) = true → isW x := fun {x} h => by
  rw [Bool.and_eq_true, Bool.and_eq_true] at h
  refine ⟨of_decide_eq_true h.1.1, of_decide_eq_true h.1.2, fun c hc => ?_⟩
  exact of_decide_eq_true (List.all_eq_true.mp h.2 c hc)
theorem leafW : ∀ q ∈ leafL, isW q.1 := fun q hq => isW_of ((by decide +kernel : ∀ q ∈ leafL, (decide (1 ≤ q.1.length) && decide (q.1.length ≤ 8) && q.1.cps.toList.all fun c => decide (97 ≤ c ∧ c ≤ 122)) = true) q hq)
theorem nodeW : ∀ q ∈ nodeL, isW q.1 := fun q hq => isW_of ((by decide +kernel : ∀ q ∈ nodeL, (decide (1 ≤ q.1.length) && decide (q.1.length ≤ 8) && q.1.cps.toList.all fun c => decide (97 ≤ c ∧ c ≤ 122)) = true) q hq)
theorem digW : ∀ n, n < 5 → (decide (1 ≤ (Str.ofString (toString ((n : Nat) : Int))).length) && decide ((Str.ofString (toString ((n : Nat) : Int))).length ≤ 8) && (Str.ofString (toString ((n : Nat) : Int))).cps.toList.all fun c => decide (32 < c)) = true := by decide +kernel
theorem dig_wd {n : Nat} (h : n < 5) : Wd (Str.ofString (toString ((n : Nat) : Int))) := by
  have e := digW n h
  rw [Bool.and_eq_true, Bool.and_eq_true] at e
  exact ⟨of_decide_eq_true e.1.1, of_decide_eq_true e.1.2, fun c hc => of_decide_eq_true (List.all_eq_true.mp e.2 c hc)⟩
theorem good_wd {W F : List Str} (hW : ∀ x ∈ W, isW x) (hF : ∀ x ∈ F, isW x) {c : Nat} {a : Atom} (h : Good W F c a) : Wd a.t := by
  cases h with
  | v h => exact (hW _ h).wd
  | r h => exact h.wd
  | f h => exact (hF _ h).wd
  | k h => rcases h with rfl | rfl <;> exact (isW_of (by decide +kernel)).wd
  | d h => exact dig_wd h
theorem fits_wd {W F : List Str} (hW : ∀ x ∈ W, isW x) (hF : ∀ x ∈ F, isW x) {cs : List Nat} {as : List Atom} (h : Fits W F cs as) : ∀ x ∈ as.map Atom.t, Wd x := by
  induction h with
  | nil => intro x hx; cases hx
  | cons g _ ih =>
    intro x hx
    rw [List.map_cons] at hx
    rcases List.mem_cons.mp hx with rfl | hx
    · exact good_wd hW hF g
    · exact ih x hx
theorem leaf_few : ∀ q ∈ leafL, q.2.cps.toList.length ≤ 4 ∧ 1 ≤ q.2.cps.toList.length := by decide +kernel
theorem node_few : ∀ q ∈ nodeL, q.2 ≤ 4 ∧ 1 ≤ q.2 := by decide +kernel
/-- the words of a row's line -/
theorem hdR_ok {W F : List Str} (hW : ∀ x ∈ W, isW x) (hF : ∀ x ∈ F, isW x) {r : Row} (ok : okR W F r) : (∀ x ∈ hdR r, Wd x) ∧ 2 ≤ (hdR r).length ∧ (hdR r).length ≤ 5 := by
  cases r with
  | leaf w ps =>
    rw [okR] at ok
    obtain ⟨sh, h1, h2⟩ := ok
    have h3 := leaf_few _ h1
    have h4 := h2.len
    refine ⟨fun x hx => ?_, ?_, ?_⟩
    · rcases List.mem_cons.mp hx with rfl | hx
      · exact (leafW _ h1).wd
      · exact fits_wd hW hF h2 x hx
    · show 2 ≤ (w :: ps.map Atom.t).length
      rw [List.length_cons, List.length_map, ← h4]
      have : 1 ≤ sh.cps.toList.length := h3.2
      omega
    · show (w :: ps.map Atom.t).length ≤ 5
      rw [List.length_cons, List.length_map, ← h4]
      have : sh.cps.toList.length ≤ 4 := h3.1
      omega
  | node w vs a b =>
    rw [okR] at ok
    have h3 := node_few _ ok.1
    refine ⟨fun x hx => ?_, ?_, ?_⟩
    · rcases List.mem_cons.mp hx with rfl | hx
      · exact (nodeW _ ok.1).wd
      · exact (hW x (ok.2.1 x hx)).wd
    · show 2 ≤ (w :: vs).length
      rw [List.length_cons]
      have : 1 ≤ vs.length := h3.2
      omega
    · show (w :: vs).length ≤ 5
      rw [List.length_cons]
      have : vs.length ≤ 4 := h3.1
      omega
theorem sum_wd : ∀ {xs : List Str}, (∀ x ∈ xs, Wd x) → (xs.map (·.length)).sum ≤ 8 * xs.length
  | [], _ => Nat.le_refl _
  | x :: xs, h => by
    have h1 := sum_wd fun y hy => h y (List.mem_cons_of_mem x hy)
    have h2 := (h x (List.mem_cons_self ..)).few
    rw [List.map_cons, List.sum_cons, List.length_cons]
    omega
theorem len_joinL (S : List Nat) : ∀ xs : List (List Nat), (joinL S xs).length ≤ (xs.map (·.length)).sum + xs.length * S.length
  | [] => Nat.zero_le _
  | [p] => by
    show p.length ≤ p.length + 0 + 1 * S.length
    omega
  | p :: q :: r => by
    have h := len_joinL S (q :: r)
    show (p ++ (S ++ joinL S (q :: r))).length ≤ _
    rw [List.length_append, List.length_append, List.map_cons, List.sum_cons, List.length_cons, Nat.succ_mul]
    omega
theorem tl_txt (y : Str) (parts : List Str) : tl (Txt.join y parts) = joinL (tl y) (parts.map tl) := by rw [join_eq, tl_join]
theorem len_tx {xs : List Str} (h : ∀ x ∈ xs, Wd x) (y : Str) : (Txt.join y xs).length ≤ (8 + y.length) * xs.length := by
  rw [len_tl, tl_txt]
  refine Nat.le_trans (len_joinL _ _) ?_
  have h1 := sum_wd h
  rw [List.map_map, List.length_map, ← len_tl]
  have e : ((xs.map ((fun z : List Nat => z.length) ∘ tl)).sum) = (xs.map (·.length)).sum := by
    congr 1
  have e2 : (8 + y.length) * xs.length = 8 * xs.length + xs.length * y.length := by rw [Nat.add_mul, Nat.mul_comm y.length]
  rw [e, e2]
  omega
theorem mem_joinL {S : List Nat} {c : Nat} : ∀ {xs : List (List Nat)}, c ∈ joinL S xs → c ∈ S ∨ ∃ x ∈ xs, c ∈ x
  | [], h => by cases h
  | [p], h => .inr ⟨p, List.mem_singleton.mpr rfl, h⟩
  | p :: q :: r, h => by
    rcases List.mem_append.mp h with h | h
    · exact .inr ⟨p, List.mem_cons_self .., h⟩
    · rcases List.mem_append.mp h with h | h
      · exact .inl h
      · rcases mem_joinL h with h | ⟨x, hx, h⟩
        · exact .inl h
        · exact .inr ⟨x, List.mem_cons_of_mem _ hx, h⟩
/-- a row's line: not long, no line break, a space in it, does not begin with one -/
structure Ln (x : Str) : Prop where
  len : x.length ≤ 45
  big : ∀ c ∈ tl x, 32 ≤ c
  hd : ∃ c l, tl x = c :: l ∧ 32 < c
  sp : 32 ∈ tl x
theorem ln_of {xs : List Str} (h : ∀ x ∈ xs, Wd x) (h2 : 2 ≤ xs.length) (h5 : xs.length ≤ 5) : Ln (Txt.join sp1 xs) := by
  have es : tl sp1 = [32] := by decide +kernel
  match xs, h2 with
  | x :: y :: r, _ =>
    have e : tl (Txt.join sp1 (x :: y :: r)) = tl x ++ (32 :: joinL [32] ((y :: r).map tl)) := by rw [tl_txt, es] <;> rfl
    refine ⟨?_, fun c hc => ?_, ?_, ?_⟩
    · have := len_tx h sp1
      have e2 : sp1.length = 1 := by decide +kernel
      rw [e2] at this
      omega
    · rw [tl_txt, es] at hc
      rcases mem_joinL hc with hc | ⟨z, hz, hc⟩
      · rw [List.mem_singleton.mp hc]
        exact Nat.le_refl _
      · obtain ⟨z', hz', rfl⟩ := List.mem_map.mp hz
        exact Nat.le_of_lt ((h z' hz').big c hc)
    · have hx := h x (List.mem_cons_self ..)
      have h1 := hx.pos
      rw [len_tl] at h1
      match hl : tl x, h1 with
      | c :: l, _ =>
        refine ⟨c, l ++ (32 :: joinL [32] ((y :: r).map tl)), ?_, hx.big c (by rw [hl]; exact List.mem_cons_self ..)⟩
        rw [e, hl] <;> rfl
    · rw [e]
      exact List.mem_append.mpr (.inr (List.mem_cons_self ..))
theorem ln_row {W F : List Str} (hW : ∀ x ∈ W, isW x) (hF : ∀ x ∈ F, isW x) {r : Row} (ok : okR W F r) : Ln (txR r) := by
  obtain ⟨h1, h2, h3⟩ := hdR_ok hW hF ok
  exact ln_of h1 h2 h3
mutual
theorem lnR_len (ind : Str) : ∀ r : Row, (lnR ind r).length ≤ 2 * szR r
  | .leaf _ _ => by rw [lnR, szR]; exact Nat.le_succ 1
  | .node _ _ a b => by
    rw [lnR, szR, List.length_cons, List.length_append, List.length_cons]
    have h1 := lnL_len (ind ++ Str.ofString "  ") a
    have h2 := lnL_len (ind ++ Str.ofString "  ") b
    omega
theorem lnL_len (ind : Str) : ∀ rs : List Row, (lnL ind rs).length ≤ 2 * szL rs
  | [] => by rw [lnL, szL]; decide
  | r :: rs => by
    rw [lnL, szL, List.length_append]
    have h1 := lnR_len ind r
    have h2 := lnL_len ind rs
    omega
end
theorem len_app (x y : Str) : (x ++ y).length = x.length + y.length := by rw [len_tl, tl_append, List.length_append, ← len_tl, ← len_tl]
/-- no line is long, none has a line break -/
def Lok (n : Nat) (x : Str) : Prop := x.length ≤ n ∧ ∀ c ∈ tl x, 32 ≤ c
theorem Lok.mono {m n : Nat} {x : Str} (h : Lok m x) (e : m ≤ n) : Lok n x := ⟨Nat.le_trans h.1 e, h.2⟩
theorem Lok.app {m n : Nat} {x y : Str} (h : Lok m x) (h' : Lok n y) : Lok (m + n) (x ++ y) := ⟨by rw [len_app]; exact Nat.add_le_add h.1 h'.1, fun c hc => by
  rw [tl_append] at hc
  rcases List.mem_append.mp hc with hc | hc
  · exact h.2 c hc
  · exact h'.2 c hc⟩
theorem lok2 : Lok 2 (Str.ofString "  ") := ⟨by decide +kernel, by decide +kernel⟩
theorem lok4 : Lok 4 (Str.ofString "else") := ⟨by decide +kernel, by decide +kernel⟩
mutual
theorem lnR_ok {W F : List Str} (hW : ∀ x ∈ W, isW x) (hF : ∀ x ∈ F, isW x) {n : Nat} {ind : Str} : ∀ r : Row, okR W F r → Lok n ind → ∀ x ∈ lnR ind r, Lok (n + 45 + 2 * htR r) x
  | .leaf w ps, ok, hi, x, hx => by
    rw [lnR] at hx
    have L := ln_row hW hF ok
    rw [List.mem_singleton.mp hx]
    exact (hi.app ⟨L.len, L.big⟩).mono (by omega)
  | .node w vs a b, ok, hi, x, hx => by
    have L := ln_row hW hF ok
    rw [okR] at ok
    rw [lnR] at hx
    have hi2 := hi.app lok2
    rcases List.mem_cons.mp hx with rfl | hx
    · exact (hi.app ⟨L.len, L.big⟩).mono (by omega)
    · rcases List.mem_append.mp hx with hx | hx
      · refine (lnL_ok hW hF a ok.2.2.1 hi2 x hx).mono ?_
        rw [htR]
        omega
      · rcases List.mem_cons.mp hx with rfl | hx
        · exact (hi.app lok4).mono (by omega)
        · refine (lnL_ok hW hF b ok.2.2.2 hi2 x hx).mono ?_
          rw [htR]
          omega
theorem lnL_ok {W F : List Str} (hW : ∀ x ∈ W, isW x) (hF : ∀ x ∈ F, isW x) {n : Nat} {ind : Str} : ∀ rs : List Row, okL W F rs → Lok n ind → ∀ x ∈ lnL ind rs, Lok (n + 43 + 2 * htL rs) x
  | [], _, _, x, hx => by rw [lnL] at hx; cases hx
  | r :: rs, ok, hi, x, hx => by
    rw [okL] at ok
    rw [lnL] at hx
    rcases List.mem_append.mp hx with hx | hx
    · refine (lnR_ok hW hF r ok.1 hi x hx).mono ?_
      rw [htL]
      omega
    · refine (lnL_ok hW hF rs ok.2 hi x hx).mono ?_
      rw [htL]
      omega
end
end Tw

set_option Elab.async false
set_option maxRecDepth 100000
set_option maxHeartbeats 4000000
/-! D2: row_lines, program_text. -/
namespace Tw
open PySem PySem.Spec L2 TL PyProof.Rows
theorem fits_small {W F : List Str} {cs : List Nat} {as : List Atom} (h : Fits W F cs as) : ∀ a ∈ as, ∀ k, a = .n k → k < 5 := by
  induction h with
  | nil => intro a h; cases h
  | cons g _ ih =>
    intro a h k e
    rcases List.mem_cons.mp h with rfl | h
    · subst e
      cases g
      assumption
    · exact ih a h k e
theorem cutR {R G : Prop} (h : R → G) (r : R) : G := h r
theorem small_log {n : Nat} (h : n < 5) : ((n : Nat) : Int).natAbs.log2 < 1920 := by
  have : ∀ m, m < 5 → ((m : Nat) : Int).natAbs.log2 < 1920 := by decide +kernel
  exact this n h
theorem sum_lok {n : Nat} : ∀ {xs : List Str}, (∀ x ∈ xs, x.length ≤ n) → (xs.map (·.length)).sum ≤ n * xs.length
  | [], _ => Nat.le_refl _
  | x :: xs, h => by
    have h1 := sum_lok fun y hy => h y (List.mem_cons_of_mem x hy)
    have h2 := h x (List.mem_cons_self ..)
    rw [List.map_cons, List.sum_cons, List.length_cons, Nat.mul_succ]
    omega
theorem join_small {xs : List Str} (h : ∀ x ∈ xs, Wd x) (h5 : xs.length ≤ 5) : (xs.map (·.length)).sum + xs.length * sp1.length ≤ 16777216 := by
  have h1 := sum_wd h
  have e : sp1.length = 1 := by decide +kernel
  rw [e]
  omega
section
variable {P : Program} {w : World} {K : PySem.W.Frag} {mg : Str → Option Value} {base : Heap}
def sp_row_lines (K : PySem.W.Frag) (n : Nat) : Sp := fun vs H Q _ => ∃ (t : Addr) (ind : Str) (r : Row) (W F : List Str), vs = [.ref t, .str ind] ∧ Dp K H (.ref t) (dR r) ∧ okR W F r ∧ (∀ x ∈ W, isW x) ∧ (∀ x ∈ F, isW x) ∧ htR r + 1 ≤ n ∧ szR r ≤ 100 ∧ ind.length + 2 * htR r ≤ 900 ∧
  ∀ (l : Addr) (H' : Hp), Same H H' → H l = none → H' l = some (.lst ((lnR ind r).map V.str)) → Q (.ref l) H'
theorem sc_row_lines : FnScope ["row", "indent", "lines", "inner", "part"] ["row", "indent"] (defScope s_row_lines) := ⟨rfl, rfl, rfl, by decide +kernel, rfl, by decide +kernel, by decide +kernel⟩
theorem bd_row_lines : BindOk "row_lines" "row_lines" s_row_lines ["row", "indent"] := fun _ _ _ _ _ _ us hl => match us, hl with | [_, _], _ => rfl
theorem c_row_lines (T : Txt w K mg) : ∀ n : Nat, Cal P w K mg base "row_lines" n ["row", "indent"] (sp_row_lines K n)
  | 0 => T.d_row_lines.cal0 bd_row_lines fun vs H Q E h => by
    obtain ⟨t, ind, r, W, F, _, _, _, _, _, h, _⟩ := h
    omega
  | n + 1 => by
    have rec_ := c_row_lines T n
    refine T.d_row_lines.cal sc_row_lines bd_row_lines (fun vs H Q E h => by obtain ⟨t, ind, r, W, F, rfl, _⟩ := h; rfl) (fun f cdv A outer s H vs Q E hr h => ?_)
    obtain ⟨t, ind, r, W, F, rfl, hd, ok, hW, hF, hht, hsz, hin, q⟩ := h
    have nd := sc_row_lines.nd
    refine ⟨_, C8.pss_cut (ps_if (PW.pt (pw_and (pt_cmpR op_ne (pe_ix (r := rIxT K) ix_tup (pv 0) pe_int (fun _ _ => rfl)) pe_str (nomark _)) (pw_and1 (pt_cmpR op_ne (pe_ix (r := rIxT K) ix_tup (pv 0) pe_int (fun _ _ => rfl)) pe_str (nomark _)))))
        (pss_one (ps_ret (pe_lst (pa_cons (pe_op op_add_str (pv 1) (pe_join pe_str (pe_lc (own := [("part", 4)]) (g := gName 4) (by rfl) nd (pi_tup (pv 0))
          (blkOk_by (own := [("part", 4)]) (N := ["row", "indent", "lines", "inner", "part"]) (sc := defScope s_row_lines) (by decide +kernel))
          (fun _ _ _ _ _ => pg_name (i := 4) nd rfl (Or.inl rfl))
          (fun _ _ _ _ _ => pts_nil) (fun _ _ _ _ _ => pe_callTy (CallR.or SkE.call_str_str L2.call_str_int) (by rfl) T.b_str boot_str (pa_cons (pv 4) pa_nil))))) pa_nil)))) pss_nil)
      (pss_cons (ps_set (i := 2) nd rfl (Or.inl rfl) (pe_lst (pa_cons (pe_op op_add_str (pv 1) (pe_join pe_str (pe_slice sl_tup (pv 0) po_none (po_some (pe_un un_neg pe_int))))) pa_nil)))
      (pss_cons (ps_for PassesOwn.never rfl (pi_list (pe_ix ix_tup (pv 0) (pe_un un_neg pe_int) (fun _ _ => rfl))) (pg_name (i := 3) nd rfl (Or.inl rfl))
        (pss_one (ps_expr (pe_bm PySem.F.plainAttrs_list PySem.F.slot_list_extend PySem.F.type_list_extend mt_extend (pv 2) (pa_cons (pe_c rec_ hr (pa_cons (pv 3) (pa_cons (pe_op op_add_str (pv 1) pe_str) pa_nil))) pa_nil)))))
      (pss_cons (ps_expr (pe_bm PySem.F.plainAttrs_list PySem.F.slot_list_append PySem.F.type_list_append mt_append (pv 2) (pa_cons (pe_op op_add_str (pv 1) pe_str) pa_nil)))
      (pss_cons (ps_for PassesOwn.never rfl (pi_list (pe_ix ix_tup (pv 0) (pe_un un_neg pe_int) (fun _ _ => rfl))) (pg_name (i := 3) nd rfl (Or.inl rfl))
        (pss_one (ps_expr (pe_bm PySem.F.plainAttrs_list PySem.F.slot_list_extend PySem.F.type_list_extend mt_extend (pv 2) (pa_cons (pe_c rec_ hr (pa_cons (pv 3) (pa_cons (pe_op op_add_str (pv 1) pe_str) pa_nil))) pa_nil)))))
      (pss_one (ps_ret (pv 2))))))), ?_⟩
    obtain ⟨t', ys, e, hs⟩ := word_at hd ok
    cases e
    have hln := ln_row hW hF ok
    obtain ⟨hw1, _, hw5⟩ := hdR_ok hW hF ok
    refine ⟨fun σ' H' => (∃ x us a b, r = .node x us a b) ∧ σ' = [some (.ref t), some (.str ind), none, none, none] ∧ H = H', ⟨_, rfl, t, _, 0, _, rfl, rfl, hs, at_0 _ _, rfl, _, rfl, ?_⟩, ?_⟩
    case refine_2 =>
      rintro σ' H' ⟨⟨x, us, a, b, rfl⟩, rfl, rfl⟩
      obtain ⟨t', c1, c2, xa, xb, e, hs', h3, h4, h5, h6⟩ := node_at hd
      cases e
      rw [okR] at ok
      obtain ⟨k1, k2, k3, k4⟩ := ok
      rw [htR] at hht hin
      rw [szR] at hsz
      have hL : (Txt.join (Str.ofString " ") (x :: us)).length ≤ 45 := hln.len
      refine ⟨_, rfl, ⟨_, rfl⟩, _, rfl, 2, rfl, _, rfl, t, _, rfl, hs', init_cut _ (by rw [List.length_cons, List.length_append]; show 2 ≤ _ + 2 + 1; omega), fun tp ntp => ?_⟩
      rw [show V.str x :: (us.map V.str ++ [.ref c1, .ref c2]) = (V.str x :: us.map V.str) ++ [.ref c1, .ref c2] from rfl, cut_init2]
      have g1 := same_new ntp (.tup (V.str x :: us.map V.str))
      have hj : (hdR (.node x us a b)).map V.str = V.str x :: us.map V.str := rfl
      refine ⟨_, tp, hdR (.node x us a b), rfl, rfl, .inr (SqT.of (by rw [hj]; exact upd_same)), join_small hw1 hw5, ind, _, rfl, rfl, small_line (by have : (Txt.join (Str.ofString " ") (hdR (.node x us a b))).length ≤ 45 := hln.len; omega), ?_, fun p np => ?_⟩
      · exact small_line (Nat.le_of_ble_eq_true rfl)
      have g2 := g1.trans (same_new np (.lst [.str (ind ++ txR (.node x us a b))]))
      have np0 := g1.free np
      have la := lnL_len (ind ++ Str.ofString "  ") a
      have lb := lnL_len (ind ++ Str.ofString "  ") b
      have li : (ind ++ Str.ofString "  ").length = ind.length + 2 := by rw [len_app] <;> rfl
      refine ⟨_, rfl, 2, rfl, t, _, _, _, rfl, rfl, sqT_same g2 hs', at_neg2 (V.str x :: us.map V.str) _ _, c1, rfl, ⟨_, sqL_same g2 h3⟩, for_list (K := K) (a := c1) (xs := xa) (fun i σ H' => (∃ v3 v4, σ = [some (.ref t), some (.str ind), some (.ref p), v3, v4]) ∧ Same H H' ∧
          H' p = some (.lst (((ind ++ txR (.node x us a b)) :: lnL (ind ++ Str.ofString "  ") (a.take i)).map V.str))) ⟨⟨_, _, rfl⟩, g2, by rw [List.take_zero, lnL]; exact upd_same⟩ (fun i σ H' _ z => sqL_same z.2.1 h3) ?_ ?_⟩
      · rintro i y σ H3 hx ⟨⟨v3, v4, rfl⟩, g, hp⟩
        obtain ⟨r, hr0, hdr⟩ := dA_row h4 hx
        have okr := okL_at k3 hr0
        obtain ⟨t2, y2, rfl, _⟩ := word_at hdr okr
        have hhr : htR r + 1 ≤ htL a := htR_mem hr0
        have hsr := szR_mem hr0
        refine ⟨_, rfl, .inl ⟨rfl, _, SqL.of hp⟩, _, rfl, _, rfl, ind, _, rfl, rfl, small_line (by show ind.length + 2 ≤ 1000; omega), t2, ind ++ Str.ofString "  ", r, W, F, rfl, dp_same g hdr, okr, hW, hF, by omega, by omega, by rw [li]; omega, fun l H4 g4 nl hl => ?_⟩
        refine ⟨p, l, _, _, rfl, rfl, g4 _ _ hp, hl, ?_, ⟨_, _, rfl⟩, same_upd (g.trans g4) np0 _, ?_⟩
        · have := lnR_len (ind ++ Str.ofString "  ") r
          have := lnL_len (ind ++ Str.ofString "  ") (a.take i)
          have e5 := congrArg szL (List.take_append_drop i a)
          rw [szL_app] at e5
          simp only [List.length_map, List.length_cons]
          exact small_line (by omega)
        · rw [upd_same, lnL_take _ hr0]
          simp only [List.map_append, List.map_cons, List.cons_append]
      · rintro σ H3 ⟨⟨v3, v4, rfl⟩, g, hp⟩
        have lx : xa.length = a.length := by rw [dA_len h4, dL_length]
        rw [lx, List.take_length] at hp
        refine ⟨_, rfl, .inl ⟨rfl, _, SqL.of hp⟩, _, rfl, ind, _, rfl, rfl, small_line (by show ind.length + 4 ≤ 1000; omega), p, _, _, rfl, rfl, hp, ?_, ?_⟩
        · simp only [List.length_map, List.length_cons]
          exact small1000 (by omega)
        have g3 : ∀ o, Same H (upd H3 p o) := fun o => same_upd g np0 o
        refine ⟨_, rfl, 1, rfl, t, _, _, _, rfl, rfl, sqT_same (g3 _) hs', at_last2 _ _ _ _, c2, rfl, ⟨_, sqL_same (g3 _) h5⟩, for_list (K := K) (a := c2) (xs := xb) (fun i σ H' => (∃ v3 v4, σ = [some (.ref t), some (.str ind), some (.ref p), v3, v4]) ∧ Same H H' ∧
          H' p = some (.lst (((ind ++ txR (.node x us a b)) :: (lnL (ind ++ Str.ofString "  ") a ++ (ind ++ Str.ofString "else") :: lnL (ind ++ Str.ofString "  ") (b.take i))).map V.str))) ⟨⟨_, _, rfl⟩, g3 _, ?_⟩ (fun i σ H' _ z => sqL_same z.2.1 h5) ?_ ?_⟩
        · rw [List.take_zero, lnL, upd_same]
          simp only [List.map_append, List.map_cons, List.cons_append, List.map_nil]
        · rintro i y σ H4 hx ⟨⟨v3, v4, rfl⟩, g, hp⟩
          obtain ⟨r, hr0, hdr⟩ := dA_row h6 hx
          have okr := okL_at k4 hr0
          obtain ⟨t2, y2, rfl, _⟩ := word_at hdr okr
          have hhr : htR r + 1 ≤ htL b := htR_mem hr0
          have hsr := szR_mem hr0
          refine ⟨_, rfl, .inl ⟨rfl, _, SqL.of hp⟩, _, rfl, _, rfl, ind, _, rfl, rfl, small_line (by show ind.length + 2 ≤ 1000; omega), t2, ind ++ Str.ofString "  ", r, W, F, rfl, dp_same g hdr, okr, hW, hF, by omega, by omega, by rw [li]; omega, fun l H5 g5 nl hl => ?_⟩
          refine ⟨p, l, _, _, rfl, rfl, g5 _ _ hp, hl, ?_, ⟨_, _, rfl⟩, same_upd (g.trans g5) np0 _, ?_⟩
          · have := lnR_len (ind ++ Str.ofString "  ") r
            have := lnL_len (ind ++ Str.ofString "  ") (b.take i)
            have e5 := congrArg szL (List.take_append_drop i b)
            rw [szL_app] at e5
            simp only [List.length_map, List.length_cons, List.length_append]
            exact small_line (by omega)
          · rw [upd_same, lnL_take _ hr0]
            simp only [List.map_append, List.map_cons, List.cons_append, List.append_assoc]
        · rintro σ H4 ⟨⟨v3, v4, rfl⟩, g, hp⟩
          have lx : xb.length = b.length := by rw [dA_len h6, dL_length]
          rw [lx, List.take_length] at hp
          exact ⟨_, rfl, q p H4 g np0 (by rw [lnR]; exact hp)⟩
    cases r with
    | leaf x ps =>
      rw [okR] at ok
      obtain ⟨sh, k1, k2⟩ := ok
      have n1 : x ≠ Str.ofString "same" := (by decide +kernel : ∀ q ∈ leafL, q.1 ≠ Str.ofString "same") _ k1
      have n2 : x ≠ Str.ofString "empty" := (by decide +kernel : ∀ q ∈ leafL, q.1 ≠ Str.ofString "empty") _ k1
      rw [show decide (V.str (Row.leaf x ps).word = V.str (Str.ofString "same")) = false from decide_eq_false (fun e => n1 (by injection e))]
      refine iteT ⟨_, rfl, t, _, 0, _, rfl, rfl, hs, at_0 _ _, rfl, _, rfl, ?_⟩
      rw [show decide (V.str (Row.leaf x ps).word = V.str (Str.ofString "empty")) = false from decide_eq_false (fun e => n2 (by injection e))]
      obtain ⟨t', e, hs'⟩ := leaf_at hd
      cases e
      have hat : V.str x :: ps.map Atom.v = (Atom.s x :: ps).map Atom.v := rfl
      have hsm : ∀ a ∈ Atom.s x :: ps, ∀ k, a = .n k → k < 5 := fun a ha k e => by
        rcases List.mem_cons.mp ha with rfl | ha
        · cases e
        · exact fits_small k2 a ha k e
      rw [hat] at hs'
      have lps : (Atom.s x :: ps).length ≤ 5 := by
        have : (hdR (.leaf x ps)).length = (Atom.s x :: ps).length := by show (x :: ps.map Atom.t).length = _; rw [List.length_cons, List.length_map, List.length_cons]
        omega
      refine iteT ⟨_, rfl, ⟨_, rfl⟩, _, rfl, t, rfl, ⟨_, hs'⟩, fun D nD => ?_⟩
      refine lc_it (walk_tup (K := K) (a := t) (xs := (Atom.s x :: ps).map Atom.v)) (fun i H' => Same H H' ∧ H' D = some (.lst ((((Atom.s x :: ps).take i).map Atom.t).map V.str)))
        ⟨same_new nD _, upd_same⟩ (fun i H' _ z => sqT_same z.1 hs') ?_ ?_
      · rintro i y H2 H3 hi ⟨g, hD⟩ ⟨rfl, hx⟩
        obtain ⟨a, ha, rfl⟩ := map_get hx
        have fin : ∀ z : Str, z = a.t → ∃ acc, H3 D = some (.lst acc) ∧ acc.length < sizeLine ∧ Same H (upd H3 D (.lst (acc ++ [V.str z]))) ∧ upd H3 D (.lst (acc ++ [V.str z])) D = some (.lst ((((Atom.s x :: ps).take (i + 1)).map Atom.t).map V.str)) := fun z e => by
          refine ⟨_, hD, by rw [List.length_map, List.length_map, List.length_take]; exact small1000 (by omega), same_upd g nD _, ?_⟩
          rw [upd_same, take_get ha, List.map_append, List.map_append, e] <;> rfl
        refine ⟨rfl, ?_⟩
        cases a with
        | s z => exact ⟨_, rfl, .inl ⟨z, rfl, fin _ rfl⟩⟩
        | n k => exact ⟨_, rfl, .inr ⟨k, rfl, small_log (hsm _ (List.mem_of_getElem? ha) k rfl), fin _ rfl⟩⟩
      · rintro H2 ⟨g, hD⟩
        have e9 : (((Atom.s x :: ps).take ((Atom.s x :: ps).map Atom.v).length).map Atom.t) = hdR (.leaf x ps) := by rw [List.length_map, List.take_length] <;> rfl
        rw [e9] at hD
        refine ⟨_, D, _, rfl, rfl, .inl (SqL.of hD), join_small hw1 hw5, ind, _, rfl, rfl, small_line (by have : (Txt.join (Str.ofString " ") (hdR (.leaf x ps))).length ≤ 45 := hln.len; omega), ?_, fun l nl => q l _ (g.trans (same_new nl _)) (g.free nl) ?_⟩
        · exact small_line (Nat.le_of_ble_eq_true rfl)
        · rw [upd_same, lnR] <;> rfl
    | node x us a b =>
      rw [okR] at ok
      have w2 : x = Str.ofString "same" ∨ x = Str.ofString "empty" := (by decide +kernel : ∀ q ∈ nodeL, q.1 = Str.ofString "same" ∨ q.1 = Str.ofString "empty") _ ok.1
      by_cases e1 : x = Str.ofString "same"
      · rw [show decide (V.str (Row.node x us a b).word = V.str (Str.ofString "same")) = true from decide_eq_true (by rw [← e1] <;> rfl)]
        exact iteF ⟨⟨x, us, a, b, rfl⟩, rfl, rfl⟩
      · have e2 : x = Str.ofString "empty" := w2.resolve_left e1
        rw [show decide (V.str (Row.node x us a b).word = V.str (Str.ofString "same")) = false from decide_eq_false (fun z => e1 (by injection z))]
        refine iteT ⟨_, rfl, t, _, 0, _, rfl, rfl, hs, at_0 _ _, rfl, _, rfl, ?_⟩
        rw [show decide (V.str (Row.node x us a b).word = V.str (Str.ofString "empty")) = true from decide_eq_true (by rw [← e2] <;> rfl)]
        exact iteF ⟨⟨x, us, a, b, rfl⟩, rfl, rfl⟩
/-! program_text -/
def topL (ins fs outs : List Str) : List Str := [Txt.join sp1 (Str.ofString "inputs" :: ins), Txt.join sp1 (Str.ofString "fields" :: fs), Txt.join sp1 (Str.ofString "outputs" :: outs)]
def allL (ins fs outs : List Str) (rs : List Row) : List Str := topL ins fs outs ++ lnL Str.empty rs
def nlS : Str := Str.ofString "\n"
def prgT (ins fs outs : List Str) (rs : List Row) : Str := Txt.join nlS (allL ins fs outs rs)
theorem lok0 : Lok 0 Str.empty := ⟨Nat.le_refl _, fun c hc => by cases hc⟩
theorem words_lok {x : Str} {xs : List Str} (hx : isW x) (h : ∀ z ∈ xs, isW z) (h3 : xs.length ≤ 4) : Lok 45 (Txt.join sp1 (x :: xs)) := by
  have hw : ∀ z ∈ x :: xs, Wd z := fun z hz => by
    rcases List.mem_cons.mp hz with rfl | hz
    · exact hx.wd
    · exact (h z hz).wd
  refine ⟨?_, fun c hc => ?_⟩
  · have := len_tx hw sp1
    have e2 : sp1.length = 1 := by decide +kernel
    rw [e2, List.length_cons] at this
    omega
  · rw [tl_txt, show tl sp1 = [32] by decide +kernel] at hc
    rcases mem_joinL hc with hc | ⟨z, hz, hc⟩
    · rw [List.mem_singleton.mp hc]
      exact Nat.le_refl _
    · obtain ⟨z', hz', rfl⟩ := List.mem_map.mp hz
      exact Nat.le_of_lt ((hw z' hz').big c hc)
theorem head_isW : isW (Str.ofString "inputs") ∧ isW (Str.ofString "fields") ∧ isW (Str.ofString "outputs") := ⟨isW_of (by decide +kernel), isW_of (by decide +kernel), isW_of (by decide +kernel)⟩
theorem allL_ok {W ins fs outs : List Str} {rs : List Row} (G : Prg W ins fs outs rs) : (∀ x ∈ allL ins fs outs rs, Lok 60 x) ∧ (allL ins fs outs rs).length ≤ 43 ∧ 3 ≤ (allL ins fs outs rs).length := by
  refine ⟨fun x hx => ?_, ?_, ?_⟩
  · rcases List.mem_append.mp hx with hx | hx
    · simp only [topL, List.mem_cons, List.not_mem_nil, or_false] at hx
      rcases hx with rfl | rfl | rfl
      · exact (words_lok head_isW.1 (fun z hz => G.w z (G.i z hz)) (by have := G.i3; omega)).mono (by decide)
      · exact (words_lok head_isW.2.1 G.f (by have := G.f2; omega)).mono (by decide)
      · exact (words_lok head_isW.2.2 (fun z hz => G.w z (G.o z hz)) (by have := G.o3; omega)).mono (by decide)
    · exact (lnL_ok G.w G.f rs G.ok lok0 x hx).mono (by have := G.ht; omega)
  · have h1 := lnL_len Str.empty rs
    have h2 := G.sz
    rw [allL, List.length_append]
    show 3 + _ ≤ 43
    omega
  · rw [allL, List.length_append]
    show 3 ≤ 3 + _
    omega
theorem allL_sum {W ins fs outs : List Str} {rs : List Row} (G : Prg W ins fs outs rs) : ((allL ins fs outs rs).map (·.length)).sum + (allL ins fs outs rs).length * nlS.length ≤ 16777216 := by
  obtain ⟨h1, h2, _⟩ := allL_ok G
  have h3 := sum_lok (n := 60) fun x hx => (h1 x hx).1
  have e : nlS.length = 1 := by decide +kernel
  rw [e]
  omega
def sp_program_text (K : PySem.W.Frag) : Sp := fun vs H Q _ => ∃ (p : Addr) (W ins fs outs : List Str) (rs : List Row), vs = [.ref p] ∧ ProgAt K H H p ins fs outs rs ∧ Prg W ins fs outs rs ∧
  ∀ (H' : Hp), Same H H' → Q (.str (prgT ins fs outs rs)) H'
theorem sc_program_text : FnScope ["program", "lines", "row"] ["program"] (defScope s_program_text) := ⟨rfl, rfl, rfl, by decide +kernel, rfl, by decide +kernel, by decide +kernel⟩
theorem c_program_text (T : Txt w K mg) : Cal P w K mg base "program_text" 7 ["program"] (sp_program_text K) := by
  refine T.d_program_text.cal sc_program_text (fun _ _ _ _ _ _ us hl => match us, hl with | [_], _ => rfl) (fun vs H Q E h => by obtain ⟨p, W, ins, fs, outs, rs, rfl, _⟩ := h; rfl) (fun f cdv A outer s H vs Q E hr h => ?_)
  obtain ⟨p, W, ins, fs, outs, rs, rfl, hp, G, q⟩ := h
  have nd := sc_program_text.nd
  have hr5 : Room 5 _ := hr.mono (by decide)
  obtain ⟨f1, fd1, F1, m1, b1⟩ := (m_rows (P := P) (base := base) T).ex
  obtain ⟨dx, a1, a2, a3, a4, h0, h1, h2, h3, h4⟩ := hp.ex
  refine ⟨_, pss_cons (ps_set (i := 1) nd rfl (Or.inl rfl) (pe_lst (pa_cons (pe_join pe_str (pe_lst (pa_cons pe_str (StX.pa_star (pe_fld (pv 0) rfl) pa_nil))))
        (pa_cons (pe_join pe_str (pe_lst (pa_cons pe_str (StX.pa_star (pe_fld (pv 0) rfl) pa_nil)))) (pa_cons (pe_join pe_str (pe_lst (pa_cons pe_str (StX.pa_star (pe_fld (pv 0) rfl) pa_nil)))) pa_nil)))))
      (pss_cons (ps_for PassesOwn.never rfl (pi_list (pe_meth0 (pv 0) T.cl_Program m1 F1 hr b1 .nil pass0)) (pg_name (i := 2) nd rfl (Or.inl rfl))
        (pss_one (ps_expr (pe_bm PySem.F.plainAttrs_list PySem.F.slot_list_extend PySem.F.type_list_extend mt_extend (pv 1) (pa_cons (pe_c (c_row_lines T 5) hr5 (pa_cons (pv 2) (pa_cons pe_str pa_nil))) pa_nil)))))
      (pss_one (ps_ret (pe_join pe_str (pv 1))))), ?_⟩
  have wd1 : ∀ {x : Str} {xs : List Str}, isW x → (∀ z ∈ xs, isW z) → ∀ z ∈ x :: xs, Wd z := fun hx h z hz => by
    rcases List.mem_cons.mp hz with rfl | hz
    · exact hx.wd
    · exact (h z hz).wd
  refine ⟨⟨_, rfl⟩, _, rfl, p, _, dx, _, _, rfl, h0, T.cl_Program, T.n_inputs, pF_inputs _ _ _ _, a1, _, rfl, .inl h1, ?_, fun l1 n1 => ?_⟩
  · have := G.i3
    simp only [List.length_append, List.length_cons, List.length_map, List.length_nil]
    exact small_line (by omega)
  have g1 := same_new n1 (.lst (V.str (Str.ofString "inputs") :: (ins.map V.str ++ [])))
  refine ⟨_, l1, Str.ofString "inputs" :: ins, rfl, rfl, .inl (SqL.of (by rw [upd_same, List.append_nil] <;> rfl)), join_small (wd1 head_isW.1 fun z hz => G.w z (G.i z hz)) (by rw [List.length_cons]; have := G.i3; omega), ?_⟩
  refine ⟨⟨_, rfl⟩, _, rfl, p, _, dx, _, _, rfl, g1 _ _ h0, T.cl_Program, T.n_fields, pF_fields _ _ _ _, a2, _, rfl, .inl (sqT_same g1 h2), ?_, fun l2 n2 => ?_⟩
  · have := G.f2
    simp only [List.length_append, List.length_cons, List.length_map, List.length_nil]
    exact small_line (by omega)
  have g2 := g1.trans (same_new n2 (.lst (V.str (Str.ofString "fields") :: (fs.map V.str ++ []))))
  refine ⟨_, l2, Str.ofString "fields" :: fs, rfl, rfl, .inl (SqL.of (by rw [upd_same, List.append_nil] <;> rfl)), join_small (wd1 head_isW.2.1 G.f) (by rw [List.length_cons]; have := G.f2; omega), ?_⟩
  refine ⟨⟨_, rfl⟩, _, rfl, p, _, dx, _, _, rfl, g2 _ _ h0, T.cl_Program, T.n_outputs, pF_outputs _ _ _ _, a3, _, rfl, .inl (sqT_same g2 h3), ?_, fun l3 n3 => ?_⟩
  · have := G.o3
    simp only [List.length_append, List.length_cons, List.length_map, List.length_nil]
    exact small_line (by omega)
  have g3 := g2.trans (same_new n3 (.lst (V.str (Str.ofString "outputs") :: (outs.map V.str ++ []))))
  refine ⟨_, l3, Str.ofString "outputs" :: outs, rfl, rfl, .inl (SqL.of (by rw [upd_same, List.append_nil] <;> rfl)), join_small (wd1 head_isW.2.2 fun z hz => G.w z (G.o z hz)) (by rw [List.length_cons]; have := G.o3; omega), ?_, fun l nl => ?_⟩
  · exact small_line (by show 3 ≤ 1000; decide)
  have nl0 := g3.free nl
  have g4 := g3.trans (same_new nl (.lst ((topL ins fs outs).map V.str)))
  have hl4 : (upd (upd (upd (upd H l1 (.lst (V.str (Str.ofString "inputs") :: (ins.map V.str ++ [])))) l2 (.lst (V.str (Str.ofString "fields") :: (fs.map V.str ++ [])))) l3 (.lst (V.str (Str.ofString "outputs") :: (outs.map V.str ++ [])))) l (.lst ((topL ins fs outs).map V.str))) l = some (.lst ((topL ins fs outs).map V.str)) := upd_same
  have hid1 := hid_cons (M := []) nl0 g4
  rw [hid_nil] at hid1
  refine ⟨_, rfl, p, dx, _, rfl, g4 _ _ h0, pF_m7 _ _ _ _, [l], p, W, ins, fs, outs, rs, rfl, (fun b hb => by rw [List.mem_singleton.mp hb]; exact ⟨_, hl4⟩), hp.same g4 hid1, G, fun pl xs H2 g5 npl hpl hall => ?_⟩
  have npl' : pl ≠ l := fun e => by rw [e] at npl; cases hl4.symm.trans npl
  have lx : xs.length = rs.length := by rw [dA_len hall, dL_length]
  have lall := lnL_len Str.empty rs
  have gsz := G.sz
  refine ⟨pl, rfl, ⟨_, SqL.of hpl⟩, for_list (K := K) (a := pl) (xs := xs) (fun i σ H' => (∃ v, σ = [some (.ref p), some (.ref l), v]) ∧ Same H H' ∧ Kept [l] H2 H' ∧ H' l = some (.lst ((topL ins fs outs ++ lnL Str.empty (rs.take i)).map V.str)))
    ⟨⟨_, rfl⟩, g4.trans g5, Kept.refl _ _, by rw [List.take_zero, lnL, List.append_nil]; exact g5 _ _ hl4⟩ (fun i σ H' _ z => SqL.of (z.2.2.1 _ _ hpl (by simp [npl']))) ?_ ?_⟩
  · rintro i y σ H3 hx ⟨⟨v, rfl⟩, g, kp, hL⟩
    obtain ⟨r, hr0, hdr⟩ := dA_row hall hx
    have okr := okL_at G.ok hr0
    obtain ⟨t2, y2, rfl, _⟩ := word_at hdr okr
    have hhr : htR r + 1 ≤ htL rs := htR_mem hr0
    have hsr := szR_mem hr0
    have ght := G.ht
    have up : Same (hid [pl, l] H2) H3 := fun b o e => by
      have hb : b ∉ [pl, l] := fun hm => by rw [hid_in hm] at e; cases e
      exact kp b o (hid_le _ _ b o e) (fun hm => hb (by rw [List.mem_singleton.mp hm]; simp))
    refine ⟨_, rfl, .inl ⟨rfl, _, SqL.of hL⟩, _, rfl, t2, Str.empty, r, W, fs, rfl, dp_same up hdr, okr, G.w, G.f, by omega, by omega, by show 0 + _ ≤ 900; omega, fun q1 H4 g6 nq hq => ?_⟩
    refine ⟨l, q1, _, _, rfl, rfl, g6 _ _ hL, hq, ?_, ⟨_, rfl⟩, same_upd (g.trans g6) nl0 _, (kp.trans (Kept.of g6)).trans (Kept.upd (List.mem_singleton.mpr rfl)), ?_⟩
    · have := lnR_len Str.empty r
      have := lnL_len Str.empty (rs.take i)
      have e5 := congrArg szL (List.take_append_drop i rs)
      rw [szL_app] at e5
      have e6 : (topL ins fs outs).length = 3 := rfl
      simp only [List.length_map, List.length_append]
      exact small_line (by omega)
    · rw [upd_same, lnL_take _ hr0]
      simp only [List.map_append, List.append_assoc]
  · rintro σ H3 ⟨⟨v, rfl⟩, g, kp, hL⟩
    rw [lx, List.take_length] at hL
    exact ⟨⟨_, rfl⟩, _, rfl, nlS, l, allL ins fs outs rs, rfl, rfl, .inl (SqL.of hL), allL_sum G, q H3 g⟩
end
end Tw

set_option Elab.async false
set_option maxRecDepth 100000
set_option maxHeartbeats 4000000
/-! D3: number_of, head_words, plain_row. -/
namespace Tw
open PySem PySem.Spec L2 TL PyProof.Rows
def kindA : Atom → Nat
  | .s _ => 119
  | .n _ => 110
def asR : Row → List Atom
  | .leaf _ ps => ps
  | .node _ vs _ _ => vs.map Atom.s
theorem hdR_eq (r : Row) : hdR r = r.word :: (asR r).map Atom.t := by
  cases r with
  | leaf w ps => rfl
  | node w vs a b =>
    show w :: vs = w :: (vs.map Atom.s).map Atom.t
    rw [List.map_map]
    congr 1
    exact (List.map_id' vs).symm
def AtOk : Atom → Prop
  | .s x => isW x
  | .n k => k < 5
def shK (c : Nat) : Nat := if c = 100 then 110 else 119
theorem fits_kind {W F : List Str} (hW : ∀ x ∈ W, isW x) (hF : ∀ x ∈ F, isW x) {cs : List Nat} {as : List Atom} (h : Fits W F cs as) : cs.map shK = as.map kindA ∧ ∀ a ∈ as, AtOk a := by
  induction h with
  | nil => exact ⟨rfl, fun a h => by cases h⟩
  | @cons c a cs as g _ ih =>
    refine ⟨?_, fun b hb => ?_⟩
    · rw [List.map_cons, List.map_cons, ih.1]
      cases g <;> rfl
    · rcases List.mem_cons.mp hb with rfl | hb
      · cases g with
        | v h => exact hW _ h
        | r h => exact h
        | f h => exact hF _ h
        | k h => rcases h with rfl | rfl <;> exact isW_of (by decide +kernel)
        | d h => exact h
      · exact ih.2 b hb
theorem leaf_parts : ∀ q ∈ leafL, (q.1, (⟨(q.2.cps.toList.map shK).toArray⟩ : Str)) ∈ partsL := by decide +kernel
theorem node_parts : ∀ q ∈ nodeL, (q.1, (⟨(List.replicate q.2 119).toArray⟩ : Str)) ∈ partsL := by decide +kernel
theorem parts_ok {W F : List Str} (hW : ∀ x ∈ W, isW x) (hF : ∀ x ∈ F, isW x) {r : Row} (ok : okR W F r) : (r.word, (⟨((asR r).map kindA).toArray⟩ : Str)) ∈ partsL ∧ (∀ a ∈ asR r, AtOk a) ∧ isW r.word ∧ 1 ≤ (asR r).length ∧ (asR r).length ≤ 4 := by
  have hl := hdR_ok hW hF ok
  rw [hdR_eq, List.length_cons, List.length_map] at hl
  cases r with
  | leaf w ps =>
    rw [okR] at ok
    obtain ⟨sh, h1, h2⟩ := ok
    obtain ⟨h3, h4⟩ := fits_kind hW hF h2
    have h5 := leaf_parts _ h1
    rw [show sh.cps.toList.map shK = ps.map kindA from h3] at h5
    exact ⟨h5, h4, leafW _ h1, by omega, by omega⟩
  | node w vs a b =>
    rw [okR] at ok
    have h5 := node_parts _ ok.1
    have e : (vs.map Atom.s).map kindA = List.replicate vs.length 119 := by
      rw [List.map_map]
      exact List.map_const' ..
    rw [← e] at h5
    refine ⟨h5, fun x hx => ?_, nodeW _ ok.1, by omega, by omega⟩
    obtain ⟨y, hy, rfl⟩ := List.mem_map.mp hx
    exact hW y (ok.2.1 y hy)
theorem dig_eq : ∀ n, n < 5 → Str.ofString (toString ((n : Nat) : Int)) = ⟨#[48 + n]⟩ := by decide +kernel
theorem dig_in : ∀ n, n < 5 → 48 + n ∈ (Str.ofString "0123456789").cps.toList := by decide +kernel
theorem dig_int : ∀ n, n < 5 → PySem.intText? (Str.ofString (toString ((n : Nat) : Int))) = some ((n : Nat) : Int) := by decide +kernel
theorem split_words {xs : List Str} (hne : xs ≠ []) (h : ∀ x ∈ xs, Wd x) : Txt.split (Txt.join sp1 xs) sp1 = xs :=
  split_join (s := 32) (S := []) (by decide +kernel) (by decide +kernel) hne fun p hp hm => Nat.lt_irrefl _ ((h p hp).big 32 hm)
theorem all_true (n : Nat) : (List.replicate n true).all id = true := by
  rw [List.all_eq_true]
  intro b hb
  rw [List.eq_of_mem_replicate hb] <;> rfl
theorem rep_snoc (n : Nat) : (List.replicate n true).map V.bl ++ [V.bl true] = (List.replicate (n + 1) true).map V.bl := by
  rw [List.replicate_succ', List.map_append] <;> rfl
section
variable {P : Program} {w : World} {K : PySem.W.Frag} {mg : Str → Option Value} {base : Heap}
/-! number_of -/
def sp_number_of : Sp := fun vs H Q _ => ∃ n : Nat, vs = [.str (Str.ofString (toString ((n : Nat) : Int)))] ∧ n < 5 ∧ ∀ H', Same H H' → Q (.int (n : Nat)) H'
theorem sc_number_of : FnScope ["part", "digit"] ["part"] (defScope s_number_of) := ⟨rfl, rfl, rfl, by decide +kernel, rfl, by decide +kernel, by decide +kernel⟩
theorem c_number_of (T : Txt w K mg) : Cal P w K mg base "number_of" 1 ["part"] sp_number_of := by
  refine T.d_number_of.cal sc_number_of (fun _ _ _ _ _ _ us hl => match us, hl with | [_], _ => rfl) (fun vs H Q E h => by obtain ⟨n, rfl, _⟩ := h; rfl) (fun f cdv A outer s H vs Q E hr h => ?_)
  obtain ⟨n, rfl, h5, q⟩ := h
  have nd := sc_number_of.nd
  refine ⟨_, pss_cons (ps_if (PW.pt (pw_or (pt_not (pt_chain op_le op_le pe_int (pe_callB call_len_str (by rfl) T.b_len PySem.boot_len (pa_cons (pv 0) pa_nil)) pe_int))
        (pw_or1 (pt_not (pt_val (pe_callB (cr_all (by rfl)) (by rfl) T.b_all (by rfl) (pa_cons (pe_lc (own := [("digit", 1)]) (g := gName 1) (by rfl) nd (pi_str (pv 0))
          (blkOk_by (own := [("digit", 1)]) (N := ["part", "digit"]) (sc := defScope s_number_of) (by decide +kernel))
          (fun _ _ _ _ _ => pg_name (i := 1) nd rfl (Or.inl rfl)) (fun _ _ _ _ _ => pts_nil) (fun _ _ _ _ _ => pe_cmpR op_in_sign (pv 1) pe_str (by rfl))) pa_nil))))))) (pss_one ps_never) pss_nil)
    (pss_cons (ps_if (PW.pt (pw_and (pt_cmpR op_eq (pe_ix ix_str (pv 0) pe_int (fun _ _ => rfl)) pe_str (nomark _)) (pw_and1 (pt_cmpR op_gt (pe_callB call_len_str (by rfl) T.b_len PySem.boot_len (pa_cons (pv 0) pa_nil)) pe_int (nomark _))))) (pss_one ps_never) pss_nil)
    (pss_one (ps_ret (pe_callTy call_int_str (by rfl) T.b_int boot_int (pa_cons (pv 0) pa_nil))))), ?_⟩
  have e := dig_eq n h5
  have hl : (Str.ofString (toString ((n : Nat) : Int))).length = 1 := by rw [e] <;> rfl
  refine ⟨_, rfl, _, rfl, by rw [hl]; decide, _, _, rfl, rfl, _, rfl, ?_⟩
  rw [hl]
  refine iteT ⟨_, _, rfl, rfl, _, rfl, iteF ?_⟩
  refine ⟨_, rfl, _, rfl, fun D nD => ?_⟩
  refine lc_it walk_str (fun i H' => Same H H' ∧ i ≤ 1 ∧ H' D = some (.lst ((List.replicate i true).map V.bl)))
    ⟨same_new nD _, Nat.zero_le _, upd_same⟩ (fun _ _ _ _ => trivial) ?_ ?_
  · rintro i y H2 H3 hi ⟨g, hi1, hD⟩ ⟨rfl, c, hc, rfl⟩
    rw [e] at hc
    have hc : #[48 + n][i]? = some c := hc
    have i0 : i = 0 := by
      have := (Array.getElem?_eq_some_iff.mp hc).1
      have h1 : i < 1 := this
      omega
    subst i0
    have hc : some (48 + n) = some c := hc
    cases hc
    refine ⟨rfl, _, rfl, 48 + n, _, rfl, rfl, _, hD, by decide, same_upd g nD _, Nat.le_refl _, ?_⟩
    rw [upd_same, decide_eq_true (dig_in n h5)] <;> rfl
  · rintro H2 ⟨g, hi1, hD⟩
    refine ⟨D, _, rfl, SqL.of hD, _, rfl, ?_⟩
    rw [all_true]
    refine iteF ?_
    have fin : ∀ b : Bool, b = true → Q (.int (n : Nat)) H2 := fun _ _ => q H2 g
    refine ⟨_, rfl, _, 0, 48 + n, rfl, rfl, by rw [hl]; decide, by rw [e] <;> rfl, rfl, _, rfl, ?_⟩
    refine ite2 (fun _ => ?_) (fun _ => ?_)
    · refine ⟨_, rfl, _, rfl, by rw [hl]; decide, _, _, rfl, rfl, _, rfl, ?_⟩
      rw [hl]
      exact iteF ⟨_, rfl, _, _, rfl, dig_int n h5, by rw [hl]; decide, q H2 g⟩
    · exact ⟨_, rfl, _, _, rfl, dig_int n h5, by rw [hl]; decide, q H2 g⟩
/-! head_words -/
def sp_head_words (K : PySem.W.Frag) : Sp := fun vs H Q _ => ∃ (x : Str) (xs : List Str), vs = [.str (Txt.join sp1 (x :: xs)), .str x] ∧ isW x ∧ (∀ z ∈ xs, isW z) ∧ xs.length ≤ 4 ∧
  ∀ (l : Addr) (H' : Hp), Same H H' → H l = none → H' l = some (.lst (xs.map V.str)) → Q (.ref l) H'
theorem sc_head_words : FnScope ["line", "head", "parts", "part"] ["line", "head"] (defScope s_head_words) := ⟨rfl, rfl, rfl, by decide +kernel, rfl, by decide +kernel, by decide +kernel⟩
theorem c_head_words (T : Txt w K mg) : Cal P w K mg base "head_words" 2 ["line", "head"] (sp_head_words K) := by
  refine T.d_head_words.cal sc_head_words (fun _ _ _ _ _ _ us hl => match us, hl with | [_, _], _ => rfl) (fun vs H Q E h => by obtain ⟨x, xs, rfl, _⟩ := h; rfl) (fun f cdv A outer s H vs Q E hr h => ?_)
  obtain ⟨x, xs, rfl, hx, hxs, h4, q⟩ := h
  have nd := sc_head_words.nd
  have hwd : ∀ z ∈ x :: xs, Wd z := fun z hz => by
    rcases List.mem_cons.mp hz with rfl | hz
    · exact hx.wd
    · exact (hxs z hz).wd
  refine ⟨_, pss_cons (ps_set (i := 2) nd rfl (Or.inl rfl) (pe_split (pv 0) pe_str))
    (pss_cons (ps_if (PW.pt (pw_or (pt_cmpR op_ne (pe_ix (r := rIxL K) ix_list (pv 2) pe_int (fun _ _ => rfl)) (pv 1) (nomark _))
        (pw_or1 (pt_not (pt_val (pe_callB (cr_all (by rfl)) (by rfl) T.b_all (by rfl) (pa_cons (pe_lc (own := [("part", 3)]) (g := gName 3) (by rfl) nd (pi_list (pe_slice sl_list (pv 2) (po_some pe_int) po_none))
          (blkOk_by (own := [("part", 3)]) (N := ["line", "head", "parts", "part"]) (sc := defScope s_head_words) (by decide +kernel))
          (fun _ _ _ _ _ => pg_name (i := 3) nd rfl (Or.inl rfl)) (fun _ _ _ _ _ => pts_nil) (fun _ _ _ _ _ => pe_c (c_is_word T) hr (pa_cons (pv 3) pa_nil))) pa_nil))))))) (pss_one ps_never) pss_nil)
    (pss_one (ps_ret (pe_slice sl_list (pv 2) (po_some pe_int) po_none)))), ?_⟩
  have L := words_lok hx hxs h4
  refine ⟨_, rfl, ⟨_, rfl⟩, _, sp1, rfl, rfl, by decide +kernel, small_line (by have : (Txt.join sp1 (x :: xs)).length ≤ 45 := L.1; omega), ?_⟩
  rw [split_words (List.cons_ne_nil _ _) hwd]
  intro pl npl
  have g1 := same_new npl (.lst ((x :: xs).map V.str))
  refine ⟨_, rfl, pl, _, 0, _, rfl, rfl, SqL.of upd_same, at_0 _ _, _, rfl, rfl, _, rfl, ?_⟩
  rw [decide_eq_true rfl]
  refine iteF ?_
  refine ⟨_, rfl, 1, rfl, pl, _, rfl, SqL.of upd_same, fun tl1 n1 => ?_⟩
  rw [show cutV ((x :: xs).map V.str) (some 1) none = xs.map V.str from cut_tail _ _]
  have g2 := g1.trans (same_new n1 (.lst (xs.map V.str)))
  refine ⟨tl1, rfl, ⟨_, SqL.of upd_same⟩, fun D nD => ?_⟩
  have pt : pl ≠ tl1 := fun e => by rw [← e, upd_same] at n1; cases n1
  have pD : pl ≠ D := fun e => by rw [← e, upd_ne pt, upd_same] at nD; cases nD
  have tD : tl1 ≠ D := fun e => by rw [← e, upd_same] at nD; cases nD
  refine lc_it (walk_list (K := K) (a := tl1) (xs := xs.map V.str)) (fun i H' => Same H H' ∧ H' pl = some (.lst ((x :: xs).map V.str)) ∧ H' tl1 = some (.lst (xs.map V.str)) ∧ H' D = some (.lst ((List.replicate i true).map V.bl)))
    ⟨same_upd g2 (g2.free nD) _, by rw [upd_ne pD, upd_ne pt, upd_same], by rw [upd_ne tD, upd_same], upd_same⟩ (fun i H' _ z => SqL.of z.2.2.1) ?_ ?_
  · rintro i y H2 H3 hi ⟨g, e1, e2, hD⟩ ⟨rfl, hx'⟩
    obtain ⟨z, hz, rfl⟩ := map_get hx'
    refine ⟨rfl, _, rfl, z, rfl, hxs z (List.mem_of_getElem? hz), _, hD, ?_, same_upd g (g2.free nD) _, by rw [upd_ne pD]; exact e1, by rw [upd_ne tD]; exact e2, ?_⟩
    · rw [List.length_map, List.length_replicate]
      rw [List.length_map] at hi
      exact small1000 (by omega)
    · rw [upd_same, rep_snoc]
  · rintro H2 ⟨g, e1, e2, hD⟩
    refine ⟨D, _, rfl, SqL.of hD, _, rfl, ?_⟩
    rw [all_true]
    refine iteF ⟨_, rfl, 1, rfl, pl, _, rfl, SqL.of e1, fun l nl => ?_⟩
    rw [show cutV ((x :: xs).map V.str) (some 1) none = xs.map V.str from cut_tail _ _]
    exact q l _ (g.trans (same_new nl _)) (g.free nl) upd_same
/-! plain_row -/
def sp_plain_row (K : PySem.W.Frag) : Sp := fun vs H Q _ => ∃ (r : Row) (W F : List Str), vs = [.str (txR r)] ∧ okR W F r ∧ (∀ x ∈ W, isW x) ∧ (∀ x ∈ F, isW x) ∧
  ∀ (t : Addr) (H' : Hp), Same H H' → SqT K H' t (.str r.word :: (asR r).map Atom.v) → Q (.ref t) H'
theorem sc_plain_row : FnScope ["line", "parts", "shape", "row", "kind", "part", "number"] ["line"] (defScope s_plain_row) := ⟨rfl, rfl, rfl, by decide +kernel, rfl, by decide +kernel, by decide +kernel⟩
theorem c_plain_row (T : Txt w K mg) : Cal P w K mg base "plain_row" 2 ["line"] (sp_plain_row K) := by
  refine T.d_plain_row.cal sc_plain_row (fun _ _ _ _ _ _ us hl => match us, hl with | [_], _ => rfl) (fun vs H Q E h => by obtain ⟨r, W, F, rfl, _⟩ := h; rfl) (fun f cdv A outer s H vs Q E hr h => ?_)
  obtain ⟨r, W, F, rfl, ok, hW, hF, q⟩ := h
  have nd := sc_plain_row.nd
  obtain ⟨es, n, kd⟩ := T.kdP
  obtain ⟨hp, hat, hw, l1, l4⟩ := parts_ok hW hF ok
  obtain ⟨hw1, hw2, hw5⟩ := hdR_ok hW hF ok
  have hln := ln_row hW hF ok
  have hsplit : Txt.split (txR r) sp1 = hdR r := split_words (fun e => by rw [e] at hw2; exact absurd hw2 (by decide)) hw1
  refine ⟨_, pss_cons (ps_set (i := 1) nd rfl (Or.inl rfl) (pe_split (pv 0) pe_str))
    (pss_cons (ps_set (i := 2) nd rfl (Or.inl rfl) (pe_kg2 (pe_gR T.g_PARTS) (pe_ix ix_list (pv 1) pe_int (fun _ _ => rfl)) pe_str ⟨rfl, rfl, rfl, rfl⟩))
    (pss_cons (ps_if (PW.pt (pw_or (pt_cmpR op_eq (pv 2) pe_str (nomark _)) (pw_or1 (pt_cmpR op_ne (pe_callB call_len_seq (by rfl) T.b_len PySem.boot_len (pa_cons (pv 1) pa_nil)) (pe_op op_add (pe_callB call_len_str (by rfl) T.b_len PySem.boot_len (pa_cons (pv 2) pa_nil)) pe_int) (nomark _))))) (pss_one ps_never) pss_nil)
    (pss_cons (ps_set (i := 3) nd rfl (Or.inl rfl) (pe_tup (pa_cons (pe_ix ix_list (pv 1) pe_int (fun _ _ => rfl)) pa_nil)))
    (pss_cons (ps_for PassesOwn.never rfl (pi_zipS false (by rfl) T.b_zip (pa_cons (pv 2) (pa_cons (pe_slice sl_list (pv 1) (po_some pe_int) po_none) pa_nil))) (pg_tup (by rfl) (pgs_cons (pg_name (i := 4) nd rfl (Or.inl rfl)) (pgs_cons (pg_name (i := 5) nd rfl (Or.inl rfl)) pgs_nil)))
      (pss_one (ps_if (pt_cmpR op_eq (pv 4) pe_str (nomark _))
        (pss_cons (ps_if (pt_not (pt_val (pe_c (c_is_word T) hr (pa_cons (pv 5) pa_nil)))) (pss_one ps_never) pss_nil)
        (pss_one (ps_set (i := 3) nd rfl (Or.inl rfl) (pe_tup (StX.pa_star (pv 3) (pa_cons (pv 5) pa_nil))))))
        (pss_cons (ps_set (i := 6) nd rfl (Or.inl rfl) (pe_c (c_number_of T) hr (pa_cons (pv 5) pa_nil)))
        (pss_cons (ps_if (pt_cmpR op_isN (pv 6) pe_non (nomark _)) (pss_one ps_never) pss_nil)
        (pss_one (ps_set (i := 3) nd rfl (Or.inl rfl) (pe_tup (StX.pa_star (pv 3) (pa_cons (pv 6) pa_nil))))))))))
    (pss_one (ps_ret (pv 3))))))), ?_⟩
  refine ⟨_, rfl, ⟨_, rfl⟩, txR r, sp1, rfl, rfl, by decide +kernel, small_line (by have := hln.len; omega), ?_⟩
  rw [hsplit, hdR_eq]
  intro pl npl
  have g1 := same_new npl (.lst ((r.word :: (asR r).map Atom.t).map V.str))
  refine ⟨_, es, n, rfl, kd, _, rfl, pl, _, 0, _, rfl, rfl, SqL.of upd_same, at_0 _ _, r.word, _, rfl, T.parts _ hp, ?_⟩
  have lsh : (⟨((asR r).map kindA).toArray⟩ : Str).length = (asR r).length := by rw [len_tl, tl_mk, List.length_map]
  refine ⟨_, rfl, rfl, _, rfl, ?_⟩
  rw [decide_eq_false (fun e => by
    have e : (⟨((asR r).map kindA).toArray⟩ : Str) = Str.ofString "" := by injection e
    rw [e] at lsh
    have : (Str.ofString "").length = 0 := by decide +kernel
    omega)]
  refine iteF ⟨_, rfl, pl, _, rfl, .inl (SqL.of upd_same), _, rfl, _, rfl, small_line (by rw [lsh]; omega), _, _, rfl, rfl, rfl, _, rfl, ?_⟩
  rw [decide_eq_true (by rw [lsh, List.length_map, List.length_cons, List.length_map] <;> rfl)]
  refine iteF ⟨_, rfl, pl, _, 0, _, rfl, rfl, SqL.of upd_same, at_0 _ _, (by show 1 ≤ sizeLine; decide), fun t0 n0 => ?_⟩
  have g2 := g1.trans (same_new n0 (.tup [.str r.word]))
  refine ⟨_, rfl, _, rfl, 1, rfl, pl, _, rfl, SqL.of (same_new n0 _ _ _ upd_same), fun tl1 n1 => ?_⟩
  rw [show cutV ((r.word :: (asR r).map Atom.t).map V.str) (some 1) none = ((asR r).map Atom.t).map V.str from cut_tail _ _]
  have g3 := g2.trans (same_new n1 (.lst (((asR r).map Atom.t).map V.str)))
  have t01 : t0 ≠ tl1 := fun e => by rw [← e, upd_same] at n1; cases n1
  refine ⟨_, tl1, _, rfl, SqL.of upd_same, for_it (walk_zipS (f := false) (n := (asR r).length) (lsh) (by rw [List.length_map, List.length_map])) (fun i σ H' => (∃ t v4 v5 v6, σ = [some (.str (txR r)), some (.ref pl), some (.str ⟨((asR r).map kindA).toArray⟩), some (.ref t), v4, v5, v6] ∧ SqT K H' t (.str r.word :: ((asR r).take i).map Atom.v)) ∧ Same H H' ∧ H' tl1 = some (.lst (((asR r).map Atom.t).map V.str)))
    ⟨⟨t0, _, _, _, rfl, SqT.of (by rw [upd_ne t01]; exact upd_same)⟩, g3, upd_same⟩ (fun i σ H' _ z => SqL.of z.2.2) ?_ ?_⟩
  · rintro i y σ H2 H3 hi ⟨⟨t, v4, v5, v6, rfl, ht⟩, g, e1⟩ ⟨tt, c', y, rfl, nt, rfl, hc, hy⟩
    obtain ⟨c, hc1, rfl⟩ := Option.map_eq_some_iff.mp hc
    obtain ⟨z, hz, rfl⟩ := map_get hy
    obtain ⟨a, ha, rfl⟩ := map_get hz
    have hc2 : ((asR r).map kindA)[i]? = some c := by rw [← Array.getElem?_toList] at hc1; exact hc1
    have ec : c = kindA a := by
      rw [List.getElem?_map, ha] at hc2
      exact (Option.some.inj hc2).symm
    subst ec
    have aok := hat a (List.mem_of_getElem? ha)
    have gt := same_new nt (.tup [.str ⟨#[kindA a]⟩, .str a.t])
    have llen : ((asR r).take i).length ≤ 4 := by rw [List.length_take]; omega
    refine ⟨tt, _, rfl, SqT.of upd_same, rfl, _, _, rfl, _, _, rfl, rfl, ?_⟩
    refine ⟨_, rfl, rfl, _, rfl, ?_⟩
    cases a with
    | s x =>
      rw [show decide (V.str ⟨#[kindA (Atom.s x)]⟩ = V.str (Str.ofString "w")) = true from decide_eq_true (congrArg V.str (by decide +kernel : (⟨#[119]⟩ : Str) = Str.ofString "w"))]
      refine iteT ⟨_, rfl, x, rfl, aok, true, rfl, iteF ?_⟩
      refine ⟨_, rfl, t, _, rfl, .inl (sqT_same gt ht), _, rfl, ?_, fun t2 n2 => ?_⟩
      · simp only [List.length_append, List.length_cons, List.length_map, List.length_nil]
        exact small_line (by omega)
      · refine ⟨⟨t2, _, _, _, rfl, SqT.of ?_⟩, g.trans (gt.trans (same_new n2 _)), same_new n2 _ _ _ (gt _ _ e1)⟩
        rw [upd_same, take_get ha, List.map_append] <;> rfl
    | n k =>
      rw [show decide (V.str ⟨#[kindA (Atom.n k)]⟩ = V.str (Str.ofString "w")) = false from decide_eq_false (fun e => absurd (show (⟨#[110]⟩ : Str) = Str.ofString "w" by injection e) (by decide +kernel))]
      refine iteF ⟨_, rfl, k, rfl, aok, fun H4 g4 => ?_⟩
      refine ⟨_, rfl, rfl, _, rfl, ?_⟩
      rw [decide_eq_false (fun e => by cases e)]
      refine iteF ⟨_, rfl, t, _, rfl, .inl (sqT_same (gt.trans g4) ht), _, rfl, ?_, fun t2 n2 => ?_⟩
      · simp only [List.length_append, List.length_cons, List.length_map, List.length_nil]
        exact small_line (by omega)
      · refine ⟨⟨t2, _, _, _, rfl, SqT.of ?_⟩, g.trans (gt.trans (g4.trans (same_new n2 _))), same_new n2 _ _ _ (g4 _ _ (gt _ _ e1))⟩
        rw [upd_same, take_get ha, List.map_append] <;> rfl
  · rintro σ H2 ⟨⟨t, v4, v5, v6, rfl, ht⟩, g, e1⟩
    rw [List.take_length] at ht
    exact ⟨_, rfl, q t H2 g ht⟩
end
end Tw

set_option Elab.async false
set_option maxRecDepth 100000
set_option maxHeartbeats 4000000
/-! E1: the reader of rows: what it holds. -/
namespace Tw
open PySem PySem.Spec L2 TL PyProof.Rows
section
variable {X : Cx}
/-- == of two lists of different lengths -/
def rEqLen (K : PySem.W.Frag) : R2 := fun x y H Q => ∃ a b xs ys, x = V.ref a ∧ y = V.ref b ∧ SqL K H a xs ∧ SqL K H b ys ∧ xs.length ≠ ys.length ∧ Q (.bl false) H
theorem op_eqLen (hu : X.A.units < cLine) : OpR X (compareOp .Eq) (rEqLen X.K) := by
  intro pins s σ H x y v u Q I rx ry h
  obtain ⟨a, b, xs, ys, rfl, rfl, ha, hb, hne, q⟩ := h
  cases rx
  cases ry
  obtain ⟨its, r, ⟨o, n, ho, hc, _, hd⟩, _⟩ := I.list ha
  obtain ⟨its2, r2, ⟨o2, n2, ho2, hc2, _, hd2⟩, _⟩ := I.list hb
  obtain ⟨cls, dd, data, sl⟩ := o
  obtain ⟨cls2, dd2, data2, sl2⟩ := o2
  simp only at hc hd hc2 hd2
  subst hc hd hc2 hd2
  have hsz : (its.toArray.size != its2.toArray.size) = true := by
    rw [List.size_toArray, List.size_toArray, ← r.length, ← r2.length]
    exact bne_iff_ne.mpr hne
  have ta : s.TypeIs (.ref a) "list" := ⟨_, ho, rfl⟩
  have tb : s.TypeIs (.ref b) "list" := ⟨_, ho2, rfl⟩
  show wpAny (model X.prog X.w) X.A (richCompare .Eq (.ref a) (.ref b)) _ _ s
  refine wpAny_richCompare_same_room (op := .Eq) ta tb PySem.F.slot_list_eq (call_meets PySem.F.slot_list_eq ta PySem.F.entry_list_eq (PySem.F.args_list_eq_2 _ _) (SeqAt.list_eq_lengthsAt a b its.toArray its2.toArray n n2 dd dd2 sl sl2 hsz)
    ⟨ho, ho2, show Value.bool false ≠ Value.notImplemented ∧ EP X pins σ Q (.bool false) s from ⟨(fun x => nomatch x), ⟨.bl false, H, I, rfl, q⟩⟩⟩) hu
end
abbrev cR (K : PySem.W.Frag) : Addr := He.ga K "RowReader"
def rF (b u : Addr) : List (Str × V) := [("blocks", .ref b), ("unfinished", .ref u)]
theorem rF_blocks (b u : Addr) : (rF b u).lookup ("blocks" : Str) = some (V.ref b) := by kernel_rfl
theorem rF_unfinished (b u : Addr) : (rF b u).lookup ("unfinished" : Str) = some (V.ref u) := by kernel_rfl
theorem rF_m1 (b u : Addr) : (rF b u).lookup ("level_allowed" : Str) = none := by kernel_rfl
theorem rF_m2 (b u : Addr) : (rF b u).lookup ("close_to" : Str) = none := by kernel_rfl
theorem rF_m3 (b u : Addr) : (rF b u).lookup ("take" : Str) = none := by kernel_rfl
theorem rF_m4 (b u : Addr) : (rF b u).lookup ("is_complete" : Str) = none := by kernel_rfl
theorem rF_mk (b u : Addr) : putF ("unfinished" : Str) (V.ref u) (putF ("blocks" : Str) (V.ref b) []) = rF b u := by kernel_rfl
/-! ### the model -/
structure Fr where
  w : Str
  vs : List Str
  first : Option (List Row)
/-- the innermost first -/
structure Rd where
  bs : List (List Row)
  us : List Fr
inductive Clo : Rd → Rd → Prop
  | refl (s : Rd) : Clo s s
  | step {bs : List (List Row)} {us : List Fr} {x cur a : List Row} {w : Str} {vs : List Str} {s' : Rd} (h : Clo ⟨(x ++ [.node w vs a cur]) :: bs, us⟩ s') : Clo ⟨cur :: x :: bs, ⟨w, vs, some a⟩ :: us⟩ s'
def wtB : List (List Row) → Nat
  | [] => 0
  | x :: r => szL x + wtB r
def wtU : List Fr → Nat
  | [] => 0
  | f :: r => 1 + szL (f.first.getD []) + wtU r
def Rd.wt (s : Rd) : Nat := wtB s.bs + wtU s.us
theorem Clo.wt {s s' : Rd} (c : Clo s s') : s'.wt = s.wt := by
  induction c with
  | refl => rfl
  | step h ih =>
    rw [ih]
    simp only [Rd.wt, wtB, wtU, szL_app, szL, szR, Option.getD_some]
    omega
theorem Clo.len {s s' : Rd} (c : Clo s s') : s'.us.length ≤ s.us.length := by
  induction c with
  | refl => exact Nat.le_refl _
  | step h ih => exact Nat.le_trans ih (Nat.le_succ _)
theorem Clo.split {s s' : Rd} (c : Clo s s') : ∃ top, s.us = top ++ s'.us ∧ ∀ f ∈ top, f.first ≠ none := by
  induction c with
  | refl => exact ⟨[], rfl, fun f h => by cases h⟩
  | step h ih =>
    obtain ⟨top, e, n⟩ := ih
    refine ⟨_ :: top, by rw [List.cons_append, ← e], fun f hf => ?_⟩
    rcases List.mem_cons.mp hf with rfl | hf
    · exact fun z => by cases z
    · exact n f hf
theorem Clo.trans {s s1 s2 : Rd} (a : Clo s s1) (b : Clo s1 s2) : Clo s s2 := by
  induction a with
  | refl => exact b
  | step h ih => exact .step (ih b)
/-! ### where it stands -/
def BlAt (K : PySem.W.Frag) (H G : Hp) (b : Addr) (rows : List Row) : Prop := ∃ xs, H b = some (.lst xs) ∧ DpAll K G xs (dL rows)
def FsAt (K : PySem.W.Frag) (G : Hp) (b : Addr) (e1 e2 : V) : Option (List Row) → Prop
  | none => e1 = .non ∧ e2 = .non
  | some a => ∃ a1, e1 = .ref a1 ∧ Dp K G (.ref a1) (.list (dL a)) ∧ e2 = .ref b
def EnAt (K : PySem.W.Frag) (H G : Hp) (t b : Addr) (f : Fr) : Prop := ∃ h e1 e2, SqT K H t [.ref h, e1, e2] ∧ SqT K H h (.str f.w :: f.vs.map V.str) ∧ f.vs.length ≤ 4 ∧ FsAt K G b e1 e2 f.first
inductive Stk (K : PySem.W.Frag) (H G : Hp) : List Addr → List Addr → List (List Row) → List Fr → Prop
  | one {b : Addr} {rows : List Row} (h : BlAt K H G b rows) : Stk K H G [b] [] [rows] []
  | push {ba ua : List Addr} {bs : List (List Row)} {us : List Fr} {b t : Addr} {rows : List Row} {f : Fr} (h : Stk K H G ba ua bs us) (hb : BlAt K H G b rows) (he : EnAt K H G t b f) : Stk K H G (b :: ba) (t :: ua) (rows :: bs) (f :: us)
section
variable {K : PySem.W.Frag} {H H' G G' : Hp} {ba ua : List Addr} {bs : List (List Row)} {us : List Fr}
theorem Stk.lens (h : Stk K H G ba ua bs us) : ba.length = ua.length + 1 ∧ us.length = ua.length := by
  induction h with
  | one => exact ⟨rfl, rfl⟩
  | push _ _ _ ih => exact ⟨by rw [List.length_cons, List.length_cons, ih.1], by rw [List.length_cons, List.length_cons, ih.2]⟩
theorem Stk.blk (h : Stk K H G ba ua bs us) : ∀ b ∈ ba, ∃ xs, H b = some (.lst xs) := by
  induction h with
  | one h =>
    intro b hb
    rw [List.mem_singleton.mp hb]
    exact ⟨_, h.choose_spec.1⟩
  | push _ hb _ ih =>
    intro b hm
    rcases List.mem_cons.mp hm with rfl | hm
    · exact ⟨_, hb.choose_spec.1⟩
    · exact ih b hm
theorem Stk.ent (h : Stk K H G ba ua bs us) : ∀ (i : Nat) (t : Addr), ua[i]? = some t → ∃ f b, us[i]? = some f ∧ EnAt K H G t b f := by
  induction h with
  | one => intro i t e; simp at e
  | @push ba ua bs us b t' rows f _ _ he ih =>
    intro i t e
    cases i with
    | zero =>
      simp at e
      subst e
      exact ⟨_, _, rfl, he⟩
    | succ i =>
      obtain ⟨f', b', e1, h1⟩ := ih i t (by simpa using e)
      exact ⟨f', b', by simpa using e1, h1⟩
theorem sqT_keptM {M : List Addr} (hM : Lsts M H) (k : Kept M H H') {a : Addr} {xs : List V} (s : SqT K H a xs) : SqT K H' a xs := by
  have n : ∀ {o}, H a = some o → (∀ ys, o ≠ .lst ys) → a ∉ M := fun e h hm => by
    obtain ⟨ys, q⟩ := hM a hm
    rw [e] at q
    exact h ys (Option.some.inj q)
  rcases s with (s | ⟨o, s⟩) | s
  · exact .inl (.inl (k _ _ s (n s fun ys z => by cases z)))
  · exact .inl (.inr ⟨o, k _ _ s (n s fun ys z => by cases z)⟩)
  · exact .inr s
theorem EnAt.move {M : List Addr} {t b : Addr} {f : Fr} (h : EnAt K H G t b f) (hM : Lsts M H) (k : Kept M H H') (g : Same G G') : EnAt K H' G' t b f := by
  obtain ⟨h1, e1, e2, a, c, l, d⟩ := h
  refine ⟨h1, e1, e2, sqT_keptM hM k a, sqT_keptM hM k c, l, ?_⟩
  obtain ⟨w, vs, first⟩ := f
  cases first with
  | none => exact d
  | some r =>
    obtain ⟨a1, q1, q2, q3⟩ := d
    exact ⟨a1, q1, dp_same g q2, q3⟩
theorem BlAt.move {b : Addr} {rows : List Row} (h : BlAt K H G b rows) (e : H' b = H b) (g : Same G G') : BlAt K H' G' b rows := by
  obtain ⟨xs, h1, h2⟩ := h
  exact ⟨xs, by rw [e]; exact h1, dpAll_same g h2⟩
theorem Stk.move {M : List Addr} (h : Stk K H G ba ua bs us) (hM : Lsts M H) (k : Kept M H H') (g : Same G G') : (∀ b ∈ ba, H' b = H b) → Stk K H' G' ba ua bs us := by
  induction h with
  | one h => exact fun e => .one (h.move (e _ (List.mem_singleton.mpr rfl)) g)
  | push _ hb he ih => exact fun e => .push (ih fun b hm => e b (List.mem_cons_of_mem _ hm)) (hb.move (e _ (List.mem_cons_self ..)) g) (he.move hM k g)
theorem Stk.top {b : Addr} {rows : List Row} (h : Stk K H G (b :: ba) ua (rows :: bs) us) : BlAt K H G b rows := by
  cases h with
  | one h => exact h
  | push _ hb _ => exact hb
theorem Stk.moveTop {M : List Addr} {b : Addr} {rows rows' : List Row} (h : Stk K H G (b :: ba) ua (rows :: bs) us) (hM : Lsts M H) (k : Kept M H H') (g : Same G G') (e : ∀ c ∈ ba, H' c = H c) (hb : BlAt K H' G' b rows') : Stk K H' G' (b :: ba) ua (rows' :: bs) us := by
  cases h with
  | one h => exact .one hb
  | push h _ he => exact .push (h.move hM k g e) hb (he.move hM k g)
theorem hid_step {M M' : List Addr} (k : Kept M H H') (s : ∀ b ∈ M', b ∈ M ∨ H b = none) : Same (hid M H) (hid M' H') := fun b o e => by
  by_cases hb : b ∈ M
  · rw [hid_in hb] at e; cases e
  · rw [hid_out hb] at e
    rw [hid_out fun z => by
      rcases s b z with z | z
      · exact hb z
      · rw [e] at z; cases z]
    exact k b o e hb
end
structure RdAt (K : PySem.W.Frag) (H : Hp) (p : Addr) (M : List Addr) (s : Rd) : Prop where
  ex : ∃ dx bl ul ba ua, M = bl :: ul :: ba ∧ M.Nodup ∧ H p = some (.ins (cR K) dx (rF bl ul)) ∧ H bl = some (.lst (ba.reverse.map V.ref)) ∧ H ul = some (.lst (ua.reverse.map V.ref)) ∧ Stk K H (hid M H) ba ua s.bs s.us
theorem RdAt.lsts {K : PySem.W.Frag} {H : Hp} {p : Addr} {M : List Addr} {s : Rd} (h : RdAt K H p M s) : Lsts M H := by
  obtain ⟨dx, bl, ul, ba, ua, rfl, _, _, h1, h2, h3⟩ := h.ex
  intro b hb
  rcases List.mem_cons.mp hb with rfl | hb
  · exact ⟨_, h1⟩
  · rcases List.mem_cons.mp hb with rfl | hb
    · exact ⟨_, h2⟩
    · exact h3.blk b hb
/-- nothing of it has changed -/
theorem RdAt.same {K : PySem.W.Frag} {H H' : Hp} {p : Addr} {M : List Addr} {s : Rd} (h : RdAt K H p M s) (g : Same H H') : RdAt K H' p M s := by
  have hM := h.lsts
  obtain ⟨dx, bl, ul, ba, ua, rfl, nd, h0, h1, h2, h3⟩ := h.ex
  refine ⟨dx, bl, ul, ba, ua, rfl, nd, g _ _ h0, g _ _ h1, g _ _ h2, h3.move hM (Kept.of g) (hid_same g) fun b hb => ?_⟩
  obtain ⟨xs, e⟩ := h3.blk b hb
  rw [g _ _ e, e]
end Tw

set_option Elab.async false
set_option maxRecDepth 100000
set_option maxHeartbeats 4000000
/-! E2: close_to, __init__, is_complete. -/
namespace Tw
open PySem PySem.Spec L2 TL PyProof.Rows
theorem at_mid (xs : List V) (x y : V) {n : Nat} (h : xs.length = n) : atI (xs ++ [x] ++ [y]) (n : Int) = some x := by
  refine atI_nat ?_
  rw [List.append_assoc, List.getElem?_append_right (by omega), ← h, Nat.sub_self] <;> rfl
theorem at_end (xs : List V) (x : V) {n : Nat} (h : xs.length = n) : atI (xs ++ [x]) (n : Int) = some x := by
  refine atI_nat ?_
  rw [List.getElem?_append_right (by omega), ← h, Nat.sub_self] <;> rfl
theorem dropLast_snoc (xs : List V) (x : V) : (xs ++ [x]).dropLast = xs := List.dropLast_concat
theorem last_snoc (xs : List V) (x : V) : (xs ++ [x])[(xs ++ [x]).length - 1]? = some x := by
  rw [List.length_append, List.length_singleton, Nat.add_sub_cancel, List.getElem?_append_right (Nat.le_refl _), Nat.sub_self] <;> rfl
theorem top_small {s : Rd} {x : List Row} {bs : List (List Row)} (e : s.bs = x :: bs) : x.length ≤ s.wt := by
  have := len_le_szL x
  unfold Rd.wt
  rw [e, wtB]
  omega
section
variable {P : Program} {w : World} {K : PySem.W.Frag} {mg : Str → Option Value} {base : Heap}
def sp_close_to (K : PySem.W.Frag) : Sp := fun vs H Q _ => ∃ (p : Addr) (M : List Addr) (s s' : Rd) (L : Nat), vs = [.ref p, .int L] ∧ RdAt K H p M s ∧ Clo s s' ∧ s'.us.length = L ∧ s.wt ≤ 500 ∧
  ∀ (M' : List Addr) (H' : Hp), RdAt K H' p M' s' → Kept M H H' → (∀ b ∈ M', b ∈ M) → Q .non H'
theorem sc_close_to : FnScope ["self", "level", "entry"] ["self", "level"] (defScope s_R_close_to) := ⟨rfl, rfl, rfl, by decide +kernel, rfl, by decide +kernel, by decide +kernel⟩
theorem m_close_to (T : Txt w K mg) : Mal P w K mg base "RowReader" "close_to" 1 ["self", "level"] (sp_close_to K) := by
  refine T.d_R_close_to.cal sc_close_to (fun _ _ _ _ _ _ us hl => match us, hl with | [_, _], _ => rfl) (fun vs H Q E h => by obtain ⟨p, M, s, s', L, rfl, _⟩ := h; rfl) (fun f cdv A outer s H vs Q E hr h => ?_)
  obtain ⟨p, M, s, s', L, rfl, hR, hC, hL, hwt, q⟩ := h
  have nd := sc_close_to.nd
  refine ⟨_, pss_one (ps_while PassesOwn.never (pt_cmpR op_gt (pe_callB call_len_seq (by rfl) T.b_len PySem.boot_len (pa_cons (pe_fld (pv 0) rfl) pa_nil)) (pv 1) (nomark _))
    (pss_cons (ps_set (i := 2) nd rfl (Or.inl rfl) (pe_bm0 PySem.F.plainAttrs_list PySem.F.slot_list_pop PySem.F.type_list_pop mt_pop (pe_fld (pv 0) rfl)))
    (pss_cons (ps_expr (pe_bm PySem.F.plainAttrs_list PySem.F.slot_list_append PySem.F.type_list_append mt_append (pe_ix ix_list (pe_fld (pv 0) rfl) (pe_callB call_len_seq (by rfl) T.b_len PySem.boot_len (pa_cons (pe_fld (pv 0) rfl) pa_nil)) (fun _ _ => rfl))
        (pa_cons (pe_tup (StX.pa_star (pe_ix ix_tup (pv 2) pe_int (fun _ _ => rfl)) (pa_cons (pe_ix ix_tup (pv 2) pe_int (fun _ _ => rfl)) (pa_cons (pe_ix ix_tup (pv 2) pe_int (fun _ _ => rfl)) pa_nil)))) pa_nil)))
    (pss_one (ps_expr (pe_bm0 PySem.F.plainAttrs_list PySem.F.slot_list_pop PySem.F.type_list_pop mt_pop (pe_fld (pv 0) rfl))))))), ?_⟩
  refine ⟨fun m σ H' => ∃ (v : Option V) (M1 : List Addr) (s1 : Rd), σ = [some (.ref p), some (.int L), v] ∧ m = s1.us.length ∧ RdAt K H' p M1 s1 ∧ Clo s1 s' ∧ s1.wt ≤ 500 ∧ Kept M H H' ∧ ∀ b ∈ M1, b ∈ M, ⟨_, none, M, s, rfl, rfl, hR, hC, hwt, Kept.refl _ _, fun b h => h⟩, ?_⟩
  rintro m σ H1 ⟨v, M1, s1, rfl, rfl, hR1, hC1, hw1, k1, sub1⟩
  have hM1 := hR1.lsts
  obtain ⟨dx, bl, ul, ba, ua, rfl, ndM, h0, hbl, hul, hst⟩ := hR1.ex
  have lens := hst.lens
  refine ⟨_, rfl, p, _, dx, _, _, rfl, h0, T.cl_RowReader, T.n_unfinished, rF_unfinished _ _, ul, _, rfl, .inl (SqL.of hul), _, rfl, _, _, rfl, rfl, _, rfl, ?_⟩
  rw [List.length_map, List.length_reverse]
  cases hC1 with
  | refl =>
    rw [decide_eq_false (by rw [← hL, lens.2]; omega)]
    exact q _ H1 hR1 k1 sub1
  | @step bs us x cur a w' vs' _ hc =>
    have hlen := hc.len
    have hcl : L ≤ us.length := by rw [← hL]; exact hlen
    have hul2 : us.length + 1 = ua.length := lens.2
    rw [decide_eq_true (by omega)]
    cases hst with
    | @push ba1 ua1 _ _ bc t _ _ hin hbc hent =>
      have hin' := hin
      obtain ⟨bx, ba2, rfl⟩ : ∃ bx ba2, ba1 = bx :: ba2 := by
        cases hin with
        | one => exact ⟨_, _, rfl⟩
        | push => exact ⟨_, _, rfl⟩
      obtain ⟨xs, hbx, dxs⟩ := hin'.top
      obtain ⟨xc, hbc1, dxc⟩ := hbc
      obtain ⟨hd, e1, e2, ht, hh, hv4, a1, rfl, da, rfl⟩ := hent
      have lba : ba2.length = ua1.length := by have := hin'.lens.1; rw [List.length_cons] at this; omega
      simp only [List.nodup_cons, List.mem_cons, not_or] at ndM
      obtain ⟨⟨n1, n2, n3, n4⟩, ⟨n5, n6, n7⟩, ⟨n8, n9⟩, n10, n11⟩ := ndM
      have hul : H1 ul = some (.lst (ua1.reverse.map V.ref ++ [V.ref t])) := by
        rw [List.reverse_cons, List.map_append] at hul
        exact hul
      have hbl : H1 bl = some (.lst (ba2.reverse.map V.ref ++ [V.ref bx] ++ [V.ref bc])) := by
        rw [List.reverse_cons, List.map_append, List.reverse_cons, List.map_append] at hbl
        exact hbl
      refine ⟨fun σ' H' => ∃ (v : Option V) (M1 : List Addr) (s1 : Rd), σ' = [some (.ref p), some (.int L), v] ∧ s1.us.length < us.length + 1 ∧ RdAt K H' p M1 s1 ∧ Clo s1 s' ∧ s1.wt ≤ 500 ∧ Kept M H H' ∧ ∀ b ∈ M1, b ∈ M, ?_, ?_⟩
      · rintro σ' H' ⟨v, M1, s1, rfl, lt, r1, r2, r3, r4, r5⟩
        exact ⟨_, lt, v, M1, s1, rfl, rfl, r1, r2, r3, r4, r5⟩
      refine ⟨_, rfl, p, _, dx, _, _, rfl, h0, T.cl_RowReader, T.n_unfinished, rF_unfinished _ _, .inl ⟨rfl, _, SqL.of hul⟩, ul, _, _, rfl, rfl, hul, last_snoc _ _, ?_⟩
      rw [dropLast_snoc]
      have u1 : ∀ b, b ≠ ul → ∀ o, upd H1 ul o b = H1 b := fun b hb o => upd_ne hb
      have d0 : p ≠ ul := fun e => by rw [e, hul] at h0; cases h0
      have d1 : p ≠ bl := fun e => by rw [e, hbl] at h0; cases h0
      have d2 : p ≠ bx := fun e => by rw [e, hbx] at h0; cases h0
      have tul : ∀ {a : Addr} {ys : List V}, SqT K H1 a ys → ∀ {b : Addr} {xs ys' : List V}, H1 b = some (.lst xs) → SqT K (upd H1 b (.lst ys')) a ys := fun h b _ _ e => sqT_updL e h
      refine ⟨_, rfl, p, _, dx, _, _, rfl, (by rw [upd_ne d0]; exact h0), T.cl_RowReader, T.n_blocks, rF_blocks _ _, _, rfl, p, _, dx, _, _, rfl, (by rw [upd_ne d0]; exact h0), T.cl_RowReader, T.n_unfinished, rF_unfinished _ _, ul, _, rfl, .inl (SqL.of upd_same), bl, _, _, _, rfl, rfl,
        SqL.of (by rw [upd_ne n1]; exact hbl), at_mid (ba2.reverse.map V.ref) (V.ref bx) (V.ref bc) (by simp [lba]), .inl ⟨rfl, _, SqL.of (by rw [upd_ne (Ne.symm n6)]; exact hbx)⟩, ?_⟩
      have ht1 : SqT K (upd H1 ul (.lst (ua1.reverse.map V.ref))) t [.ref hd, .ref a1, .ref bc] := sqT_updL hul ht
      have hh1 : SqT K (upd H1 ul (.lst (ua1.reverse.map V.ref))) hd (.str w' :: vs'.map V.str) := sqT_updL hul hh
      refine ⟨_, rfl, t, _, 0, _, rfl, rfl, ht1, at_0 _ _, hd, _, rfl, .inl hh1, _, rfl, t, _, 1, _, rfl, rfl, ht1, rfl, _, rfl, t, _, 2, _, rfl, rfl, ht1, rfl, ?_, fun tt ntt => ?_⟩
      · simp only [List.length_append, List.length_cons, List.length_map, List.length_nil]
        have : vs'.length ≤ 4 := hv4
        exact small_line (by omega)
      have ntt1 : H1 tt = none := by
        by_cases e : tt = ul
        · rw [e, upd_same] at ntt; cases ntt
        · rw [upd_ne e] at ntt; exact ntt
      have tul : tt ≠ ul := fun e => by rw [e, hul] at ntt1; cases ntt1
      have tbl : tt ≠ bl := fun e => by rw [e, hbl] at ntt1; cases ntt1
      have tbx : tt ≠ bx := fun e => by rw [e, hbx] at ntt1; cases ntt1
      have tbc : tt ≠ bc := fun e => by rw [e, hbc1] at ntt1; cases ntt1
      have tp : tt ≠ p := fun e => by rw [e, h0] at ntt1; cases ntt1
      have hsx : x.length ≤ 500 := Nat.le_trans (by
        have := len_le_szL x
        show x.length ≤ wtB (cur :: x :: bs) + wtU _
        rw [wtB, wtB]
        omega) hw1
      have lxs : xs.length = x.length := by rw [dA_len dxs, dL_length]
      refine ⟨bx, xs, _, rfl, rfl, by rw [upd_ne (Ne.symm tbx), upd_ne (Ne.symm n6)]; exact hbx, small1000 (by omega), ?_⟩
      refine ⟨_, rfl, p, _, dx, _, _, rfl, by rw [upd_ne d2, upd_ne (Ne.symm tp), upd_ne d0]; exact h0, T.cl_RowReader, T.n_blocks, rF_blocks _ _, .inl ⟨rfl, _, SqL.of (by rw [upd_ne n3, upd_ne (Ne.symm tbl), upd_ne n1]; exact hbl)⟩, bl, _, _, rfl, rfl,
        by rw [upd_ne n3, upd_ne (Ne.symm tbl), upd_ne n1]; exact hbl, last_snoc _ _, ?_⟩
      rw [dropLast_snoc]
      have hat : ∀ b, b ≠ bl → b ≠ bx → b ≠ tt → b ≠ ul → (upd (upd (upd (upd H1 ul (.lst (ua1.reverse.map V.ref))) tt (.tup ((V.str w' :: vs'.map V.str) ++ [.ref a1, .ref bc]))) bx (.lst (xs ++ [.ref tt]))) bl (.lst (ba2.reverse.map V.ref ++ [V.ref bx]))) b = H1 b := fun b h1 h2 h3 h4 => by
        rw [upd_ne h1, upd_ne h2, upd_ne h3, upd_ne h4]
      have hbl3 : (upd (upd (upd (upd H1 ul (.lst (ua1.reverse.map V.ref))) tt (.tup ((V.str w' :: vs'.map V.str) ++ [.ref a1, .ref bc]))) bx (.lst (xs ++ [.ref tt]))) bl (.lst (ba2.reverse.map V.ref ++ [V.ref bx]))) bl = some (.lst (ba2.reverse.map V.ref ++ [V.ref bx])) := upd_same
      have hbx3 : (upd (upd (upd (upd H1 ul (.lst (ua1.reverse.map V.ref))) tt (.tup ((V.str w' :: vs'.map V.str) ++ [.ref a1, .ref bc]))) bx (.lst (xs ++ [.ref tt]))) bl (.lst (ba2.reverse.map V.ref ++ [V.ref bx]))) bx = some (.lst (xs ++ [.ref tt])) := by rw [upd_ne (Ne.symm n3), upd_same]
      have htt3 : (upd (upd (upd (upd H1 ul (.lst (ua1.reverse.map V.ref))) tt (.tup ((V.str w' :: vs'.map V.str) ++ [.ref a1, .ref bc]))) bx (.lst (xs ++ [.ref tt]))) bl (.lst (ba2.reverse.map V.ref ++ [V.ref bx]))) tt = some (.tup ((V.str w' :: vs'.map V.str) ++ [.ref a1, .ref bc])) := by rw [upd_ne tbl, upd_ne tbx, upd_same]
      have hul3 : (upd (upd (upd (upd H1 ul (.lst (ua1.reverse.map V.ref))) tt (.tup ((V.str w' :: vs'.map V.str) ++ [.ref a1, .ref bc]))) bx (.lst (xs ++ [.ref tt]))) bl (.lst (ba2.reverse.map V.ref ++ [V.ref bx]))) ul = some (.lst (ua1.reverse.map V.ref)) := by rw [upd_ne (Ne.symm n1), upd_ne n6, upd_ne (Ne.symm tul), upd_same]
      revert hat hbl3 hbx3 htt3 hul3
      generalize (upd (upd (upd (upd H1 ul (.lst (ua1.reverse.map V.ref))) tt (.tup ((V.str w' :: vs'.map V.str) ++ [.ref a1, .ref bc]))) bx (.lst (xs ++ [.ref tt]))) bl (.lst (ba2.reverse.map V.ref ++ [V.ref bx]))) = H3
      intro hat hbl3 hbx3 htt3 hul3
      have kp : Kept (bl :: ul :: bc :: bx :: ba2) H1 H3 := fun b o e hb => by
        simp only [List.mem_cons, not_or] at hb
        rw [hat b hb.1 hb.2.2.2.1 (fun z => by rw [z, ntt1] at e; cases e) hb.2.1]
        exact e
      have hbc3 : H3 bc = some (.lst xc) := by rw [hat bc (Ne.symm n2) n8 (Ne.symm tbc) (Ne.symm n5)]; exact hbc1
      have gs : Same (hid (bl :: ul :: bc :: bx :: ba2) H1) (hid (bl :: ul :: bx :: ba2) H3) := hid_step kp fun b hb => .inl (by
        simp only [List.mem_cons] at hb ⊢
        rcases hb with hb | hb | hb | hb
        · exact .inl hb
        · exact .inr (.inl hb)
        · exact .inr (.inr (.inr (.inl hb)))
        · exact .inr (.inr (.inr (.inr hb))))
      have bl2 : ∀ b ∈ ba2, H3 b = H1 b := fun b hb => by
        obtain ⟨ys, e⟩ := hin'.blk b (List.mem_cons_of_mem _ hb)
        exact hat b (fun z => n4 (by rw [← z]; exact hb)) (fun z => n10 (by rw [← z]; exact hb)) (fun z => by rw [z, ntt1] at e; cases e) (fun z => n7 (by rw [← z]; exact hb))
      have lst3 : Lsts (bl :: ul :: bx :: ba2) H3 := fun b hb => by
        simp only [List.mem_cons] at hb
        rcases hb with rfl | rfl | rfl | hb
        · exact ⟨_, hbl3⟩
        · exact ⟨_, hul3⟩
        · exact ⟨_, hbx3⟩
        · obtain ⟨ys, e⟩ := hin'.blk b (List.mem_cons_of_mem _ hb)
          exact ⟨ys, by rw [bl2 b hb]; exact e⟩
      obtain ⟨xa, ha1, dxa⟩ : ∃ xa, SqL K (hid (bl :: ul :: bc :: bx :: ba2) H1) a1 xa ∧ DpAll K (hid (bl :: ul :: bc :: bx :: ba2) H1) xa (dL a) := by
        cases da with
        | lst a b => exact ⟨_, a, b⟩
      have dnode : Dp K (hid (bl :: ul :: bx :: ba2) H3) (.ref tt) (dR (.node w' vs' a cur)) :=
        node_mk (p := a1) (q := bc) (xs := xa) (ys := xc) (sqT_hid lst3 (SqT.of htt3)) (sqL_same gs ha1) (dpAll_same gs dxa) (sqL_hid (by simp only [List.mem_cons, not_or]; exact ⟨Ne.symm n2, Ne.symm n5, n8, n9⟩) hbc3) (dpAll_same gs dxc)
      have e9 : szL (x ++ [.node w' vs' a cur]) = szL x + (1 + (szL a + szL cur)) := by rw [szL_app, szL, szL, szR] <;> rfl
      refine ⟨_, bl :: ul :: bx :: ba2, _, rfl, Nat.lt_succ_self _, ⟨dx, bl, ul, bx :: ba2, ua1, rfl, ?_, ?_, by rw [List.reverse_cons, List.map_append]; exact hbl3, hul3, ?_⟩, hc, ?_, ?_, ?_⟩
      · simp only [List.nodup_cons, List.mem_cons, not_or]
        exact ⟨⟨n1, n3, n4⟩, ⟨n6, n7⟩, n10, n11⟩
      · rw [hat p d1 d2 (Ne.symm tp) d0]
        exact h0
      · exact hin'.moveTop hM1 kp gs bl2 ⟨_, hbx3, by rw [dL_append, dL, dL]; exact dA_snoc (dpAll_same gs dxs) dnode⟩
      · rw [← (Clo.step (.refl _) : Clo ⟨cur :: x :: bs, ⟨w', vs', some a⟩ :: us⟩ _).wt] at hw1
        exact hw1
      · exact k1.trans (kp.mono sub1)
      · intro b hb
        refine sub1 b ?_
        simp only [List.mem_cons] at hb ⊢
        rcases hb with hb | hb | hb | hb
        · exact .inl hb
        · exact .inr (.inl hb)
        · exact .inr (.inr (.inr (.inl hb)))
        · exact .inr (.inr (.inr (.inr hb)))
end
end Tw

set_option Elab.async false
set_option maxRecDepth 100000
set_option maxHeartbeats 4000000
/-! E3: __init__, is_complete, level_allowed. -/
namespace Tw
open PySem PySem.Spec L2 TL PyProof.Rows
def rd0 : Rd := ⟨[[]], []⟩
/-- all entries at hand have their first branch -/
theorem first_ne {K : PySem.W.Frag} {H G : Hp} {t b : Addr} {f : Fr} (h : EnAt K H G t b f) : ∃ x e1 e2, SqT K H t [x, e1, e2] ∧ decide (e1 = V.non) = decide (f.first = none) := by
  obtain ⟨hd, e1, e2, a, _, _, d⟩ := h
  refine ⟨_, e1, e2, a, ?_⟩
  obtain ⟨w, vs, first⟩ := f
  cases first with
  | none => rw [d.1] <;> rfl
  | some r =>
    obtain ⟨a1, q1, _⟩ := d
    rw [q1]
    exact (decide_eq_false (fun z => by cases z)).trans (decide_eq_false (fun z => by cases z)).symm
section
variable {P : Program} {w : World} {K : PySem.W.Frag} {mg : Str → Option Value} {base : Heap}
def sp_R_init (K : PySem.W.Frag) : Sp := fun vs H Q _ => ∃ (p dx : Addr), vs = [.ref p] ∧ H p = some (.ins (cR K) dx []) ∧
  ∀ (M : List Addr) (H' : Hp), Kept [p] H H' → RdAt K H' p M rd0 → (∀ b ∈ M, H b = none) → Q .non H'
theorem sc_R_init : FnScope ["self"] ["self"] (defScope s_R_init__) := ⟨rfl, rfl, rfl, by decide +kernel, rfl, by decide +kernel, by decide +kernel⟩
theorem m_R_init (T : Txt w K mg) : Mal P w K mg base "RowReader" "__init__" 1 ["self"] (sp_R_init K) := by
  refine T.d_R_init__.cal sc_R_init (fun _ _ _ _ _ _ us hl => match us, hl with | [_], _ => rfl) (fun vs H Q E h => by obtain ⟨p, dx, rfl, _⟩ := h; rfl) (fun f cdv A outer s H vs Q E hr h => ?_)
  obtain ⟨p, dx, rfl, hp, q⟩ := h
  refine ⟨_, pss_cons (ps_fld (pv 0) (pe_lst (pa_cons (pe_lst pa_nil) pa_nil)) rfl) (pss_one (ps_fld (pv 0) (pe_lst pa_nil) rfl)), ?_⟩
  refine ⟨Nat.zero_le _, fun b nb => ⟨(by show 1 ≤ sizeLine; decide), fun bl nbl => ⟨_, rfl, p, _, dx, _, rfl, same_new nbl _ _ _ (same_new nb _ _ _ hp), T.cl_RowReader, T.n_blocks, by decide, ?_⟩⟩⟩
  have nbl0 : bl ≠ b := fun e => by rw [e, upd_same] at nbl; cases nbl
  have pb : p ≠ b := fun e => by rw [e, nb] at hp; cases hp
  have nblH : H bl = none := by rw [upd_ne nbl0] at nbl; exact nbl
  have pbl : p ≠ bl := fun e => by rw [e, nblH] at hp; cases hp
  refine ⟨Nat.zero_le _, fun ul nul => ⟨_, rfl, p, _, dx, _, rfl, same_new nul _ _ _ upd_same, T.cl_RowReader, T.n_unfinished, by show 1 < 1000; decide, ?_⟩⟩
  rw [rF_mk]
  have pul : ul ≠ p := fun e => by rw [e, upd_same] at nul; cases nul
  rw [upd_ne pul] at nul
  have ubl : ul ≠ bl := fun e => by rw [e, upd_same] at nul; cases nul
  rw [upd_ne ubl] at nul
  have ub : ul ≠ b := fun e => by rw [e, upd_same] at nul; cases nul
  rw [upd_ne ub] at nul
  refine q [bl, ul, b] _ ?_ ⟨dx, bl, ul, [b], [], rfl, ?_, upd_same, ?_, ?_, .one ⟨[], ?_, .nil⟩⟩ ?_
  · exact ((((Kept.of (same_new nb _)).trans (Kept.of (same_new (by rw [upd_ne nbl0]; exact nblH) _))).trans (Kept.upd (List.mem_singleton.mpr rfl))).trans (Kept.of (same_new (by rw [upd_ne pul, upd_ne ubl, upd_ne ub]; exact nul) _))).trans (Kept.upd (List.mem_singleton.mpr rfl))
  · simp [Ne.symm ubl, nbl0, ub]
  · rw [upd_ne (Ne.symm pbl), upd_ne (Ne.symm ubl), upd_ne (Ne.symm pbl), upd_same] <;> rfl
  · rw [upd_ne pul, upd_same] <;> rfl
  · rw [upd_ne (Ne.symm pb), upd_ne (Ne.symm ub), upd_ne (Ne.symm pb), upd_ne (Ne.symm nbl0), upd_same]
  · intro c hc
    simp only [List.mem_cons, List.not_mem_nil, or_false] at hc
    rcases hc with rfl | rfl | rfl
    · exact nblH
    · exact nul
    · exact nb
/-! is_complete -/
def sp_is_complete (K : PySem.W.Frag) : Sp := fun vs H Q _ => ∃ (p : Addr) (M : List Addr) (s : Rd), vs = [.ref p] ∧ RdAt K H p M s ∧ s.us.length ≤ 900 ∧ (∀ f ∈ s.us, f.first ≠ none) ∧ ∀ H', Same H H' → Q (.bl true) H'
theorem sc_is_complete : FnScope ["self", "entry"] ["self"] (defScope s_R_is_complete) := ⟨rfl, rfl, rfl, by decide +kernel, rfl, by decide +kernel, by decide +kernel⟩
theorem m_is_complete (T : Txt w K mg) : Mal P w K mg base "RowReader" "is_complete" 1 ["self"] (sp_is_complete K) := by
  refine T.d_R_is_complete.cal sc_is_complete (fun _ _ _ _ _ _ us hl => match us, hl with | [_], _ => rfl) (fun vs H Q E h => by obtain ⟨p, M, s, rfl, _⟩ := h; rfl) (fun f cdv A outer s0 H vs Q E hr h => ?_)
  obtain ⟨p, M, s, rfl, hR, hfew, hall, q⟩ := h
  have nd := sc_is_complete.nd
  refine ⟨_, pss_one (ps_ret (pe_callB (cr_all (by rfl)) (by rfl) T.b_all (by rfl) (pa_cons (pe_lc (own := [("entry", 1)]) (g := gName 1) (by rfl) nd (pi_list (pe_fld (pv 0) rfl))
          (blkOk_by (own := [("entry", 1)]) (N := ["self", "entry"]) (sc := defScope s_R_is_complete) (by decide +kernel))
          (fun _ _ _ _ _ => pg_name (i := 1) nd rfl (Or.inl rfl)) (fun _ _ _ _ _ => pts_nil) (fun _ _ _ _ _ => pe_cmpR op_notN (pe_ix (r := rIxT K) ix_tup (pv 1) pe_int (fun _ _ => rfl)) pe_non (by rfl))) pa_nil))), ?_⟩
  obtain ⟨dx, bl, ul, ba, ua, rfl, ndM, h0, hbl, hul, hst⟩ := hR.ex
  have lens := hst.lens
  refine ⟨_, rfl, p, _, dx, _, _, rfl, h0, T.cl_RowReader, T.n_unfinished, rF_unfinished _ _, ul, rfl, ⟨_, SqL.of hul⟩, fun D nD => ?_⟩
  refine lc_it (walk_list (K := K) (a := ul) (xs := ua.reverse.map V.ref)) (fun i H' => Same H H' ∧ H' D = some (.lst ((List.replicate i true).map V.bl)))
    ⟨same_new nD _, upd_same⟩ (fun i H' _ z => SqL.of (z.1 _ _ hul)) ?_ ?_
  · rintro i y H2 H3 hi ⟨g, hD⟩ ⟨rfl, hx⟩
    obtain ⟨t, ht, rfl⟩ := map_get hx
    obtain ⟨j, hj⟩ := List.getElem?_of_mem (List.mem_reverse.mp (List.mem_of_getElem? ht))
    obtain ⟨f, b, hf, he⟩ := hst.ent j t hj
    obtain ⟨x, e1, e2, hs, hd⟩ := first_ne he
    rw [List.length_map, List.length_reverse] at hi
    refine ⟨rfl, _, rfl, t, _, 1, _, rfl, rfl, sqT_same g hs, rfl, rfl, _, hD, by rw [List.length_map, List.length_replicate]; exact small1000 (by omega), same_upd g nD _, ?_⟩
    rw [upd_same, hd, decide_eq_false (hall f (List.mem_of_getElem? hf))]
    exact congrArg (fun z => some (HO.lst z)) (rep_snoc i)
  · rintro H2 ⟨g, hD⟩
    refine ⟨D, _, rfl, SqL.of hD, ?_⟩
    rw [all_true]
    exact q H2 g
/-! level_allowed -/
def sp_level_allowed (K : PySem.W.Frag) : Sp := fun vs H Q _ => ∃ (p : Addr) (M : List Addr) (s : Rd) (L : Nat) (e : Bool) (top rest : List Fr), vs = [.ref p, .int L, .bl e] ∧ RdAt K H p M s ∧ s.us.length ≤ 900 ∧ L ≤ 3 ∧ s.us = top ++ rest ∧ (∀ f ∈ top, f.first ≠ none) ∧
  (if e = true then ∃ f r, rest = f :: r ∧ f.first = none ∧ r.length = L else rest.length = L) ∧ ∀ H', Same H H' → Q (.bl true) H'
theorem sc_level_allowed : FnScope ["self", "level", "is_else", "closed", "entry"] ["self", "level", "is_else"] (defScope s_R_level_allowed) := ⟨rfl, rfl, rfl, by decide +kernel, rfl, by decide +kernel, by decide +kernel⟩
theorem m_level_allowed (T : Txt w K mg) : Mal P w K mg base "RowReader" "level_allowed" 1 ["self", "level", "is_else"] (sp_level_allowed K) := by
  refine T.d_R_level_allowed.cal sc_level_allowed (fun _ _ _ _ _ _ us hl => match us, hl with | [_, _, _], _ => rfl) (fun vs H Q E h => by obtain ⟨p, M, s, L, e, top, rest, rfl, _⟩ := h; rfl) (fun f cdv A outer s0 H vs Q E hr h => ?_)
  obtain ⟨p, M, s, L, e, top, rest, rfl, hR, hfew, hL3, hus, htop, hrest, q⟩ := h
  have nd := sc_level_allowed.nd
  have hu : _ < cLine := Nat.lt_of_le_of_lt (Nat.le_add_right _ 64) hr.units
  refine ⟨_, pss_cons (ps_if (PW.pt (pw_or (pt_cmpR op_gt (pv 1) (pe_callB call_len_seq (by rfl) T.b_len PySem.boot_len (pa_cons (pe_fld (pv 0) rfl) pa_nil)) (nomark _)) (pw_or1 (pt_cmpR op_gt (pv 1) (pe_gI T.c_MOST_LEVEL) (nomark _))))) (pss_one ps_never) pss_nil)
    (pss_cons (ps_set (i := 3) nd rfl (Or.inl rfl) (pe_slice sl_list (pe_fld (pv 0) rfl) (po_some (pv 1)) po_none))
    (pss_cons (ps_if (pt_not (pt_val (pv 2))) (pss_one (ps_ret (pe_callB (cr_all (by rfl)) (by rfl) T.b_all (by rfl) (pa_cons (pe_lc (own := [("entry", 4)]) (g := gName 4) (by rfl) nd (pi_list (pv 3))
          (blkOk_by (own := [("entry", 4)]) (N := ["self", "level", "is_else", "closed", "entry"]) (sc := defScope s_R_level_allowed) (by decide +kernel))
          (fun _ _ _ _ _ => pg_name (i := 4) nd rfl (Or.inl rfl)) (fun _ _ _ _ _ => pts_nil) (fun _ _ _ _ _ => pe_cmpR op_notN (pe_ix (r := rIxT K) ix_tup (pv 4) pe_int (fun _ _ => rfl)) pe_non (by rfl))) pa_nil)))) pss_nil)
    (pss_cons (ps_if (PW.pt (pw_or (pt_cmpR (op_eqLen hu) (pv 3) (pe_lst pa_nil) (nomark _)) (pw_or1 (pt_cmpR op_notN (pe_ix (r := rIxT K) ix_tup (pe_ix (r := rIxL K) ix_list (pv 3) pe_int (fun _ _ => rfl)) pe_int (fun _ _ => rfl)) pe_non (nomark _))))) (pss_one ps_never) pss_nil)
    (pss_one (ps_ret (pe_callB (cr_all (by rfl)) (by rfl) T.b_all (by rfl) (pa_cons (pe_lc (own := [("entry", 4)]) (g := gName 4) (by rfl) nd (pi_list (pe_slice sl_list (pv 3) (po_some pe_int) po_none))
          (blkOk_by (own := [("entry", 4)]) (N := ["self", "level", "is_else", "closed", "entry"]) (sc := defScope s_R_level_allowed) (by decide +kernel))
          (fun _ _ _ _ _ => pg_name (i := 4) nd rfl (Or.inl rfl)) (fun _ _ _ _ _ => pts_nil) (fun _ _ _ _ _ => pe_cmpR op_notN (pe_ix (r := rIxT K) ix_tup (pv 4) pe_int (fun _ _ => rfl)) pe_non (by rfl))) pa_nil))))))), ?_⟩
  obtain ⟨dx, bl, ul, ba, ua, rfl, ndM, h0, hbl, hul, hst⟩ := hR.ex
  have lens := hst.lens
  have lrest : L ≤ rest.length := by
    cases e with
    | true =>
      obtain ⟨f, r, rfl, _, h⟩ := (show ∃ f r, rest = f :: r ∧ f.first = none ∧ r.length = L from hrest)
      rw [List.length_cons]
      omega
    | false => exact Nat.le_of_eq (show rest.length = L from hrest).symm
  have lus : s.us.length = top.length + rest.length := by rw [hus, List.length_append]
  refine ⟨_, rfl, _, rfl, p, _, dx, _, _, rfl, h0, T.cl_RowReader, T.n_unfinished, rF_unfinished _ _, ul, _, rfl, .inl (SqL.of hul), _, _, rfl, rfl, _, rfl, ?_⟩
  rw [List.length_map, List.length_reverse, decide_eq_false (by omega)]
  refine iteF ⟨_, rfl, _, _, rfl, rfl, _, rfl, ?_⟩
  rw [decide_eq_false (by omega)]
  refine iteF ⟨_, rfl, p, _, dx, _, _, rfl, h0, T.cl_RowReader, T.n_unfinished, rF_unfinished _ _, _, rfl, _, rfl, ul, _, rfl, SqL.of hul, fun cl ncl => ?_⟩
  have ecut : cutV (ua.reverse.map V.ref) (some (L : Int)) none = (ua.reverse.drop L).map V.ref := by
    rw [cut_from _ _ (by rw [List.length_map, List.length_reverse]; omega), List.map_drop]
  rw [ecut]
  have g1 := same_new ncl (.lst ((ua.reverse.drop L).map V.ref))
  have hcl : (upd H cl (.lst ((ua.reverse.drop L).map V.ref))) cl = some (.lst ((ua.reverse.drop L).map V.ref)) := upd_same
  have ent : ∀ (j : Nat) (t : Addr), (ua.reverse.drop L)[j]? = some t → ∃ f b, s.us[ua.length - 1 - (L + j)]? = some f ∧ EnAt K H (hid (bl :: ul :: ba) H) t b f := fun j t ht => by
    rw [List.getElem?_drop] at ht
    have hlt : L + j < ua.length := by
      have := (List.getElem?_eq_some_iff.mp ht).1
      rw [List.length_reverse] at this
      exact this
    rw [List.getElem?_reverse hlt] at ht
    exact hst.ent _ t ht
  have inTop : ∀ {k : Nat} {f : Fr}, s.us[k]? = some f → k < top.length → f.first ≠ none := fun {k f} h hk => by
    rw [hus, List.getElem?_append_left hk] at h
    exact htop f (List.mem_of_getElem? h)
  refine ⟨_, rfl, e, rfl, ?_⟩
  cases e with
  | false =>
    have hrest : rest.length = L := hrest
    refine iteT ⟨_, rfl, cl, rfl, ⟨_, SqL.of hcl⟩, fun D nD => ?_⟩
    refine lc_it (walk_list (K := K) (a := cl) (xs := (ua.reverse.drop L).map V.ref)) (fun i H' => Same H H' ∧ H' cl = some (.lst ((ua.reverse.drop L).map V.ref)) ∧ H' D = some (.lst ((List.replicate i true).map V.bl)))
      ⟨same_upd g1 (g1.free nD) _, by rw [upd_ne (fun z => by rw [← z, hcl] at nD; cases nD)]; exact hcl, upd_same⟩ (fun i H' _ z => SqL.of z.2.1) ?_ ?_
    · rintro i y H2 H3 hi ⟨g, hc, hD⟩ ⟨rfl, hx⟩
      obtain ⟨t, ht, rfl⟩ := map_get hx
      obtain ⟨f, b, hf, he⟩ := ent i t ht
      obtain ⟨x, e1, e2, hs, hd⟩ := first_ne he
      rw [List.length_map, List.length_drop, List.length_reverse] at hi
      refine ⟨rfl, _, rfl, t, _, 1, _, rfl, rfl, sqT_same g hs, rfl, rfl, _, hD, by rw [List.length_map, List.length_replicate]; exact small1000 (by omega), same_upd g (g1.free nD) _, by rw [upd_ne (fun z => by rw [← z, hcl] at nD; cases nD)]; exact hc, ?_⟩
      rw [upd_same, hd, decide_eq_false (inTop hf (by omega))]
      exact congrArg (fun z => some (HO.lst z)) (rep_snoc i)
    · rintro H2 ⟨g, hc, hD⟩
      refine ⟨D, _, rfl, SqL.of hD, ?_⟩
      rw [all_true]
      exact q H2 g
  | true =>
    obtain ⟨f0, r0, rfl, hf0, hr0⟩ := (show ∃ f r, rest = f :: r ∧ f.first = none ∧ r.length = L from hrest)
    rw [List.length_cons] at lus
    obtain ⟨t0, ht0⟩ : ∃ t0, (ua.reverse.drop L)[0]? = some t0 := ⟨_, List.getElem?_eq_getElem (by rw [List.length_drop, List.length_reverse]; omega)⟩
    obtain ⟨f, b, hf, he⟩ := ent 0 t0 ht0
    have ef : f = f0 := by
      rw [hus, List.getElem?_append_right (by omega), show ua.length - 1 - (L + 0) - top.length = 0 by omega] at hf
      exact (Option.some.inj hf).symm
    subst ef
    obtain ⟨x, e1, e2, hs, hd⟩ := first_ne he
    have lz : ((ua.reverse.drop L).map V.ref).length ≠ 0 := by rw [List.length_map, List.length_drop, List.length_reverse]; omega
    refine iteF ⟨_, rfl, Nat.zero_le _, fun l nl => ⟨cl, l, _, _, rfl, rfl, SqL.of (same_new nl _ _ _ hcl), SqL.of upd_same, lz, _, rfl, iteF ?_⟩⟩
    have g2 := g1.trans (same_new nl (.lst []))
    have hcl2 := same_new nl (.lst []) _ _ hcl
    have at0 : atI ((ua.reverse.drop L).map V.ref) 0 = some (.ref t0) := atI_nat (j := 0) (by rw [List.getElem?_map, ht0] <;> rfl)
    refine ⟨_, rfl, cl, _, 0, _, rfl, rfl, SqL.of hcl2, at0, t0, _, 1, _, rfl, rfl, sqT_same g2 hs, rfl, rfl, _, rfl, ?_⟩
    rw [hd, decide_eq_true hf0]
    refine iteF ⟨_, rfl, 1, rfl, cl, _, rfl, SqL.of hcl2, fun c2 nc2 => ?_⟩
    have ecut2 : cutV ((ua.reverse.drop L).map V.ref) (some 1) none = ((ua.reverse.drop L).drop 1).map V.ref := by
      rw [show (1 : Int) = ((1 : Nat) : Int) from rfl, cut_from _ _ (by omega), List.map_drop, List.map_drop, List.map_drop]
    rw [ecut2]
    have g3 := g2.trans (same_new nc2 (.lst (((ua.reverse.drop L).drop 1).map V.ref)))
    have hc2 : ∀ H0 : Hp, (upd H0 c2 (.lst (((ua.reverse.drop L).drop 1).map V.ref))) c2 = some (.lst (((ua.reverse.drop L).drop 1).map V.ref)) := fun _ => upd_same
    refine ⟨c2, rfl, ⟨_, SqL.of (hc2 _)⟩, fun D nD => ?_⟩
    have nDc : D ≠ c2 := fun z => by rw [z, hc2] at nD; cases nD
    refine lc_it (walk_list (K := K) (a := c2) (xs := ((ua.reverse.drop L).drop 1).map V.ref)) (fun i H' => Same H H' ∧ H' c2 = some (.lst (((ua.reverse.drop L).drop 1).map V.ref)) ∧ H' D = some (.lst ((List.replicate i true).map V.bl)))
      ⟨same_upd g3 (g3.free nD) _, by rw [upd_ne (Ne.symm nDc)]; exact hc2 _, upd_same⟩ (fun i H' _ z => SqL.of z.2.1) ?_ ?_
    · rintro i y H2 H3 hi ⟨g, hc, hD⟩ ⟨rfl, hx⟩
      obtain ⟨t, ht, rfl⟩ := map_get hx
      rw [List.getElem?_drop] at ht
      obtain ⟨f, b, hf, he⟩ := ent (1 + i) t ht
      obtain ⟨x, e1, e2, hs, hd⟩ := first_ne he
      rw [List.length_map, List.length_drop, List.length_drop, List.length_reverse] at hi
      refine ⟨rfl, _, rfl, t, _, 1, _, rfl, rfl, sqT_same g hs, rfl, rfl, _, hD, by rw [List.length_map, List.length_replicate]; exact small1000 (by omega), same_upd g (g3.free nD) _, by rw [upd_ne (Ne.symm nDc)]; exact hc, ?_⟩
      rw [upd_same, hd, decide_eq_false (inTop hf (by omega))]
      exact congrArg (fun z => some (HO.lst z)) (rep_snoc i)
    · rintro H2 ⟨g, hc, hD⟩
      refine ⟨D, _, rfl, SqL.of hD, ?_⟩
      rw [all_true]
      exact q H2 g
end
end Tw

set_option Elab.async false
set_option maxRecDepth 100000
set_option maxHeartbeats 4000000
/-! E4: take. -/
namespace Tw
open PySem PySem.Spec L2 TL PyProof.Rows
def indS (L : Nat) : Str := ⟨(List.replicate (2 * L) 32).toArray⟩
theorem indS_0 : indS 0 = Str.empty := rfl
theorem indS_len (L : Nat) : (indS L).length = 2 * L := by rw [len_tl, indS, tl_mk, List.length_replicate]
theorem indS_succ (L : Nat) : indS L ++ Str.ofString "  " = indS (L + 1) := ext_tl (by
  have e : tl (Str.ofString "  ") = List.replicate 2 32 := by decide +kernel
  rw [tl_append, e]
  show List.replicate (2 * L) 32 ++ List.replicate 2 32 = List.replicate (2 * (L + 1)) 32
  rw [List.replicate_append_replicate] <;> rfl)
theorem takeWhile_rep {p : Nat → Bool} (hp : p 32 = true) {c : Nat} (hc : p c = false) (l : List Nat) : ∀ n : Nat, ((List.replicate n 32) ++ (c :: l)).takeWhile p = List.replicate n 32
  | 0 => by
    show (c :: l).takeWhile p = []
    rw [List.takeWhile_cons, if_neg (by rw [hc]; decide)]
  | n + 1 => by
    rw [List.replicate_succ, List.cons_append, List.takeWhile_cons, if_pos hp, takeWhile_rep hp hc l n]
theorem lstrip_ind (L : Nat) {b : Str} {c : Nat} {l : List Nat} (e : tl b = c :: l) (hc : 32 < c) : Txt.lstripChars (indS L ++ b) sp1 = b := by
  have hg : ∀ x, sp1.cps.contains x = decide (x = 32) := fun x => by
    have : sp1.cps = #[32] := by decide +kernel
    rw [this, Bool.eq_iff_iff, decide_eq_true_eq, Array.contains_iff_mem]
    simp
  have elo : (((indS L ++ b).cps.toList).takeWhile sp1.cps.contains).length = 2 * L := by
    show ((tl (indS L ++ b)).takeWhile _).length = _
    rw [tl_append, e, indS, tl_mk, takeWhile_rep (by rw [hg]; rfl) (by rw [hg]; exact decide_eq_false (by omega)), List.length_replicate]
  unfold Txt.lstripChars
  rw [PyProof.Rows.stripBy_eq]
  refine ext_tl ?_
  have e1 : stripLo sp1.cps.contains true (indS L ++ b) = 2 * L := elo
  rw [e1]
  show tl (Builtin.Str.strSub (indS L ++ b) (2 * L) (indS L ++ b).length) = tl b
  rw [tl_strSub_end, tl_append, List.drop_append_of_le_length (by rw [indS, tl_mk, List.length_replicate]; exact Nat.le_refl _), List.drop_of_length_le (by rw [indS, tl_mk, List.length_replicate]; exact Nat.le_refl _), List.nil_append]
inductive Stp (W F : List Str) : Str → Rd → Rd → Prop
  | leaf {L : Nat} {s : Rd} {bs : List (List Row)} {us : List Fr} {x : List Row} {w : Str} {ps : List Atom} (c : Clo s ⟨x :: bs, us⟩) (hL : us.length = L) (h3 : L ≤ 3) (ok : okR W F (.leaf w ps)) : Stp W F (indS L ++ txR (.leaf w ps)) s ⟨(x ++ [.leaf w ps]) :: bs, us⟩
  | node {L : Nat} {s : Rd} {bs : List (List Row)} {us : List Fr} {w : Str} {vs : List Str} {a b : List Row} (c : Clo s ⟨bs, us⟩) (hL : us.length = L) (h3 : L ≤ 3) (ok : okR W F (.node w vs a b)) : Stp W F (indS L ++ txR (.node w vs a b)) s ⟨[] :: bs, ⟨w, vs, none⟩ :: us⟩
  | els {L : Nat} {s : Rd} {bs : List (List Row)} {us : List Fr} {cur : List Row} {w : Str} {vs : List Str} (c : Clo s ⟨cur :: bs, ⟨w, vs, none⟩ :: us⟩) (hL : us.length = L) (h3 : L ≤ 3) : Stp W F (indS L ++ Str.ofString "else") s ⟨[] :: bs, ⟨w, vs, some cur⟩ :: us⟩
theorem Stp.wt {W F : List Str} {l : Str} {s s' : Rd} (h : Stp W F l s s') : s'.wt ≤ s.wt + 1 := by
  cases h with
  | leaf c _ _ _ =>
    rw [← c.wt]
    simp only [Rd.wt, wtB, szL_app, szL, szR]
    omega
  | node c _ _ _ =>
    rw [← c.wt]
    simp only [Rd.wt, wtB, wtU, szL, Option.getD_none]
    omega
  | els c _ _ =>
    rw [← c.wt]
    simp only [Rd.wt, wtB, wtU, szL, Option.getD_none, Option.getD_some]
    omega
theorem wtU_len : ∀ us : List Fr, us.length ≤ wtU us
  | [] => Nat.le_refl _
  | f :: us => by
    have := wtU_len us
    rw [List.length_cons, wtU]
    omega
theorem us_few (s : Rd) : s.us.length ≤ s.wt := Nat.le_trans (wtU_len _) (Nat.le_add_left _ _)
theorem ixN_nat {n j : Nat} (h : j < n) : ixN n (j : Int) = some j := by
  unfold ixN
  rw [if_pos (Int.natCast_nonneg j), if_pos (by omega)] <;> rfl
theorem set_end (xs : List V) (y z : V) {n : Nat} (h : xs.length = n) : (xs ++ [y]).set n z = xs ++ [z] := by
  rw [List.set_append_right _ _ (by omega), h, Nat.sub_self] <;> rfl
theorem or_cut {b : Bool} {A B : Prop} (ha : A) (hb : A → b = false → B) : if b = true then A else B := by
  cases b with
  | true => exact ha
  | false => exact hb ha rfl
theorem iteB {b : Bool} {A B : Prop} (h : b = true) (a : A) : if b = true then A else B := by
  rw [if_pos h]
  exact a
theorem plain_node (vs : List Str) : (vs.map Atom.s).map Atom.v = vs.map V.str := by rw [List.map_map] <;> rfl
/-- what the head of a step says: the level, the text behind the spaces -/
structure StpHd (l : Str) (s : Rd) (L : Nat) (b : Str) (top rest : List Fr) : Prop where
  line : l = indS L ++ b
  h3 : L ≤ 3
  len : b.length ≤ 45
  hd : ∃ c r, tl b = c :: r ∧ 32 < c
  us : s.us = top ++ rest
  top : ∀ f ∈ top, f.first ≠ none
theorem else_ne {b : Str} (h : Ln b) : b ≠ Str.ofString "else" := fun e => by
  have := h.sp
  rw [e] at this
  exact absurd this (by decide +kernel)
theorem Stp.head {W F : List Str} (hW : ∀ x ∈ W, isW x) (hF : ∀ x ∈ F, isW x) {l : Str} {s s' : Rd} (h : Stp W F l s s') : ∃ L b top rest, StpHd l s L b top rest ∧
    ((b = Str.ofString "else" ∧ ∃ cur bs w vs us, rest = ⟨w, vs, none⟩ :: us ∧ us.length = L ∧ Clo s ⟨cur :: bs, ⟨w, vs, none⟩ :: us⟩ ∧ s' = ⟨[] :: bs, ⟨w, vs, some cur⟩ :: us⟩) ∨
      (b ≠ Str.ofString "else" ∧ rest.length = L ∧ ∃ r N, okR W F r ∧ b = txR r ∧ Clo s N ∧ N.us.length = L ∧
        ((∃ w ps x bs, r = .leaf w ps ∧ N.bs = x :: bs ∧ s' = ⟨(x ++ [r]) :: bs, N.us⟩) ∨ ∃ w vs a b, r = .node w vs a b ∧ s' = ⟨[] :: N.bs, ⟨w, vs, none⟩ :: N.us⟩))) := by
  cases h with
  | @leaf L s bs us x w ps c hL h3 ok =>
    obtain ⟨top, e, n⟩ := c.split
    have ln := ln_row hW hF ok
    exact ⟨L, _, top, us, ⟨rfl, h3, ln.len, ln.hd, e, n⟩, .inr ⟨else_ne ln, hL, _, _, ok, rfl, c, hL, .inl ⟨w, ps, x, bs, rfl, rfl, rfl⟩⟩⟩
  | @node L s bs us w vs a b c hL h3 ok =>
    obtain ⟨top, e, n⟩ := c.split
    have ln := ln_row hW hF ok
    exact ⟨L, _, top, us, ⟨rfl, h3, ln.len, ln.hd, e, n⟩, .inr ⟨else_ne ln, hL, _, _, ok, rfl, c, hL, .inr ⟨w, vs, a, b, rfl, rfl⟩⟩⟩
  | @els L s bs us cur w vs c hL h3 =>
    obtain ⟨top, e, n⟩ := c.split
    exact ⟨L, _, top, _, ⟨rfl, h3, by decide +kernel, ⟨101, [108, 115, 101], by decide +kernel, by decide⟩, e, n⟩, .inl ⟨rfl, cur, bs, w, vs, us, rfl, hL, c, rfl⟩⟩
section
variable {P : Program} {w : World} {K : PySem.W.Frag} {mg : Str → Option Value} {base : Heap}
def sp_take (K : PySem.W.Frag) : Sp := fun vs H Q _ => ∃ (p : Addr) (M : List Addr) (s s' : Rd) (l : Str) (W F : List Str), vs = [.ref p, .str l] ∧ RdAt K H p M s ∧ Stp W F l s s' ∧ (∀ x ∈ W, isW x) ∧ (∀ x ∈ F, isW x) ∧ s.wt ≤ 400 ∧
  ∀ (M' : List Addr) (H' : Hp), RdAt K H' p M' s' → Kept M H H' → (∀ b ∈ M', b ∈ M ∨ H b = none) → Q (.bl true) H'
theorem sc_take : FnScope ["self", "line", "body", "spaces", "level", "entry", "row"] ["self", "line"] (defScope s_R_take) := ⟨rfl, rfl, rfl, by decide +kernel, rfl, by decide +kernel, by decide +kernel⟩
theorem m_take (T : Txt w K mg) : Mal P w K mg base "RowReader" "take" 3 ["self", "line"] (sp_take K) := by
  refine T.d_R_take.cal sc_take (fun _ _ _ _ _ _ us hl => match us, hl with | [_, _], _ => rfl) (fun vs H Q E h => by obtain ⟨p, M, s, s', l, W, F, rfl, _⟩ := h; rfl) (fun f cdv A outer s0 H vs Q E hr h => ?_)
  obtain ⟨p, M, s, s', l, W, F, rfl, hR, hS, hW, hF, hwt, q⟩ := h
  have nd := sc_take.nd
  have hr1 : Room 1 _ := hr.mono (by decide)
  obtain ⟨f1, fd1, F1, m1, b1⟩ := (m_level_allowed (P := P) (base := base) T).ex
  obtain ⟨f2, fd2, F2, m2, b2⟩ := (m_close_to (P := P) (base := base) T).ex
  refine ⟨_, pss_cons (ps_set (i := 2) nd rfl (Or.inl rfl) (pe_m1 PySem.F.slot_str_lstrip PySem.F.type_str_lstrip mt_lstripChars (pv 1) pe_str))
    (pss_cons (ps_set (i := 3) nd rfl (Or.inl rfl) (pe_op op_sub (pe_callB call_len_str (by rfl) T.b_len PySem.boot_len (pa_cons (pv 1) pa_nil)) (pe_callB call_len_str (by rfl) T.b_len PySem.boot_len (pa_cons (pv 2) pa_nil))))
    (pss_cons (ps_set (i := 4) nd rfl (Or.inl rfl) (pe_op op_fdiv (pv 3) pe_int))
    (pss_cons (ps_if (PW.pt (pw_or (pt_cmpR op_eq (pe_op op_mod (pv 3) pe_int) pe_int (nomark _)) (pw_or1 (pt_not (pt_val (pe_meth (pv 0) T.cl_RowReader m1 F1 hr1 b1 .nil pass0 (pa_cons (pv 4) (pa_cons (pe_cmpR op_eq (pv 2) pe_str (by rfl)) pa_nil)))))))) (pss_one ps_never) pss_nil)
    (pss_cons (ps_if (pt_cmpR op_eq (pv 2) pe_str (nomark _))
      (pss_cons (ps_expr (pe_meth (pv 0) T.cl_RowReader m2 F2 hr1 b2 .nil pass0 (pa_cons (pe_op op_add (pv 4) pe_int) pa_nil)))
      (pss_cons (ps_set (i := 5) nd rfl (Or.inl rfl) (pe_ix ix_list (pe_fld (pv 0) rfl) (pv 4) (fun _ _ => rfl)))
      (pss_cons (ps_asg (pe_tup (pa_cons (pe_ix ix_tup (pv 5) pe_int (fun _ _ => rfl)) (pa_cons (pe_ix ix_list (pe_fld (pv 0) rfl) (pe_op op_add (pv 4) pe_int) (fun _ _ => rfl)) (pa_cons (pe_lst pa_nil) pa_nil)))) (pg_sub (pe_fld (pv 0) rfl) (pv 4) set_list))
      (pss_cons (ps_asg (pe_ix ix_tup (pe_ix ix_list (pe_fld (pv 0) rfl) (pv 4) (fun _ _ => rfl)) pe_int (fun _ _ => rfl)) (pg_sub (pe_fld (pv 0) rfl) (pe_op op_add (pv 4) pe_int) set_list))
      (pss_one (ps_ret pe_bl)))))) pss_nil)
    (pss_cons (ps_set (i := 6) nd rfl (Or.inl rfl) (pe_c (c_plain_row T) hr (pa_cons (pv 2) pa_nil)))
    (pss_cons (ps_if (pt_cmpR op_isN (pv 6) pe_non (nomark _)) (pss_one ps_never) pss_nil)
    (pss_cons (ps_expr (pe_meth (pv 0) T.cl_RowReader m2 F2 hr1 b2 .nil pass0 (pa_cons (pv 4) pa_nil)))
    (pss_cons (ps_if (PW.pt (pw_or (pt_cmpR op_eq (pe_ix (r := rIxT K) ix_tup (pv 6) pe_int (fun _ _ => rfl)) pe_str (nomark _)) (pw_or1 (pt_cmpR op_eq (pe_ix (r := rIxT K) ix_tup (pv 6) pe_int (fun _ _ => rfl)) pe_str (nomark _)))))
      (pss_cons (ps_expr (pe_bm PySem.F.plainAttrs_list PySem.F.slot_list_append PySem.F.type_list_append mt_append (pe_fld (pv 0) rfl) (pa_cons (pe_tup (pa_cons (pv 6) (pa_cons pe_non (pa_cons pe_non pa_nil)))) pa_nil)))
      (pss_one (ps_expr (pe_bm PySem.F.plainAttrs_list PySem.F.slot_list_append PySem.F.type_list_append mt_append (pe_fld (pv 0) rfl) (pa_cons (pe_lst pa_nil) pa_nil)))))
      (pss_one (ps_expr (pe_bm PySem.F.plainAttrs_list PySem.F.slot_list_append PySem.F.type_list_append mt_append (pe_ix ix_list (pe_fld (pv 0) rfl) (pv 4) (fun _ _ => rfl)) (pa_cons (pv 6) pa_nil)))))
    (pss_one (ps_ret pe_bl)))))))))), ?_⟩
  obtain ⟨L, b, top, rest, hh, hcase⟩ := hS.head hW hF
  obtain ⟨c0, r0, htl, hc0⟩ := hh.hd
  have hlen := hh.len
  have h3 := hh.h3
  have hlb := hh.line
  subst hlb
  have hll : (indS L ++ b).length = 2 * L + b.length := by rw [len_app, indS_len]
  have hfew := us_few s
  refine ⟨_, rfl, ⟨_, rfl⟩, _, sp1, rfl, rfl, small_line (by omega), ?_⟩
  rw [lstrip_ind L htl hc0]
  refine ⟨_, rfl, _, rfl, small_line (by omega), _, rfl, _, rfl, small_line (by omega), _, _, rfl, rfl, ?_⟩
  have he1 : ((indS L ++ b).length : Int) - (b.length : Int) = ((2 * L : Nat) : Int) := by omega
  have he2 : ((2 * L : Nat) : Int) / 2 = (L : Int) := by omega
  simp only [he1]
  refine ⟨_, rfl, _, 2, rfl, rfl, ⟨by decide, by decide⟩, ?_⟩
  simp only [he2]
  refine ⟨_, rfl, _, 2, rfl, rfl, (by show (0 : Int) < 2; decide), rfl, _, rfl, ?_⟩
  rw [decide_eq_false (fun z => by injection z with z; omega)]
  obtain ⟨dx, bl, ul, ba, ua, eM, ndM, h0, hbl, hul, hst⟩ := hR.ex
  refine iteF ⟨_, rfl, p, dx, _, rfl, h0, rF_m1 _ _, _, rfl, _, rfl, rfl, p, M, s, L, _, top, rest, rfl, hR, by omega, h3, hh.us, hh.top, ?_, fun H1 g1 => ⟨true, rfl, iteF ?_⟩⟩
  · rcases hcase with ⟨rfl, cur, bs, w', vs', us', rfl, e2, _⟩ | ⟨hne, e2, _⟩
    · rw [decide_eq_true rfl]
      exact (if_pos rfl).mpr ⟨_, us', rfl, rfl, e2⟩
    · rw [decide_eq_false (fun z => hne (by injection z))]
      exact e2
  have hR1 := hR.same g1
  refine ⟨_, rfl, rfl, _, rfl, ?_⟩
  rcases hcase with ⟨rfl, cur, bs, w', vs', us', _, hL, hC, rfl⟩ | ⟨hne, _, r, N, okr, rfl, hC, hL, hkind⟩
  · rw [decide_eq_true rfl]
    refine iteT ⟨_, rfl, p, dx, _, rfl, g1 _ _ h0, rF_m2 _ _, _, rfl, _, 1, rfl, rfl, p, M, s, _, L + 1, rfl, hR1, hC, by rw [← hL] <;> rfl, by omega, fun M2 H2 hR2 k2 sub2 => ?_⟩
    have k02 : Kept M H H2 := (Kept.of g1).trans k2
    have hM2 := hR2.lsts
    obtain ⟨dx, bl, ul, ba, ua, rfl, ndM, h0, hbl, hul, hst⟩ := hR2.ex
    cases hst with
    | @push ba1 ua1 _ _ bc t _ _ hin hbc hent =>
      obtain ⟨hd, e1, e2, ht, hhd, hv4, rfl, rfl⟩ := hent
      have lens := hin.lens
      have lua : ua1.length = L := by rw [← lens.2]; exact hL
      have lba : ba1.length = L + 1 := by rw [lens.1, lua]
      simp only [List.nodup_cons, List.mem_cons, not_or] at ndM
      obtain ⟨⟨n1, n2, n3⟩, ⟨n4, n5⟩, n6, n7⟩ := ndM
      have hul : H2 ul = some (.lst (ua1.reverse.map V.ref ++ [V.ref t])) := by
        rw [List.reverse_cons, List.map_append] at hul
        exact hul
      have hbl : H2 bl = some (.lst (ba1.reverse.map V.ref ++ [V.ref bc])) := by
        rw [List.reverse_cons, List.map_append] at hbl
        exact hbl
      have lu : (ua1.reverse.map V.ref).length = L := by rw [List.length_map, List.length_reverse, lua]
      have lb : (ba1.reverse.map V.ref).length = L + 1 := by rw [List.length_map, List.length_reverse, lba]
      have d0 : p ≠ ul := fun e => by rw [e, hul] at h0; cases h0
      have d1 : p ≠ bl := fun e => by rw [e, hbl] at h0; cases h0
      refine ⟨_, rfl, p, _, dx, _, _, rfl, h0, T.cl_RowReader, T.n_unfinished, rF_unfinished _ _, _, rfl, ul, _, _, _, rfl, rfl, SqL.of hul, at_end _ _ lu, ?_⟩
      refine ⟨_, rfl, t, _, 0, _, rfl, rfl, ht, at_0 _ _, _, rfl, p, _, dx, _, _, rfl, h0, T.cl_RowReader, T.n_blocks, rF_blocks _ _, _, rfl, _, 1, rfl, rfl, bl, _, _, _, rfl, rfl, SqL.of hbl, at_end _ _ lb, Nat.zero_le _, fun nb nnb => ⟨(by show 3 ≤ sizeLine; decide), fun t2 nt2 => ?_⟩⟩
      have bp : nb ≠ p := fun e => by rw [e, h0] at nnb; cases nnb
      have bul : nb ≠ ul := fun e => by rw [e, hul] at nnb; cases nnb
      have bbl : nb ≠ bl := fun e => by rw [e, hbl] at nnb; cases nnb
      have t2b : t2 ≠ nb := fun e => by rw [e, upd_same] at nt2; cases nt2
      rw [upd_ne t2b] at nt2
      have tp : t2 ≠ p := fun e => by rw [e, h0] at nt2; cases nt2
      have tul : t2 ≠ ul := fun e => by rw [e, hul] at nt2; cases nt2
      have tbl : t2 ≠ bl := fun e => by rw [e, hbl] at nt2; cases nt2
      refine ⟨_, rfl, p, _, dx, _, _, rfl, by rw [upd_ne (Ne.symm tp), upd_ne (Ne.symm bp)]; exact h0, T.cl_RowReader, T.n_unfinished, rF_unfinished _ _, _, rfl, ul, _, _, L, rfl, rfl, by rw [upd_ne (Ne.symm tul), upd_ne (Ne.symm bul)]; exact hul, ixN_nat (by rw [List.length_append, lu]; exact Nat.lt_succ_self _), ?_⟩
      rw [set_end _ _ _ lu]
      refine ⟨_, rfl, p, _, dx, _, _, rfl, by rw [upd_ne d0, upd_ne (Ne.symm tp), upd_ne (Ne.symm bp)]; exact h0, T.cl_RowReader, T.n_unfinished, rF_unfinished _ _, _, rfl, ul, _, _, _, rfl, rfl, SqL.of upd_same, at_end _ _ lu, t2, _, 2, _, rfl, rfl, SqT.of (by rw [upd_ne tul, upd_same]), rfl, ?_⟩
      refine ⟨_, rfl, p, _, dx, _, _, rfl, by rw [upd_ne d0, upd_ne (Ne.symm tp), upd_ne (Ne.symm bp)]; exact h0, T.cl_RowReader, T.n_blocks, rF_blocks _ _, _, rfl, _, 1, rfl, rfl, bl, _, _, L + 1, rfl, rfl, by rw [upd_ne n1, upd_ne (Ne.symm tbl), upd_ne (Ne.symm bbl)]; exact hbl, ixN_nat (by rw [List.length_append, lb]; exact Nat.lt_succ_self _), ?_⟩
      rw [set_end _ _ _ lb]
      have hat : ∀ b, b ≠ bl → b ≠ ul → b ≠ t2 → b ≠ nb → (upd (upd (upd (upd H2 nb (.lst [])) t2 (.tup [.ref hd, .ref bc, .ref nb])) ul (.lst (ua1.reverse.map V.ref ++ [.ref t2]))) bl (.lst (ba1.reverse.map V.ref ++ [.ref nb]))) b = H2 b := fun b h1 h2 h3 h4 => by rw [upd_ne h1, upd_ne h2, upd_ne h3, upd_ne h4]
      have hbl3 : (upd (upd (upd (upd H2 nb (.lst [])) t2 (.tup [.ref hd, .ref bc, .ref nb])) ul (.lst (ua1.reverse.map V.ref ++ [.ref t2]))) bl (.lst (ba1.reverse.map V.ref ++ [.ref nb]))) bl = some (.lst (ba1.reverse.map V.ref ++ [.ref nb])) := upd_same
      have hul3 : (upd (upd (upd (upd H2 nb (.lst [])) t2 (.tup [.ref hd, .ref bc, .ref nb])) ul (.lst (ua1.reverse.map V.ref ++ [.ref t2]))) bl (.lst (ba1.reverse.map V.ref ++ [.ref nb]))) ul = some (.lst (ua1.reverse.map V.ref ++ [.ref t2])) := by rw [upd_ne (Ne.symm n1), upd_same]
      have ht3 : (upd (upd (upd (upd H2 nb (.lst [])) t2 (.tup [.ref hd, .ref bc, .ref nb])) ul (.lst (ua1.reverse.map V.ref ++ [.ref t2]))) bl (.lst (ba1.reverse.map V.ref ++ [.ref nb]))) t2 = some (.tup [.ref hd, .ref bc, .ref nb]) := by rw [upd_ne tbl, upd_ne tul, upd_same]
      have hnb3 : (upd (upd (upd (upd H2 nb (.lst [])) t2 (.tup [.ref hd, .ref bc, .ref nb])) ul (.lst (ua1.reverse.map V.ref ++ [.ref t2]))) bl (.lst (ba1.reverse.map V.ref ++ [.ref nb]))) nb = some (.lst []) := by rw [upd_ne bbl, upd_ne bul, upd_ne (Ne.symm t2b), upd_same]
      show Q (.bl true) (upd (upd (upd (upd H2 nb (.lst [])) t2 (.tup [.ref hd, .ref bc, .ref nb])) ul (.lst (ua1.reverse.map V.ref ++ [.ref t2]))) bl (.lst (ba1.reverse.map V.ref ++ [.ref nb])))
      revert hat hbl3 hul3 ht3 hnb3
      generalize (upd (upd (upd (upd H2 nb (.lst [])) t2 (.tup [.ref hd, .ref bc, .ref nb])) ul (.lst (ua1.reverse.map V.ref ++ [.ref t2]))) bl (.lst (ba1.reverse.map V.ref ++ [.ref nb]))) = H3
      intro hat hbl3 hul3 ht3 hnb3
      have kp : Kept (bl :: ul :: bc :: ba1) H2 H3 := fun b o e hb => by
        simp only [List.mem_cons, not_or] at hb
        rw [hat b hb.1 hb.2.1 (fun z => by rw [z, nt2] at e; cases e) (fun z => by rw [z, nnb] at e; cases e)]
        exact e
      have bl2 : ∀ b ∈ bc :: ba1, H3 b = H2 b := fun b hb => by
        have hm : ∃ ys, H2 b = some (.lst ys) := by
          rcases List.mem_cons.mp hb with rfl | hb
          · exact ⟨_, hbc.choose_spec.1⟩
          · exact hin.blk b hb
        obtain ⟨ys, e⟩ := hm
        have hb' : b = bc ∨ b ∈ ba1 := List.mem_cons.mp hb
        exact hat b (by rcases hb' with rfl | hb'; exact Ne.symm n2; exact fun z => n3 (by rw [← z]; exact hb')) (by rcases hb' with rfl | hb'; exact Ne.symm n4; exact fun z => n5 (by rw [← z]; exact hb'))
          (fun z => by rw [z, nt2] at e; cases e) (fun z => by rw [z, nnb] at e; cases e)
      have nb1 : nb ∉ ba1 := fun hm => by
        obtain ⟨ys, e⟩ := hin.blk nb hm
        rw [nnb] at e
        cases e
      have lst3 : Lsts (bl :: ul :: nb :: ba1) H3 := fun b hb => by
        simp only [List.mem_cons] at hb
        rcases hb with rfl | rfl | rfl | hb
        · exact ⟨_, hbl3⟩
        · exact ⟨_, hul3⟩
        · exact ⟨_, hnb3⟩
        · obtain ⟨ys, e⟩ := hin.blk b hb
          exact ⟨ys, by rw [bl2 b (List.mem_cons_of_mem _ hb)]; exact e⟩
      have gs : Same (hid (bl :: ul :: bc :: ba1) H2) (hid (bl :: ul :: nb :: ba1) H3) := hid_step kp fun b hb => by
        simp only [List.mem_cons] at hb ⊢
        rcases hb with hb | hb | hb | hb
        · exact .inl (.inl hb)
        · exact .inl (.inr (.inl hb))
        · exact .inr (by rw [hb]; exact nnb)
        · exact .inl (.inr (.inr (.inr hb)))
      obtain ⟨xc, hbc1, dxc⟩ := hbc
      have hbc3 : H3 bc = some (.lst xc) := by rw [bl2 bc (List.mem_cons_self ..)]; exact hbc1
      have bnb : bc ≠ nb := fun e => by rw [e, nnb] at hbc1; cases hbc1
      have dcur : Dp K (hid (bl :: ul :: nb :: ba1) H3) (.ref bc) (.list (dL cur)) := .lst (sqL_hid (by simp only [List.mem_cons, not_or]; exact ⟨Ne.symm n2, Ne.symm n4, bnb, n6⟩) hbc3) (dpAll_same gs dxc)
      refine q (bl :: ul :: nb :: ba1) H3 ⟨dx, bl, ul, nb :: ba1, t2 :: ua1, rfl, ?_, ?_, by rw [List.reverse_cons, List.map_append]; exact hbl3, by rw [List.reverse_cons, List.map_append]; exact hul3,
        .push (hin.move hM2 kp gs fun b hb => bl2 b (List.mem_cons_of_mem _ hb)) ⟨[], hnb3, .nil⟩ ⟨hd, _, _, SqT.of ht3, sqT_keptM hM2 kp hhd, hv4, bc, rfl, dcur, rfl⟩⟩ ?_ ?_
      · simp only [List.nodup_cons, List.mem_cons, not_or]
        exact ⟨⟨n1, Ne.symm bbl, n3⟩, ⟨Ne.symm bul, n5⟩, nb1, n7⟩
      · rw [hat p d1 d0 (Ne.symm tp) (Ne.symm bp)]
        exact h0
      · exact k02.trans (kp.mono sub2)
      · intro b hb
        simp only [List.mem_cons] at hb
        rcases hb with hb | hb | hb | hb
        · exact .inl (sub2 b (by rw [hb]; simp))
        · exact .inl (sub2 b (by rw [hb]; simp))
        · subst hb
          by_cases hm : b ∈ M
          · exact .inl hm
          · exact .inr (k02.free nnb hm)
        · exact .inl (sub2 b (by simp [hb]))
  · rw [decide_eq_false (fun z => hne (by injection z))]
    refine iteF ⟨_, rfl, r, W, F, rfl, okr, hW, hF, fun rt H1' g1' hrt => ?_⟩
    have g2 := g1.trans g1'
    refine ⟨_, rfl, rfl, _, rfl, ?_⟩
    rw [decide_eq_false (fun z => by cases z)]
    refine iteF ⟨_, rfl, p, dx, _, rfl, g2 _ _ h0, rF_m2 _ _, _, rfl, p, M, s, N, L, rfl, hR.same g2, hC, hL, by omega, fun M2 H2 hR2 k2 sub2 => ?_⟩
    have k02 : Kept M H H2 := (Kept.of g2).trans k2
    have hM2 := hR2.lsts
    have hrt2 : SqT K H2 rt (.str r.word :: (asR r).map Atom.v) := sqT_keptM (hR.same g2).lsts k2 hrt
    have wtN : N.wt ≤ 400 := by rw [hC.wt]; exact hwt
    obtain ⟨dx, bl, ul, ba, ua, rfl, ndM, h0, hbl, hul, hst⟩ := hR2.ex
    have lens := hst.lens
    have lua : ua.length = L := by rw [← lens.2]; exact hL
    have lba : ba.length = L + 1 := by rw [lens.1, lua]
    have d0 : p ≠ ul := fun e => by rw [e, hul] at h0; cases h0
    have d1 : p ≠ bl := fun e => by rw [e, hbl] at h0; cases h0
    rcases hkind with ⟨w', ps, x, bs, rfl, eN, rfl⟩ | ⟨w', vs', a, b', rfl, rfl⟩
    · rw [okR] at okr
      obtain ⟨sh, k1, _⟩ := okr
      have w1 : w' ≠ Str.ofString "same" := (by decide +kernel : ∀ q ∈ leafL, q.1 ≠ Str.ofString "same") _ k1
      have w2 : w' ≠ Str.ofString "empty" := (by decide +kernel : ∀ q ∈ leafL, q.1 ≠ Str.ofString "empty") _ k1
      refine ⟨_, rfl, rt, _, 0, _, rfl, rfl, hrt2, at_0 _ _, rfl, _, rfl, ?_⟩
      rw [show decide (V.str (Row.leaf w' ps).word = V.str (Str.ofString "same")) = false from decide_eq_false (fun e => w1 (by injection e))]
      refine iteF ⟨_, rfl, rt, _, 0, _, rfl, rfl, hrt2, at_0 _ _, rfl, _, rfl, ?_⟩
      rw [show decide (V.str (Row.leaf w' ps).word = V.str (Str.ofString "empty")) = false from decide_eq_false (fun e => w2 (by injection e))]
      rw [eN] at hst
      obtain ⟨bx, ba2, eb⟩ : ∃ bx ba2, ba = bx :: ba2 := by
        cases ba with
        | nil => cases lba
        | cons a b => exact ⟨_, _, rfl⟩
      subst eb
      obtain ⟨xs, hbx, dxs⟩ := hst.top
      simp only [List.nodup_cons, List.mem_cons, not_or] at ndM
      obtain ⟨⟨n1, n2, n3⟩, ⟨n4, n5⟩, n6, n7⟩ := ndM
      have hbl' : H2 bl = some (.lst (ba2.reverse.map V.ref ++ [V.ref bx])) := by
        rw [List.reverse_cons, List.map_append] at hbl
        exact hbl
      have lb : (ba2.reverse.map V.ref).length = L := by
        rw [List.length_cons] at lba
        rw [List.length_map, List.length_reverse]
        omega
      have lxs : xs.length = x.length := by rw [dA_len dxs, dL_length]
      have hsx := top_small eN
      refine iteF ⟨_, rfl, p, _, dx, _, _, rfl, h0, T.cl_RowReader, T.n_blocks, rF_blocks _ _, _, rfl, bl, _, _, _, rfl, rfl, SqL.of hbl', at_end _ _ lb, .inl ⟨rfl, _, SqL.of hbx⟩, _, rfl, bx, xs, _, rfl, rfl, hbx, small1000 (by omega), ?_⟩
      have kp : Kept (bl :: ul :: bx :: ba2) H2 (upd H2 bx (.lst (xs ++ [.ref rt]))) := Kept.upd (by simp)
      have ehid : hid (bl :: ul :: bx :: ba2) (upd H2 bx (.lst (xs ++ [.ref rt]))) = hid (bl :: ul :: bx :: ba2) H2 := hid_upd (by simp)
      have d2 : p ≠ bx := fun e => by rw [e, hbx] at h0; cases h0
      refine q (bl :: ul :: bx :: ba2) _ ⟨dx, bl, ul, bx :: ba2, ua, rfl, ?_, by rw [upd_ne d2]; exact h0, by rw [upd_ne n2]; exact hbl, by rw [upd_ne n4]; exact hul, ?_⟩ (k02.trans (kp.mono sub2)) (fun b hb => .inl (sub2 b hb))
      · simp only [List.nodup_cons, List.mem_cons, not_or]
        exact ⟨⟨n1, n2, n3⟩, ⟨n4, n5⟩, n6, n7⟩
      · rw [ehid]
        refine hst.moveTop hM2 kp (Same.refl _) (fun c hc => upd_ne fun e => n6 (by rw [← e]; exact hc)) ⟨_, upd_same, ?_⟩
        rw [dL_append, dL, dL]
        exact dA_snoc dxs (leaf_mk (sqT_hid hM2 hrt2))
    · rw [okR] at okr
      have hv4 : vs'.length ≤ 4 := (node_few _ okr.1).1
      have w2 : w' = Str.ofString "same" ∨ w' = Str.ofString "empty" := (by decide +kernel : ∀ q ∈ nodeL, q.1 = Str.ofString "same" ∨ q.1 = Str.ofString "empty") _ okr.1
      have hrt3 : SqT K H2 rt (.str w' :: vs'.map V.str) := by rw [← plain_node]; exact hrt2
      refine ⟨_, rfl, rt, _, 0, _, rfl, rfl, hrt3, at_0 _ _, rfl, _, rfl, or_cut ?_ (fun rest h1 => ⟨_, rfl, rt, _, 0, _, rfl, rfl, hrt3, at_0 _ _, rfl, _, rfl, iteB (decide_eq_true (congrArg V.str (w2.resolve_left fun e => by
        have := of_decide_eq_false h1
        exact this (congrArg V.str e)))) rest⟩)⟩
      simp only [List.nodup_cons, List.mem_cons, not_or] at ndM
      obtain ⟨⟨n1, n2⟩, n3, n4⟩ := ndM
      refine ⟨_, rfl, p, _, dx, _, _, rfl, h0, T.cl_RowReader, T.n_unfinished, rF_unfinished _ _, .inl ⟨rfl, _, SqL.of hul⟩, _, rfl, (by show 3 ≤ sizeLine; decide), fun t2 nt2 => ?_⟩
      have tp : t2 ≠ p := fun e => by rw [e, h0] at nt2; cases nt2
      have tul : t2 ≠ ul := fun e => by rw [e, hul] at nt2; cases nt2
      have tbl : t2 ≠ bl := fun e => by rw [e, hbl] at nt2; cases nt2
      refine ⟨ul, _, _, rfl, rfl, by rw [upd_ne (Ne.symm tul)]; exact hul, by rw [List.length_map, List.length_reverse]; exact small1000 (by omega), ?_⟩
      refine ⟨_, rfl, p, _, dx, _, _, rfl, by rw [upd_ne d0, upd_ne (Ne.symm tp)]; exact h0, T.cl_RowReader, T.n_blocks, rF_blocks _ _, .inl ⟨rfl, _, SqL.of (by rw [upd_ne n1, upd_ne (Ne.symm tbl)]; exact hbl)⟩, Nat.zero_le _, fun nb nnb => ?_⟩
      have bul : nb ≠ ul := fun e => by rw [e, upd_same] at nnb; cases nnb
      rw [upd_ne bul] at nnb
      have bt2 : nb ≠ t2 := fun e => by rw [e, upd_same] at nnb; cases nnb
      rw [upd_ne bt2] at nnb
      have bp : nb ≠ p := fun e => by rw [e, h0] at nnb; cases nnb
      have bbl : nb ≠ bl := fun e => by rw [e, hbl] at nnb; cases nnb
      refine ⟨bl, _, _, rfl, rfl, by rw [upd_ne (Ne.symm bbl), upd_ne n1, upd_ne (Ne.symm tbl)]; exact hbl, by rw [List.length_map, List.length_reverse]; exact small1000 (by omega), ?_⟩
      have hat : ∀ b, b ≠ bl → b ≠ nb → b ≠ ul → b ≠ t2 → (upd (upd (upd (upd H2 t2 (.tup [.ref rt, .non, .non])) ul (.lst (ua.reverse.map V.ref ++ [.ref t2]))) nb (.lst [])) bl (.lst (ba.reverse.map V.ref ++ [.ref nb]))) b = H2 b := fun b h1 h2 h3 h4 => by rw [upd_ne h1, upd_ne h2, upd_ne h3, upd_ne h4]
      have hbl3 : (upd (upd (upd (upd H2 t2 (.tup [.ref rt, .non, .non])) ul (.lst (ua.reverse.map V.ref ++ [.ref t2]))) nb (.lst [])) bl (.lst (ba.reverse.map V.ref ++ [.ref nb]))) bl = some (.lst (ba.reverse.map V.ref ++ [.ref nb])) := upd_same
      have hul3 : (upd (upd (upd (upd H2 t2 (.tup [.ref rt, .non, .non])) ul (.lst (ua.reverse.map V.ref ++ [.ref t2]))) nb (.lst [])) bl (.lst (ba.reverse.map V.ref ++ [.ref nb]))) ul = some (.lst (ua.reverse.map V.ref ++ [.ref t2])) := by rw [upd_ne (Ne.symm n1), upd_ne (Ne.symm bul), upd_same]
      have ht3 : (upd (upd (upd (upd H2 t2 (.tup [.ref rt, .non, .non])) ul (.lst (ua.reverse.map V.ref ++ [.ref t2]))) nb (.lst [])) bl (.lst (ba.reverse.map V.ref ++ [.ref nb]))) t2 = some (.tup [.ref rt, .non, .non]) := by rw [upd_ne tbl, upd_ne (Ne.symm bt2), upd_ne tul, upd_same]
      have hnb3 : (upd (upd (upd (upd H2 t2 (.tup [.ref rt, .non, .non])) ul (.lst (ua.reverse.map V.ref ++ [.ref t2]))) nb (.lst [])) bl (.lst (ba.reverse.map V.ref ++ [.ref nb]))) nb = some (.lst []) := by rw [upd_ne bbl, upd_same]
      show Q (.bl true) (upd (upd (upd (upd H2 t2 (.tup [.ref rt, .non, .non])) ul (.lst (ua.reverse.map V.ref ++ [.ref t2]))) nb (.lst [])) bl (.lst (ba.reverse.map V.ref ++ [.ref nb])))
      revert hat hbl3 hul3 ht3 hnb3
      generalize (upd (upd (upd (upd H2 t2 (.tup [.ref rt, .non, .non])) ul (.lst (ua.reverse.map V.ref ++ [.ref t2]))) nb (.lst [])) bl (.lst (ba.reverse.map V.ref ++ [.ref nb]))) = H3
      intro hat hbl3 hul3 ht3 hnb3
      have kp : Kept (bl :: ul :: ba) H2 H3 := fun b o e hb => by
        simp only [List.mem_cons, not_or] at hb
        rw [hat b hb.1 (fun z => by rw [z, nnb] at e; cases e) hb.2.1 (fun z => by rw [z, nt2] at e; cases e)]
        exact e
      have bl2 : ∀ b ∈ ba, H3 b = H2 b := fun b hb => by
        obtain ⟨ys, e⟩ := hst.blk b hb
        exact hat b (fun z => n2 (by rw [← z]; exact hb)) (fun z => by rw [z, nnb] at e; cases e) (fun z => n3 (by rw [← z]; exact hb)) (fun z => by rw [z, nt2] at e; cases e)
      have nb1 : nb ∉ ba := fun hm => by
        obtain ⟨ys, e⟩ := hst.blk nb hm
        rw [nnb] at e
        cases e
      have gs : Same (hid (bl :: ul :: ba) H2) (hid (bl :: ul :: nb :: ba) H3) := hid_step kp fun b hb => by
        simp only [List.mem_cons] at hb ⊢
        rcases hb with hb | hb | hb | hb
        · exact .inl (.inl hb)
        · exact .inl (.inr (.inl hb))
        · exact .inr (by rw [hb]; exact nnb)
        · exact .inl (.inr (.inr hb))
      refine q (bl :: ul :: nb :: ba) H3 ⟨dx, bl, ul, nb :: ba, t2 :: ua, rfl, ?_, ?_, by rw [List.reverse_cons, List.map_append]; exact hbl3, by rw [List.reverse_cons, List.map_append]; exact hul3,
        .push (hst.move hM2 kp gs bl2) ⟨[], hnb3, .nil⟩ ⟨rt, _, _, SqT.of ht3, sqT_keptM hM2 kp hrt3, hv4, rfl, rfl⟩⟩ ?_ ?_
      · simp only [List.nodup_cons, List.mem_cons, not_or]
        exact ⟨⟨n1, Ne.symm bbl, n2⟩, ⟨Ne.symm bul, n3⟩, nb1, n4⟩
      · rw [hat p d1 (Ne.symm bp) d0 (Ne.symm tp)]
        exact h0
      · exact k02.trans (kp.mono sub2)
      · intro b hb
        simp only [List.mem_cons] at hb
        rcases hb with hb | hb | hb | hb
        · exact .inl (sub2 b (by rw [hb]; simp))
        · exact .inl (sub2 b (by rw [hb]; simp))
        · subst hb
          by_cases hm : b ∈ M
          · exact .inl hm
          · exact .inr (k02.free nnb hm)
        · exact .inl (sub2 b (by simp [hb]))
end
end Tw

set_option Elab.async false
set_option maxRecDepth 100000
set_option maxHeartbeats 4000000
/-! E5: read_program. -/
namespace Tw
open PySem PySem.Spec L2 TL PyProof.Rows
inductive Runs (W F : List Str) : List Str → Rd → Rd → Prop
  | nil (s : Rd) : Runs W F [] s s
  | cons {l : Str} {ls : List Str} {s s1 s2 : Rd} (a : Stp W F l s s1) (b : Runs W F ls s1 s2) : Runs W F (l :: ls) s s2
theorem Runs.append {W F : List Str} {l1 l2 : List Str} {s s1 s2 : Rd} (a : Runs W F l1 s s1) (b : Runs W F l2 s1 s2) : Runs W F (l1 ++ l2) s s2 := by
  induction a with
  | nil => exact b
  | cons h _ ih => exact .cons h (ih b)
mutual
theorem runR {W F : List Str} : ∀ (r : Row) {L : Nat} {s : Rd} {bs : List (List Row)} {x : List Row} {us : List Fr}, okR W F r → L + htR r ≤ 3 → us.length = L → Clo s ⟨x :: bs, us⟩ → ∃ s', Runs W F (lnR (indS L) r) s s' ∧ Clo s' ⟨(x ++ [r]) :: bs, us⟩
  | .leaf w ps, L, s, bs, x, us, ok, h, hL, c => by
    rw [lnR]
    exact ⟨_, .cons (.leaf c hL (by omega) ok) (.nil _), .refl _⟩
  | .node w vs a b, L, s, bs, x, us, ok, h, hL, c => by
    have ok' := ok
    rw [okR] at ok'
    rw [htR] at h
    rw [lnR, indS_succ]
    obtain ⟨s2, r2, c2⟩ := runL a (L := L + 1) (s := ⟨[] :: x :: bs, ⟨w, vs, none⟩ :: us⟩) (bs := x :: bs) (x := []) (us := ⟨w, vs, none⟩ :: us) ok'.2.2.1 (by omega) (by rw [List.length_cons, hL]) (.refl _)
    obtain ⟨s4, r4, c4⟩ := runL b (L := L + 1) (s := ⟨[] :: x :: bs, ⟨w, vs, some a⟩ :: us⟩) (bs := x :: bs) (x := []) (us := ⟨w, vs, some a⟩ :: us) ok'.2.2.2 (by omega) (by rw [List.length_cons, hL]) (.refl _)
    exact ⟨s4, .cons (.node c hL (by omega) ok) (r2.append (.cons (.els c2 hL (by omega)) r4)), c4.trans (.step (.refl _))⟩
theorem runL {W F : List Str} : ∀ (rs : List Row) {L : Nat} {s : Rd} {bs : List (List Row)} {x : List Row} {us : List Fr}, okL W F rs → L + htL rs ≤ 4 → us.length = L → Clo s ⟨x :: bs, us⟩ → ∃ s', Runs W F (lnL (indS L) rs) s s' ∧ Clo s' ⟨(x ++ rs) :: bs, us⟩
  | [], L, s, bs, x, us, ok, h, hL, c => by
    rw [lnL, List.append_nil]
    exact ⟨s, .nil s, c⟩
  | r :: rs, L, s, bs, x, us, ok, h, hL, c => by
    rw [okL] at ok
    rw [htL] at h
    rw [lnL]
    obtain ⟨s1, r1, c1⟩ := runR r ok.1 (by omega) hL c
    obtain ⟨s2, r2, c2⟩ := runL rs ok.2 (by omega) hL c1
    exact ⟨s2, r1.append r2, by rw [List.append_assoc] at c2; exact c2⟩
end
theorem prgT_len {W ins fs outs : List Str} {rs : List Row} (G : Prg W ins fs outs rs) : (prgT ins fs outs rs).length ≤ 4000 := by
  obtain ⟨h1, h2, _⟩ := allL_ok G
  have h3 := sum_lok (n := 60) fun x hx => (h1 x hx).1
  rw [prgT, len_tl, tl_txt]
  refine Nat.le_trans (len_joinL _ _) ?_
  have e : (((allL ins fs outs rs).map tl).map (·.length)).sum = ((allL ins fs outs rs).map (·.length)).sum := by
    rw [List.map_map]
    congr 1
  have e2 : (tl nlS).length = 1 := by decide +kernel
  rw [e, e2, List.length_map]
  omega
theorem split_lines {W ins fs outs : List Str} {rs : List Row} (G : Prg W ins fs outs rs) : Txt.split (prgT ins fs outs rs) nlS = allL ins fs outs rs := by
  obtain ⟨h1, _, h3⟩ := allL_ok G
  refine split_join (s := 10) (S := []) (by decide +kernel) (by decide +kernel) (fun e => by rw [e] at h3; exact absurd h3 (by decide)) fun p hp hm => ?_
  have := (h1 p hp).2 10 hm
  omega
def tops (ins fs outs : List Str) : List (Str × List Str) := [(Str.ofString "inputs", ins), (Str.ofString "fields", fs), (Str.ofString "outputs", outs)]
theorem tops_ok {W ins fs outs : List Str} {rs : List Row} (G : Prg W ins fs outs rs) : ∀ q ∈ tops ins fs outs, isW q.1 ∧ (∀ z ∈ q.2, isW z) ∧ q.2.length ≤ 4 := fun q hq => by
  simp only [tops, List.mem_cons, List.not_mem_nil, or_false] at hq
  rcases hq with rfl | rfl | rfl
  · exact ⟨head_isW.1, fun z hz => G.w z (G.i z hz), Nat.le_succ_of_le G.i3⟩
  · exact ⟨head_isW.2.1, G.f, Nat.le_trans G.f2 (by decide)⟩
  · exact ⟨head_isW.2.2, fun z hz => G.w z (G.o z hz), Nat.le_succ_of_le G.o3⟩
theorem allL_top (ins fs outs : List Str) (rs : List Row) : allL ins fs outs rs = (tops ins fs outs).map (fun q => Txt.join sp1 (q.1 :: q.2)) ++ lnL Str.empty rs := rfl
section
variable {P : Program} {w : World} {K : PySem.W.Frag} {mg : Str → Option Value} {base : Heap}
def sp_read_program (K : PySem.W.Frag) : Sp := fun vs H Q _ => ∃ (W ins fs outs : List Str) (rs : List Row), vs = [.str (prgT ins fs outs rs)] ∧ Prg W ins fs outs rs ∧
  ∀ (p : Addr) (H' : Hp), Same H H' → ProgAt K H' H' p ins fs outs rs → Q (.ref p) H'
theorem sc_read_program : FnScope ["text", "lines", "heads", "at", "head", "words", "reader", "line"] ["text"] (defScope s_read_program) := ⟨rfl, rfl, rfl, by decide +kernel, rfl, by decide +kernel, by decide +kernel⟩
theorem c_read_program (T : Txt w K mg) : Cal P w K mg base "read_program" 11 ["text"] (sp_read_program K) := by
  refine T.d_read_program.cal sc_read_program (fun _ _ _ _ _ _ us hl => match us, hl with | [_], _ => rfl) (fun vs H Q E h => by obtain ⟨W, ins, fs, outs, rs, rfl, _⟩ := h; rfl) (fun f cdv A outer s0 H vs Q E hr h => ?_)
  obtain ⟨W, ins, fs, outs, rs, rfl, G, q⟩ := h
  have nd := sc_read_program.nd
  have hr1 : Room 1 _ := hr.mono (by decide)
  have hr2 : Room 2 _ := hr.mono (by decide)
  have hr3 : Room 3 _ := hr.mono (by decide)
  obtain ⟨f1, fd1, F1, m1, b1⟩ := (m_take (P := P) (base := base) T).ex
  obtain ⟨f2, fd2, F2, m2, b2⟩ := (m_close_to (P := P) (base := base) T).ex
  obtain ⟨f3, fd3, F3, m3, b3⟩ := (m_is_complete (P := P) (base := base) T).ex
  obtain ⟨f4, fd4, F4, m4, b4⟩ := (m_R_init (P := P) (base := base) T).ex
  have e4 : f4 = He.ma K (cR K) "__init__" := by unfold He.ma; rw [m4.at_]
  obtain ⟨f5, fd5, F5, m5, e5, b5⟩ := (m_init (P := P) (base := base) T).ex
  have M4 := T.mk_RowReader
  rw [← e4] at M4
  have M5 := T.mk_Program
  rw [← e5] at M5
  refine ⟨_, pss_cons (ps_set (i := 1) nd rfl (Or.inl rfl) (pe_split (pv 0) pe_str))
    (pss_cons (ps_set (i := 2) nd rfl (Or.inl rfl) (pe_lst pa_nil))
    (pss_cons (ps_for PassesOwn.never rfl (pi_enumT (by rfl) T.b_enumerate (pa_cons (pe_gR T.g_HEADS) pa_nil)) (pg_tup (by rfl) (pgs_cons (pg_name (i := 3) nd rfl (Or.inl rfl)) (pgs_cons (pg_name (i := 4) nd rfl (Or.inl rfl)) pgs_nil)))
      (pss_cons (ps_if (pt_cmpR op_ge (pv 3) (pe_callB call_len_seq (by rfl) T.b_len PySem.boot_len (pa_cons (pv 1) pa_nil)) (nomark _)) (pss_one ps_never) pss_nil)
      (pss_cons (ps_set (i := 5) nd rfl (Or.inl rfl) (pe_c (c_head_words T) hr2 (pa_cons (pe_ix ix_list (pv 1) (pv 3) (fun _ _ => rfl)) (pa_cons (pv 4) pa_nil))))
      (pss_cons (ps_if (pt_cmpR op_isN (pv 5) pe_non (nomark _)) (pss_one ps_never) pss_nil)
      (pss_one (ps_expr (pe_bm PySem.F.plainAttrs_list PySem.F.slot_list_append PySem.F.type_list_append mt_append (pv 2) (pa_cons (pv 5) pa_nil))))))))
    (pss_cons (ps_set (i := 6) nd rfl (Or.inl rfl) (pe_make0 M4 F4 hr2 (by rfl) T.g_RowReader b4 .nil pass0))
    (pss_cons (ps_for PassesOwn.never rfl (pi_enum (by rfl) T.b_enumerate (pa_cons (pv 1) pa_nil)) (pg_tup (by rfl) (pgs_cons (pg_name (i := 3) nd rfl (Or.inl rfl)) (pgs_cons (pg_name (i := 7) nd rfl (Or.inl rfl)) pgs_nil)))
      (pss_one (ps_if (PW.pt (pw_and (pt_cmpR op_ge (pv 3) pe_int (nomark _)) (pw_and1 (pt_not (pt_val (pe_meth (pv 6) T.cl_RowReader m1 F1 hr3 b1 .nil pass0 (pa_cons (pv 7) pa_nil))))))) (pss_one ps_never) pss_nil)))
    (pss_cons (ps_if (pt_not (pt_val (pe_meth0 (pv 6) T.cl_RowReader m3 F3 hr1 b3 .nil pass0))) (pss_one ps_never) pss_nil)
    (pss_cons (ps_expr (pe_meth (pv 6) T.cl_RowReader m2 F2 hr1 b2 .nil pass0 (pa_cons pe_int pa_nil)))
    (pss_one (ps_ret (pe_makeK M5 F5 hr (by rfl) T.g_Program b5 pass0 (pa_cons (pe_ix ix_list (pv 2) pe_int (fun _ _ => rfl)) (pa_cons (pe_ix ix_list (pv 2) pe_int (fun _ _ => rfl)) (pa_cons (pe_ix ix_list (pe_fld (pv 6) rfl) pe_int (fun _ _ => rfl)) pa_nil))) (pk_cons (pe_ix ix_list (pv 2) pe_int (fun _ _ => rfl)) pk_nil)))))))))), ?_⟩
  obtain ⟨hok, hle, hge⟩ := allL_ok G
  refine ⟨_, rfl, ⟨_, rfl⟩, _, nlS, rfl, rfl, by decide +kernel, Nat.le_trans (Nat.add_le_add_right (prgT_len G) 2) (by decide), ?_⟩
  rw [split_lines G]
  intro pl npl
  have g1 := same_new npl (.lst ((allL ins fs outs rs).map V.str))
  refine ⟨Nat.zero_le _, fun hl nhl => ?_⟩
  have g2 := g1.trans (same_new nhl (.lst []))
  have hpl2 : (upd (upd H pl (.lst ((allL ins fs outs rs).map V.str))) hl (.lst [])) pl = some (.lst ((allL ins fs outs rs).map V.str)) := same_new nhl _ _ _ upd_same
  have pne : pl ≠ hl := fun e => by rw [← e, upd_same] at nhl; cases nhl
  refine ⟨_, _, rfl, T.heads _, for_it walk_enumT (fun i σ H' => (∃ v3 v4 v5 v6 v7, σ = [some (.str (prgT ins fs outs rs)), some (.ref pl), some (.ref hl), v3, v4, v5, v6, v7]) ∧ Same H H' ∧ H' pl = some (.lst ((allL ins fs outs rs).map V.str)) ∧
      ∃ hs : List Addr, hs.length = i ∧ H' hl = some (.lst (hs.map V.ref)) ∧ ∀ (j : Nat) (a : Addr), hs[j]? = some a → a ≠ hl ∧ ∃ y, (tops ins fs outs)[j]? = some y ∧ H' a = some (.lst (y.2.map V.str)))
    ⟨⟨_, _, _, _, _, rfl⟩, g2, hpl2, [], rfl, upd_same, fun j a e => by simp at e⟩ (fun i σ H' _ _ => T.heads H') ?_ ?_⟩
  · rintro i y σ H1 H2 hi ⟨⟨v3, v4, v5, v6, v7, rfl⟩, g, hp, hs, lhs, hh, hws⟩ ⟨tt, ix, x, rfl, nt, rfl, hix, hx⟩
    have hix : V.int (i : Nat) = ix := Option.some.inj hix
    subst hix
    have gt := same_new nt (.tup [.int (i : Nat), x])
    have hi3 : i < 3 := hi
    obtain ⟨y, hy, rfl⟩ : ∃ y, (tops ins fs outs)[i]? = some y ∧ x = .str y.1 := by
      have hx' : ((tops ins fs outs).map fun q => V.str q.1)[i]? = some x := hx
      exact map_get hx'
    obtain ⟨w1, w2, w3⟩ := tops_ok G y (List.mem_of_getElem? hy)
    have hln : (allL ins fs outs rs)[i]? = some (Txt.join sp1 (y.1 :: y.2)) := by
      rw [allL_top, List.getElem?_append_left (by rw [List.length_map]; exact hi3), List.getElem?_map, hy] <;> rfl
    refine ⟨tt, _, rfl, SqT.of upd_same, rfl, _, _, rfl, _, _, rfl, rfl, ?_⟩
    refine ⟨_, rfl, _, rfl, pl, _, rfl, .inl (SqL.of (gt _ _ hp)), _, _, rfl, rfl, _, rfl, ?_⟩
    rw [List.length_map, decide_eq_false (by omega)]
    refine iteF ⟨_, rfl, _, rfl, pl, _, _, _, rfl, rfl, SqL.of (gt _ _ hp), atI_nat (j := i) (by rw [List.getElem?_map, hln] <;> rfl), _, rfl, y.1, y.2, rfl, w1, w2, w3, fun wl H3 g3 nwl hwl => ?_⟩
    refine ⟨_, rfl, rfl, _, rfl, ?_⟩
    rw [decide_eq_false (fun z => by cases z)]
    have hh3 : H3 hl = some (.lst (hs.map V.ref)) := g3 _ _ (gt _ _ hh)
    have wne : wl ≠ hl := fun e => by rw [e, gt _ _ hh] at nwl; cases nwl
    refine iteF ⟨_, rfl, .inl ⟨rfl, _, SqL.of hh3⟩, _, rfl, hl, _, _, rfl, rfl, hh3, by rw [List.length_map]; exact small1000 (by omega), ⟨_, _, _, _, _, rfl⟩, same_upd (g.trans (gt.trans g3)) (g1.free nhl) _, by rw [upd_ne pne]; exact g3 _ _ (gt _ _ hp), hs ++ [wl], by rw [List.length_append, lhs] <;> rfl, by rw [upd_same, List.map_append] <;> rfl, fun j a e => ?_⟩
    by_cases hj : j < hs.length
    · rw [List.getElem?_append_left hj] at e
      obtain ⟨n1, y2, e1, e2⟩ := hws j a e
      exact ⟨n1, y2, e1, by rw [upd_ne n1]; exact g3 _ _ (gt _ _ e2)⟩
    · have hj' : j = i := by
        have := (List.getElem?_eq_some_iff.mp e).1
        rw [List.length_append, List.length_singleton] at this
        omega
      subst hj'
      rw [List.getElem?_append_right (by omega), show j - hs.length = 0 by omega] at e
      cases (show some wl = some a from e)
      exact ⟨wne, y, hy, by rw [upd_ne wne]; exact hwl⟩
  · rintro σ Hs ⟨⟨v3, v4, v5, v6, v7, rfl⟩, g, hp, hs, lhs, hh, hws⟩
    have lhs : hs.length = 3 := lhs
    refine fun pr dx npr ndx hne => ⟨pr, dx, rfl, upd_same, fun M H1 k1 hR fr => ⟨rfl, ?_⟩⟩
    have sm : Same Hs (upd (upd Hs dx (.own pr)) pr (.ins (cR K) dx [])) := (same_new ndx _).trans (same_new (by rw [upd_ne (Ne.symm hne)]; exact npr) _)
    have gs1 : Same Hs H1 := fun b o e => k1 b o (sm b o e) (fun hm => by rw [List.mem_singleton.mp hm, npr] at e; cases e)
    have fr1 : ∀ b ∈ M, Hs b = none := fun b hb => sm.free (fr b hb)
    obtain ⟨sEnd, hRuns, hEnd⟩ := runL rs (L := 0) (s := rd0) (bs := []) (x := []) (us := []) G.ok (by have := G.ht; omega) rfl (.refl _)
    rw [indS_0] at hRuns
    rw [List.nil_append] at hEnd
    have hdrop : (allL ins fs outs rs).drop 3 = lnL Str.empty rs := rfl
    have lall : (allL ins fs outs rs).length = 3 + (lnL Str.empty rs).length := by rw [← hdrop, List.length_drop]; omega
    refine ⟨_, rfl, pl, _, rfl, SqL.of (gs1 _ _ hp), for_it walk_enum (fun i σ H' => (∃ v3 v4 v5 v7, σ = [some (.str (prgT ins fs outs rs)), some (.ref pl), some (.ref hl), v3, v4, v5, some (.ref pr), v7]) ∧ Same Hs H' ∧
        ∃ M s, RdAt K H' pr M s ∧ (∀ b ∈ M, Hs b = none) ∧ Runs W fs ((lnL Str.empty rs).drop (i - 3)) s sEnd ∧ s.wt ≤ i)
      ⟨⟨_, _, _, _, rfl⟩, gs1, M, rd0, hR, fr1, hRuns, Nat.zero_le _⟩ (fun i σ H' _ z => SqL.of (z.2.1 _ _ hp)) ?_ ?_⟩
    · rintro i y σ H2 H3 hi ⟨⟨v3, v4, v5, v7, rfl⟩, g2, M, s, hR, fr, hRn, hwt⟩ ⟨tt, ix, x, rfl, nt, rfl, hix, hx⟩
      have hix : V.int (i : Nat) = ix := Option.some.inj hix
      subst hix
      have gt := same_new nt (.tup [.int (i : Nat), x])
      rw [List.length_map] at hi
      obtain ⟨l, hl0, rfl⟩ := map_get hx
      refine ⟨tt, _, rfl, SqT.of upd_same, rfl, _, _, rfl, _, _, rfl, rfl, ?_⟩
      refine ⟨_, rfl, _, _, rfl, rfl, _, rfl, ?_⟩
      by_cases h3 : 3 ≤ i
      · rw [decide_eq_true (by omega)]
        have hl1 : (lnL Str.empty rs)[i - 3]? = some l := by
          rw [← hdrop, List.getElem?_drop, show 3 + (i - 3) = i by omega]
          exact hl0
        rw [drop_get hl1] at hRn
        cases hRn with
        | @cons _ _ _ s1 _ hst hrest =>
          have hR3 := hR.same gt
          obtain ⟨dx2, bl, ul, ba, ua, eM, ndM, h0, _, _, _⟩ := hR3.ex
          refine iteT ⟨_, rfl, pr, dx2, _, rfl, h0, rF_m3 _ _, _, rfl, pr, M, s, s1, l, W, fs, rfl, hR3, hst, G.w, G.f, by omega, fun M' H4 hR4 k4 sub4 => ⟨true, rfl, iteF ⟨⟨_, _, _, _, rfl⟩, ?_, M', s1, hR4, ?_, ?_, ?_⟩⟩⟩
          · exact fun b o e => k4 b o (gt _ _ (g2 b o e)) (fun hm => by rw [fr b hm] at e; cases e)
          · intro b hb
            rcases sub4 b hb with hb | hb
            · exact fr b hb
            · exact (g2.trans gt).free hb
          · rw [show i + 1 - 3 = i - 3 + 1 by omega]
            exact hrest
          · have := hst.wt
            omega
      · rw [decide_eq_false (by omega)]
        refine iteF (iteF ⟨⟨_, _, _, _, rfl⟩, g2.trans gt, M, s, hR.same gt, fr, ?_, by omega⟩)
        rw [show i + 1 - 3 = i - 3 by omega]
        exact hRn
    · rintro σ H2 ⟨⟨v3, v4, v5, v7, rfl⟩, g2, M, s, hR, fr, hRn, hwt⟩
      rw [List.length_map, lall, show 3 + (lnL Str.empty rs).length - 3 = (lnL Str.empty rs).length by omega, List.drop_length] at hRn
      rw [List.length_map] at hwt
      cases hRn
      obtain ⟨dx2, bl, ul, ba, ua, eM, ndM, h0, _, _, _⟩ := hR.ex
      obtain ⟨top, et, ntop⟩ := hEnd.split
      rw [List.append_nil] at et
      have hfew := us_few sEnd
      refine ⟨_, rfl, pr, dx2, _, rfl, h0, rF_m4 _ _, pr, M, sEnd, rfl, hR, by omega, by rw [et]; exact ntop, fun H3 g3 => ⟨true, rfl, iteF ?_⟩⟩
      refine ⟨_, rfl, pr, dx2, _, rfl, g3 _ _ h0, rF_m2 _ _, pr, M, sEnd, _, 0, rfl, hR.same g3, hEnd, rfl, by omega, fun M4 H4 hR4 k4 sub4 => ?_⟩
      have g4 : Same Hs H4 := fun b o e => k4 b o (g3 _ _ (g2 b o e)) (fun hm => by rw [fr b hm] at e; cases e)
      obtain ⟨dx4, bl4, ul4, ba4, ua4, eM4, ndM4, h04, hbl4, hul4, hst4⟩ := hR4.ex
      cases hst4 with
      | @one b _ hb =>
        obtain ⟨xs, hbx, dxs⟩ := hb
        match hs, lhs with
        | [a1, a2, a3], _ =>
          obtain ⟨_, y1, ey1, hy1⟩ := hws 0 a1 rfl
          obtain ⟨_, y2, ey2, hy2⟩ := hws 1 a2 rfl
          obtain ⟨_, y3, ey3, hy3⟩ := hws 2 a3 rfl
          cases ey1
          cases ey2
          cases ey3
          have hh4 := SqL.of (K := K) (g4 _ _ hh)
          have dd : Dp K H4 (.ref b) (.list (dL rs)) := .lst (SqL.of hbx) (dpAll_same (hid_le _ _) dxs)
          refine ⟨_, rfl, hl, _, 0, _, rfl, rfl, hh4, at_0 _ _, _, rfl, hl, _, 1, _, rfl, rfl, hh4, rfl, _, rfl, pr, _, dx4, _, _, rfl, h04, T.cl_RowReader, T.n_blocks, rF_blocks _ _, bl4, _, 0, _, rfl, rfl, SqL.of hbl4, at_0 _ _, _, rfl, hl, _, 2, _, rfl, rfl, hh4, rfl, rfl, rfl, fun x dx nx ndx hne => ?_⟩
          have sx : Same H4 (upd (upd H4 dx (.own x)) x (.ins (cP K) dx [])) := (same_new ndx _).trans (same_new (by rw [upd_ne (Ne.symm hne)]; exact nx) _)
          refine ⟨x, dx, a1, a2, b, a3, W, ins, fs, outs, rs, rfl, upd_same, SqL.of (sx _ _ (g4 _ _ hy1)), SqL.of (sx _ _ (g4 _ _ hy2)), SqL.of (sx _ _ (g4 _ _ hy3)), dp_same sx dd, G, fun H5 k5 PA => ⟨rfl, q x H5 (fun c o e => ?_) PA⟩⟩
          exact k5 c o (sx _ _ (g4 _ _ (g c o e))) (fun hm => by
            have := g4 _ _ (g c o e)
            rw [List.mem_singleton.mp hm, nx] at this
            cases this)
end
end Tw

set_option Elab.async false
set_option maxRecDepth 100000
set_option maxHeartbeats 4000000
/-! F1: the law's draws and words. -/
namespace Tw
open PySem PySem.Spec L2 TL PyProof.Rows
def StAt (H : Hp) (st : Addr) : Prop := ∃ g a b : Int, H st = some (.lst [.int g, .int a, .int b])
theorem StAt.kept {S : List Addr} {H H' : Hp} {st : Addr} (h : StAt H st) (k : Kept S H H') (n : st ∉ S) : StAt H' st := by
  obtain ⟨g, a, b, e⟩ := h
  exact ⟨g, a, b, k _ _ e n⟩
theorem StAt.same {H H' : Hp} {st : Addr} (h : StAt H st) (k : Same H H') : StAt H' st := by
  obtain ⟨g, a, b, e⟩ := h
  exact ⟨g, a, b, k _ _ e⟩
theorem StAt.ne {H : Hp} {st p : Addr} (h : StAt H st) (n : H p = none) : st ≠ p := by
  obtain ⟨g, a, b, e⟩ := h
  rintro rfl
  rw [n] at e
  cases e
theorem mod_nat (i : Int) {n : Nat} (h : 0 < n) : ∃ v : Nat, v < n ∧ i % (n : Int) = (v : Int) := by
  have h1 := Int.emod_nonneg i (show (n : Int) ≠ 0 by omega)
  have h2 := Int.emod_lt_of_pos i (show (0 : Int) < (n : Int) by omega)
  exact ⟨(i % (n : Int)).toNat, by omega, by omega⟩
theorem set3_0 (x y z v : V) : [x, y, z].set 0 v = [v, y, z] := rfl
theorem set3_1 (x y z v : V) : [x, y, z].set 1 v = [x, v, z] := rfl
theorem set3_2 (x y z v : V) : [x, y, z].set 2 v = [x, y, v] := rfl
section
variable {P : Program} {w : World} {K : PySem.W.Frag} {mg : Str → Option Value} {base : Heap}
/-! _law_state -/
def sp_law_state (K : PySem.W.Frag) : Sp := fun vs H Q _ => ∃ (sc : Addr) (ns : List Int) (k : Nat), vs = [.ref sc, .int (k : Nat)] ∧ SqL K H sc (ns.map V.int) ∧ k ≤ 10000 ∧
  ∀ (st : Addr) (H' : Hp), Same H H' → H st = none → StAt H' st → Q (.ref st) H'
theorem sc_law_state : FnScope ["_law_script", "_law_k", "_law_cell", "_law_great"] ["_law_script", "_law_k"] (defScope s_law_state) := ⟨rfl, rfl, rfl, by decide +kernel, rfl, by decide +kernel, by decide +kernel⟩
theorem c_law_state (T : Txt w K mg) : Cal P w K mg base "_law_state" 1 ["_law_script", "_law_k"] (sp_law_state K) := by
  refine T.d_law_state.cal sc_law_state (fun _ _ _ _ _ _ us hl => match us, hl with | [_, _], _ => rfl) (fun vs H Q E h => by obtain ⟨sc, ns, k, rfl, _⟩ := h; rfl) (fun f cdv A outer s H vs Q E hr h => ?_)
  obtain ⟨sc, ns, k, rfl, hs, hk, q⟩ := h
  have nd := sc_law_state.nd
  refine ⟨_, pss_cons (ps_set (i := 2) nd rfl (Or.inl rfl) pe_int)
    (C8.pss_cut (ps_if (pt_cmpR op_lt (pv 1) (pe_callB call_len_seq (by rfl) T.b_len PySem.boot_len (pa_cons (pv 0) pa_nil)) (nomark _)) (pss_one (ps_set (i := 2) nd rfl (Or.inl rfl) (pe_ix ix_list (pv 0) (pv 1) (fun _ _ => rfl)))) pss_nil)
    (pss_cons (ps_set (i := 3) nd rfl (Or.inl rfl) pe_int)
    (C8.pss_cut (ps_if (pt_cmpR op_ge (pv 2) (pe_op op_pow pe_int pe_int) (nomark _)) (pss_one (ps_set (i := 3) nd rfl (Or.inl rfl) (pv 2))) pss_nil)
    (pss_one (ps_ret (pe_lst (pa_cons (pv 3) (pa_cons (pe_op op_add (pe_op op_mod (pe_callTy call_int1 (by rfl) T.b_int boot_int (pa_cons (pv 2) pa_nil)) pe_int) (pe_op op_mul pe_int (pv 1))) (pa_cons pe_int pa_nil))))))))), ?_⟩
  refine ⟨fun σ' H' => H = H' ∧ ∃ c : Int, σ' = [some (.ref sc), some (.int (k : Nat)), some (.int c), none], ?_, ?_⟩
  · refine ⟨_, rfl, _, rfl, sc, _, rfl, .inl hs, _, _, rfl, rfl, _, rfl, ?_⟩
    refine ite2 (fun e => ?_) (fun _ => ⟨rfl, 0, rfl⟩)
    have e' := of_decide_eq_true e
    have hlt : k < ns.length := by rw [List.length_map] at e'; omega
    exact ⟨_, rfl, _, rfl, sc, _, _, _, rfl, rfl, hs, atI_nat (j := k) (by rw [List.getElem?_map, List.getElem?_eq_getElem hlt] <;> rfl), rfl, _, rfl⟩
  · rintro σ' H' ⟨rfl, c, rfl⟩
    refine ⟨fun σ' H' => H = H' ∧ ∃ g : Int, σ' = [some (.ref sc), some (.int (k : Nat)), some (.int c), some (.int g)], ?_, ?_⟩
    · refine ⟨_, rfl, 10, 18, rfl, rfl, ⟨by decide, by decide, by decide⟩, _, _, rfl, rfl, _, rfl, ?_⟩
      exact ite2 (fun e => ⟨_, rfl, rfl, _, rfl⟩) (fun _ => ⟨rfl, 0, rfl⟩)
    · rintro σ' H' ⟨rfl, g, rfl⟩
      refine ⟨_, rfl, _, rfl, .inl ⟨c, rfl, ?_⟩⟩
      refine ⟨_, 2147483647, rfl, rfl, (by show (0 : Int) < 2147483647; decide), _, rfl, 977, _, rfl, rfl, .inl ⟨by decide, by decide⟩, _, _, rfl, rfl, (by show 3 ≤ sizeLine; decide), fun l nl => ?_⟩
      exact q l _ (same_new nl _) nl ⟨_, _, _, upd_same⟩
/-! _law_draw -/
def sp_law_draw : Sp := fun vs H Q _ => ∃ (st : Addr) (n : Nat), vs = [.ref st, .int (n : Nat)] ∧ StAt H st ∧ 0 < n ∧ n ≤ 1000 ∧
  ∀ (v : Nat) (H' : Hp), v < n → StAt H' st → Kept [st] H H' → Q (.int (v : Nat)) H'
theorem sc_law_draw : FnScope ["_law_state_here", "_law_size", "_law_value", "_law_number"] ["_law_state_here", "_law_size"] (defScope s_law_draw) := ⟨rfl, rfl, rfl, by decide +kernel, rfl, by decide +kernel, by decide +kernel⟩
theorem c_law_draw (T : Txt w K mg) : Cal P w K mg base "_law_draw" 1 ["_law_state_here", "_law_size"] sp_law_draw := by
  refine T.d_law_draw.cal sc_law_draw (fun _ _ _ _ _ _ us hl => match us, hl with | [_, _], _ => rfl) (fun vs H Q E h => by obtain ⟨st, n, rfl, _⟩ := h; rfl) (fun f cdv A outer s H vs Q E hr h => ?_)
  obtain ⟨st, n, rfl, ⟨g, a, b, hst⟩, hn, hn2, q⟩ := h
  have nd := sc_law_draw.nd
  have at0 : ∀ {o : Expr} {p1 p2 p3 : Pos} {X : Cx}, True := trivial
  refine ⟨_, pss_cons (ps_if (pt_cmpR op_gt (pe_ix (r := rIxL K) ix_list (pv 0) pe_int (fun _ _ => rfl)) pe_int (nomark _))
      (pss_cons (ps_set (i := 2) nd rfl (Or.inl rfl) (pe_op op_mod (pe_callTy call_int1 (by rfl) T.b_int boot_int (pa_cons (pe_ix ix_list (pv 0) pe_int (fun _ _ => rfl)) pa_nil)) (pv 1)))
      (pss_cons (ps_asg (pe_op op_fdiv (pe_ix ix_list (pv 0) pe_int (fun _ _ => rfl)) (pv 1)) (pg_sub (pv 0) pe_int set_list))
      (pss_one (ps_ret (pv 2))))) pss_nil)
    (pss_cons (ps_asg (pe_op op_add (pe_ix ix_list (pv 0) pe_int (fun _ _ => rfl)) pe_int) (pg_sub (pv 0) pe_int set_list))
    (pss_cons (ps_set (i := 3) nd rfl (Or.inl rfl) (pe_op op_mod (pe_callTy call_int1 (by rfl) T.b_int boot_int (pa_cons (pe_op op_add (pe_op op_add (pe_op op_mul (pe_ix ix_list (pv 0) pe_int (fun _ _ => rfl)) pe_int) (pe_op op_mul (pe_ix ix_list (pv 0) pe_int (fun _ _ => rfl)) pe_int)) pe_int) pa_nil)) pe_int))
    (pss_cons (ps_set (i := 3) nd rfl (Or.inl rfl) (pe_op op_mod (pe_callTy call_int1 (by rfl) T.b_int boot_int (pa_cons (pe_op op_mul (pv 3) (pe_op op_add (pe_op op_fdiv (pv 3) pe_int) pe_int)) pa_nil)) pe_int))
    (pss_cons (ps_asg (pe_op op_add (pe_op op_mod (pe_callTy call_int1 (by rfl) T.b_int boot_int (pa_cons (pe_op op_mul (pv 3) (pe_op op_add (pe_op op_fdiv (pv 3) pe_int) pe_int)) pa_nil)) pe_int) (pe_ix ix_list (pv 0) pe_int (fun _ _ => rfl))) (pg_sub (pv 0) pe_int set_list))
    (pss_one (ps_ret (pe_op op_mod (pe_callTy call_int1 (by rfl) T.b_int boot_int (pa_cons (pe_op op_fdiv (pe_ix ix_list (pv 0) pe_int (fun _ _ => rfl)) pe_int) pa_nil)) (pv 1)))))))), ?_⟩
  refine ⟨_, rfl, st, _, 0, _, rfl, rfl, SqL.of hst, at_0 _ _, g, 0, rfl, rfl, _, rfl, ?_⟩
  refine ite2 (fun _ => ?_) (fun _ => ?_)
  · refine ⟨_, rfl, st, _, 0, _, rfl, rfl, SqL.of hst, at_0 _ _, .inl ⟨g, rfl, _, rfl, g, n, rfl, rfl, (by show (0 : Int) < (n : Int); omega), ?_⟩⟩
    obtain ⟨v, hv, ev⟩ := mod_nat g hn
    simp only [ev]
    refine ⟨_, rfl, st, _, 0, _, rfl, rfl, SqL.of hst, at_0 _ _, _, rfl, g, n, rfl, rfl, ⟨by omega, by omega⟩, _, rfl, st, _, 0, 0, rfl, rfl, hst, rfl, ?_⟩
    refine ⟨_, rfl, q v _ hv ⟨_, _, _, upd_same⟩ (Kept.upd (List.mem_singleton.mpr rfl))⟩
  · refine ⟨_, rfl, st, _, 2, _, rfl, rfl, SqL.of hst, rfl, b, 1, rfl, rfl, _, rfl, st, _, 2, 2, rfl, rfl, hst, rfl, ?_⟩
    have k1 : Kept [st] H (upd H st (.lst ([.int g, .int a, .int b].set 2 (.int (b + 1))))) := Kept.upd (List.mem_singleton.mpr rfl)
    have h1 : (upd H st (.lst ([.int g, .int a, .int b].set 2 (.int (b + 1))))) st = some (.lst [.int g, .int a, .int (b + 1)]) := upd_same
    revert k1 h1
    generalize (upd H st (.lst ([.int g, .int a, .int b].set 2 (.int (b + 1))))) = H1
    intro k1 h1
    refine ⟨_, rfl, st, _, 1, _, rfl, rfl, SqL.of h1, rfl, a, 48271, rfl, rfl, .inr ⟨by decide, by decide⟩, _, rfl, st, _, 2, _, rfl, rfl, SqL.of h1, rfl, b + 1, 7919, rfl, rfl, .inr ⟨by decide, by decide⟩, _, _, rfl, rfl, _, 1, rfl, rfl, .inl ⟨_, rfl, _, 2147483647, rfl, rfl, (by show (0 : Int) < 2147483647; decide), ?_⟩⟩
    obtain ⟨v1, hv1, ev1⟩ := mod_nat (a * 48271 + (b + 1) * 7919 + 1) (n := 2147483647) (by decide)
    have ev1 : (a * 48271 + (b + 1) * 7919 + 1) % 2147483647 = (v1 : Int) := ev1
    simp only [ev1]
    have d1 : (v1 : Int) / 1009 ≤ v1 := Int.ediv_le_self _ (by omega)
    have d1' : 0 ≤ (v1 : Int) / 1009 := Int.ediv_nonneg (by omega) (by decide)
    refine ⟨_, rfl, _, rfl, (v1 : Int), 1009, rfl, rfl, ⟨by decide, by decide⟩, _, 69621, rfl, rfl, (v1 : Int), _, rfl, rfl, .inl ⟨by omega, by omega⟩, .inl ⟨_, rfl, _, 2147483629, rfl, rfl, (by show (0 : Int) < 2147483629; decide), ?_⟩⟩
    obtain ⟨v2, hv2, ev2⟩ := mod_nat ((v1 : Int) * ((v1 : Int) / 1009 + 69621)) (n := 2147483629) (by decide)
    have ev2 : ((v1 : Int) * ((v1 : Int) / 1009 + 69621)) % 2147483629 = (v2 : Int) := ev2
    simp only [ev2]
    refine ⟨_, rfl, _, rfl, (v2 : Int), 2003, rfl, rfl, ⟨by decide, by decide⟩, _, 40692, rfl, rfl, (v2 : Int), _, rfl, rfl, .inl ⟨by omega, by omega⟩, .inl ⟨_, rfl, _, 2147483399, rfl, rfl, (by show (0 : Int) < 2147483399; decide), _, rfl, st, _, 2, _, rfl, rfl, SqL.of h1, rfl, _, _, rfl, rfl, _, rfl, st, _, 1, 1, rfl, rfl, h1, rfl, ?_⟩⟩
    refine ⟨_, rfl, st, _, 1, _, rfl, rfl, SqL.of upd_same, rfl, _, 16, rfl, rfl, ⟨by decide, by decide⟩, .inl ⟨_, rfl, _, rfl, _, n, rfl, rfl, (by show (0 : Int) < (n : Int); omega), ?_⟩⟩
    obtain ⟨v, hv, ev⟩ := mod_nat (((v2 : Int) * ((v2 : Int) / 2003 + 40692) % 2147483399 + (b + 1)) / 16) hn
    simp only [ev]
    exact q v _ hv ⟨_, _, _, upd_same⟩ (k1.trans (Kept.upd (List.mem_singleton.mpr rfl)))
end
end Tw

set_option Elab.async false
set_option maxRecDepth 100000
set_option maxHeartbeats 4000000
/-! F2: the law's words. -/
namespace Tw
open PySem PySem.Spec L2 TL PyProof.Rows
def abc : Str := Str.ofString "abcdefghijklmnopqrstuvwxyz"
def one (c : Nat) : Str := ⟨#[c]⟩
theorem abc_at {v : Nat} (h : v < 26) : atI abc.cps.toList ((v : Nat) : Int) = some (97 + v) := by
  refine atI_nat ?_
  have : ∀ v, v < 26 → abc.cps.toList[v]? = some (97 + v) := by decide +kernel
  exact this v h
theorem one_W {c : Nat} (h1 : 97 ≤ c) (h2 : c ≤ 122) : isW (one c) := ⟨Nat.le_refl _, (by decide : 1 ≤ 8), fun d hd => by
  have e : d = c := by simpa [one] using hd
  rw [e]
  exact ⟨h1, h2⟩⟩
theorem one_inj {a b : Nat} (h : one a = one b) : a = b := by
  injection h with h
  simpa using h
theorem tl_ones (cs : List Nat) : tl (Txt.join Str.empty (cs.map one)) = cs := by
  rw [tl_txt]
  have e : ∀ cs : List Nat, joinL [] ((cs.map one).map tl) = cs := by
    intro cs
    induction cs with
    | nil => rfl
    | cons c cs ih =>
      cases cs with
      | nil => rfl
      | cons d ds =>
        show [c] ++ ([] ++ joinL [] (((d :: ds).map one).map tl)) = c :: d :: ds
        rw [ih] <;> rfl
  exact e cs
theorem ones_W {cs : List Nat} (h1 : 1 ≤ cs.length) (h2 : cs.length ≤ 8) (h : ∀ c ∈ cs, 97 ≤ c ∧ c ≤ 122) : isW (Txt.join Str.empty (cs.map one)) :=
  ⟨by rw [len_tl, tl_ones]; exact h1, by rw [len_tl, tl_ones]; exact h2, fun c hc => h c (by rw [← tl_ones cs]; exact hc)⟩
theorem ones_sum (cs : List Nat) : ((cs.map one).map (·.length)).sum = cs.length := by
  induction cs with
  | nil => rfl
  | cons c cs ih =>
    rw [List.map_cons, List.map_cons, List.sum_cons, ih, List.length_cons]
    show 1 + _ = _
    omega
section
variable {P : Program} {w : World} {K : PySem.W.Frag} {mg : Str → Option Value} {base : Heap}
def sp_law_words (K : PySem.W.Frag) : Sp := fun vs H Q _ => ∃ (st : Addr) (n : Nat), vs = [.ref st, .int (n : Nat)] ∧ StAt H st ∧ n ≤ 5 ∧
  ∀ (l : Addr) (ws : List Str) (H' : Hp), ws.length = n → ws.Nodup → (∀ x ∈ ws, isW x) → H l = none → H' l = some (.lst (ws.map V.str)) → StAt H' st → Kept [st] H H' → Q (.ref l) H'
theorem sc_law_words : FnScope ["_law_state_here", "_law_many", "_law_letters", "_law_words_here", "_law_k", "_law_size", "_law_word", "_law_at"] ["_law_state_here", "_law_many"] (defScope s_law_words) := ⟨rfl, rfl, rfl, by decide +kernel, rfl, by decide +kernel, by decide +kernel⟩
theorem c_law_words (T : Txt w K mg) : Cal P w K mg base "_law_words" 2 ["_law_state_here", "_law_many"] (sp_law_words K) := by
  refine T.d_law_words.cal sc_law_words (fun _ _ _ _ _ _ us hl => match us, hl with | [_, _], _ => rfl) (fun vs H Q E h => by obtain ⟨st, n, rfl, _⟩ := h; rfl) (fun f cdv A outer s H vs Q E hr h => ?_)
  obtain ⟨st, n, rfl, hst, hn, q⟩ := h
  have nd := sc_law_words.nd
  refine ⟨_, pss_cons (ps_set (i := 2) nd rfl (Or.inr rfl) pe_str)
    (pss_cons (ps_set (i := 3) nd rfl (Or.inl rfl) (pe_lst pa_nil))
    (pss_cons (ps_for PassesOwn.never rfl (pi_range1 (by rfl) T.b_range (pa_cons (pv 1) pa_nil)) (pg_name (i := 4) nd rfl (Or.inl rfl))
      (pss_cons (ps_set (i := 5) nd rfl (Or.inl rfl) (pe_op op_add pe_int (pe_op op_mul (pe_c (c_law_draw T) hr (pa_cons (pv 0) (pa_cons pe_int pa_nil))) (pe_c (c_law_draw T) hr (pa_cons (pv 0) (pa_cons pe_int pa_nil))))))
      (pss_cons (ps_set (i := 6) nd rfl (Or.inl rfl) (pe_join pe_str (pe_lc (own := [("_law_at", 7)]) (g := gName 7) (by rfl) nd (pi_range1 (by rfl) T.b_range (pa_cons (pv 5) pa_nil))
          (blkOk_by (own := [("_law_at", 7)]) (N := ["_law_state_here", "_law_many", "_law_letters", "_law_words_here", "_law_k", "_law_size", "_law_word", "_law_at"]) (sc := defScope s_law_words) (by decide +kernel))
          (fun _ _ _ _ _ => pg_name (i := 7) nd rfl (Or.inl rfl)) (fun _ _ _ _ _ => pts_nil) (fun _ _ _ _ _ => pe_ix (r := rIxS) ix_str (pv 2) (pe_c (c_law_draw T) hr (pa_cons (pv 0) (pa_cons pe_int pa_nil))) (fun _ _ => rfl)))))
      (pss_cons (ps_for PassesOwn.never rfl (pi_range1 (by rfl) T.b_range (pa_cons (pv 1) pa_nil)) (pg_name (i := 7) nd rfl (Or.inl rfl))
        (pss_one (ps_if (pt_cmpR op_in_seq (pv 6) (pv 3) (by rfl)) (pss_one (ps_set (i := 6) nd rfl (Or.inl rfl) (pe_ix ix_str (pv 2) (pv 7) (fun _ _ => rfl)))) pss_nil)))
      (pss_one (ps_expr (pe_bm PySem.F.plainAttrs_list PySem.F.slot_list_append PySem.F.type_list_append mt_append (pv 3) (pa_cons (pv 6) pa_nil))))))))
    (pss_one (ps_ret (pv 3))))), ?_⟩
  refine ⟨Nat.zero_le _, fun l nl => ?_⟩
  have stl : st ≠ l := hst.ne nl
  have hst1 : StAt (upd H l (.lst [])) st := hst.same (same_new nl _)
  refine ⟨_, rfl, n, rfl, by omega, by omega, for_it walk_range (fun i σ H' => (∃ v4 v5 v6 v7, σ = [some (.ref st), some (.int (n : Nat)), some (.str abc), some (.ref l), v4, v5, v6, v7]) ∧ StAt H' st ∧ Kept [st] H H' ∧
      ∃ ws : List Str, ws.length = i ∧ ws.Nodup ∧ (∀ x ∈ ws, isW x) ∧ H' l = some (.lst (ws.map V.str))) ⟨⟨_, _, _, _, rfl⟩, hst1, Kept.of (same_new nl _), [], rfl, .nil, (fun x hx => by cases hx), upd_same⟩ (fun _ _ _ _ _ => trivial) ?_ ?_⟩
  · rintro i y σ H0 H1 hi ⟨⟨v4, v5, v6, v7, rfl⟩, hst1, k1, ws, lws, ndw, wW, hl⟩ ⟨rfl, rfl⟩
    refine ⟨_, rfl, st, 2, rfl, hst1, by decide, by decide, fun v1 Ha hv1 sta ka => ⟨_, rfl, st, 8, rfl, sta, by decide, by decide, fun v2 Hb hv2 stb kb => ⟨_, _, rfl, rfl, .inl ⟨by omega, by omega⟩, 1, _, rfl, rfl, ?_⟩⟩⟩
    obtain ⟨sz, esz, h1, h8⟩ : ∃ sz : Nat, 1 + (v1 : Int) * (v2 : Int) = (sz : Int) ∧ 1 ≤ sz ∧ sz ≤ 8 := by
      rcases (by omega : v1 = 0 ∨ v1 = 1) with rfl | rfl
      · exact ⟨1, by simp, by decide, by decide⟩
      · exact ⟨1 + v2, by simp, by omega, by omega⟩
    simp only [esz]
    have kab : Kept [st] H1 Hb := ka.trans kb
    have hlb : Hb l = some (.lst (ws.map V.str)) := kab _ _ hl (by simp [Ne.symm stl])
    refine ⟨⟨_, rfl⟩, _, rfl, sz, rfl, by omega, by omega, fun D nD => ?_⟩
    have sD : st ≠ D := stb.ne nD
    have lD : l ≠ D := fun e => by rw [← e, hlb] at nD; cases nD
    refine lc_it walk_range (fun j H' => StAt H' st ∧ Kept [st] Hb H' ∧ ∃ cs : List Nat, cs.length = j ∧ (∀ c ∈ cs, 97 ≤ c ∧ c ≤ 122) ∧ H' D = some (.lst ((cs.map one).map V.str)))
      ⟨stb.same (same_new nD _), Kept.of (same_new nD _), [], rfl, (fun c hc => by cases hc), upd_same⟩ (fun _ _ _ _ => trivial) ?_ ?_
    · rintro j y H2 H3 hj ⟨st2, k2, cs, lcs, hcs, hD⟩ ⟨rfl, rfl⟩
      refine ⟨rfl, _, rfl, _, rfl, st, 26, rfl, st2, by decide, by decide, fun v H4 hv st4 k4 => ⟨abc, _, 97 + v, rfl, rfl, (by show 26 ≤ sizeLine; decide), abc_at hv, _, k4 _ _ hD (by simp [Ne.symm sD]), by rw [List.length_map, List.length_map]; exact small1000 (by omega), ?_, ?_, cs ++ [97 + v], by rw [List.length_append, lcs] <;> rfl, fun c hc => ?_, ?_⟩⟩
      · exact st4.kept (Kept.upd (S := [D]) (List.mem_singleton.mpr rfl)) (by simp [sD])
      · exact fun b o e hb => by
          rw [upd_ne (fun z => by rw [z, nD] at e; cases e)]
          exact k4 b o (k2 b o e hb) hb
      · rcases List.mem_append.mp hc with hc | hc
        · exact hcs c hc
        · rw [List.mem_singleton.mp hc]
          exact ⟨by omega, by omega⟩
      · rw [upd_same, List.map_append, List.map_append] <;> rfl
    · rintro H2 ⟨st2, k2, cs, lcs, hcs, hD⟩
      have hl2 : H2 l = some (.lst (ws.map V.str)) := k2 _ _ hlb (by simp [Ne.symm stl])
      refine ⟨Str.empty, D, cs.map one, rfl, rfl, .inl (SqL.of hD), by rw [ones_sum, List.length_map]; show cs.length + cs.length * 0 ≤ _; omega, ?_⟩
      have wW0 := ones_W (cs := cs) (by omega) (by omega) hcs
      revert wW0
      generalize Txt.join Str.empty (cs.map one) = wd0
      intro wW0
      refine ⟨_, rfl, n, rfl, by omega, by omega, for_it walk_range (fun j σ H' => (∃ v4 v5 v7 wd, σ = [some (.ref st), some (.int (n : Nat)), some (.str abc), some (.ref l), v4, v5, some (.str wd), v7] ∧ isW wd ∧ (wd ∈ ws → ∀ m, m < j → one (97 + m) ∈ ws)) ∧ H2 = H')
        ⟨⟨_, _, _, wd0, rfl, wW0, fun _ m hm => absurd hm (Nat.not_lt_zero m)⟩, rfl⟩ (fun _ _ _ _ _ => trivial) ?_ ?_⟩
      · rintro j y σ H3 H4 hj ⟨⟨v4, v5, v7, wd, rfl, wW1, inv⟩, rfl⟩ ⟨rfl, rfl⟩
        refine ⟨_, rfl, _, rfl, l, _, rfl, .inl (SqL.of hl2), rfl, flat_strs _, _, rfl, ?_⟩
        rw [inV_str]
        refine ite2 (fun e => ?_) (fun e => ⟨⟨_, _, _, wd, rfl, wW1, fun hm => absurd (decide_eq_true hm) e⟩, rfl⟩)
        have hm := of_decide_eq_true e
        refine ⟨_, rfl, _, rfl, abc, _, 97 + j, rfl, rfl, (by show 26 ≤ sizeLine; decide), ?_, ⟨_, _, _, one (97 + j), rfl, one_W (by omega) (by omega), fun hm2 m hlt => ?_⟩, rfl⟩
        · have := abc_at (v := j) (by omega)
          simpa using this
        · by_cases e2 : m < j
          · exact inv hm m e2
          · rw [show m = j by omega]
            exact hm2
      · rintro σ H3 ⟨⟨v4, v5, v7, wd, rfl, wW1, inv⟩, rfl⟩
        have hnot : wd ∉ ws := fun hm => by
          have h := nd_few (xs := (List.range n).map fun m => one (97 + m)) (ys := ws) ?_ ?_
          · rw [List.length_map, List.length_range, lws] at h
            omega
          · exact List.Pairwise.map _ (fun a b hab hne => hab (by have := one_inj hne; omega)) List.nodup_range
          · intro x hx
            obtain ⟨m, hm2, rfl⟩ := List.mem_map.mp hx
            exact inv hm m (List.mem_range.mp hm2)
        refine ⟨_, rfl, .inl ⟨rfl, _, SqL.of hl2⟩, _, rfl, l, _, _, rfl, rfl, hl2, by rw [List.length_map]; exact small1000 (by omega), ⟨_, _, _, _, rfl⟩, ?_, ?_, ws ++ [wd], by rw [List.length_append, lws] <;> rfl, ?_, ?_, ?_⟩
        · exact st2.kept (Kept.upd (S := [l]) (List.mem_singleton.mpr rfl)) (by simp [stl])
        · exact fun b o e hb => by
            rw [upd_ne (fun z => by rw [z, nl] at e; cases e)]
            exact k2 b o (kab b o (k1 b o e hb) hb) hb
        · exact List.nodup_append.mpr ⟨ndw, List.nodup_cons.mpr ⟨List.not_mem_nil, .nil⟩, fun a ha b hb => by rw [List.mem_singleton.mp hb]; rintro rfl; exact hnot ha⟩
        · intro x hx
          rcases List.mem_append.mp hx with hx | hx
          · exact wW x hx
          · rw [List.mem_singleton.mp hx]
            exact wW1
        · rw [upd_same, List.map_append] <;> rfl
  · rintro σ H1 ⟨⟨v4, v5, v6, v7, rfl⟩, hst1, k1, ws, lws, ndw, wW, hl⟩
    exact ⟨_, rfl, q l ws H1 (by omega) ndw wW nl hl hst1 k1⟩
end
end Tw

set_option Elab.async false
set_option maxRecDepth 100000
set_option maxHeartbeats 4000000
/-! F3: the law's plan; one plain row. -/
namespace Tw
open PySem PySem.Spec L2 TL PyProof.Rows
def keysL : List Str := ["words", "readers", "at", "fields", "live", "rows", "look", "copy", "watch", "deep", "far", "inputs", "outputs", "body", "lines"]
def keyS (i : Nat) : Str := keysL.getD i ""
def ky (i : Nat) : Key := .inr (keyS i)
theorem ky_inj : ∀ i, i < 15 → ∀ j, j < 15 → ky j = ky i → j = i := by
  have h : ∀ i, i < 15 → ∀ j, j < 15 → keyS j = keyS i → j = i := by decide +kernel
  intro i hi j hj e
  exact h i hi j hj (by injection e)
/-- what stands under the first keys -/
def DictL (kvs : List (Key × V)) (L : List V) : Prop := ∀ i v, L[i]? = some v → valV kvs (ky i) = some v
theorem putK_len {kvs : List (Key × V)} {k : Key} {v : V} (h : (valV kvs k).isSome = true) : (putK kvs k v).length = kvs.length := by
  unfold putK
  rw [valV_any, if_pos h, List.length_map]
theorem DictL.put {kvs : List (Key × V)} {L : List V} (h : DictL kvs L) {i : Nat} (hi : i < L.length) (h15 : L.length ≤ 15) (v : V) : DictL (putK kvs (ky i) v) (L.set i v) ∧ (putK kvs (ky i) v).length = kvs.length := by
  refine ⟨fun j x e => ?_, putK_len (by rw [h i _ (List.getElem?_eq_getElem hi)] <;> rfl)⟩
  rw [valV_put]
  have hj : j < L.length := by
    have := (List.getElem?_eq_some_iff.mp e).1
    rw [List.length_set] at this
    exact this
  by_cases ej : j = i
  · subst ej
    rw [if_pos rfl]
    rw [List.getElem?_set_self hi] at e
    exact e
  · rw [if_neg fun z => ej (ky_inj i (by omega) j (by omega) z)]
    rw [List.getElem?_set_ne (Ne.symm ej)] at e
    exact h j x e
theorem DictL.add {kvs : List (Key × V)} {L : List V} (h : DictL kvs L) (h15 : L.length < 15) (v : V) : DictL (putK kvs (ky L.length) v) (L ++ [v]) ∧ (putK kvs (ky L.length) v).length ≤ kvs.length + 1 := by
  refine ⟨fun j x e => ?_, length_putK _ _ _⟩
  rw [valV_put]
  have hj : j < L.length + 1 := by
    have := (List.getElem?_eq_some_iff.mp e).1
    rw [List.length_append] at this
    exact this
  by_cases ej : j = L.length
  · subst ej
    rw [if_pos rfl]
    rw [List.getElem?_append_right (Nat.le_refl _), Nat.sub_self] at e
    exact e
  · rw [if_neg fun z => ej (ky_inj _ (by omega) j (by omega) z)]
    rw [List.getElem?_append_left (by omega)] at e
    exact h j x e
structure Pl where
  words : List Str
  readers : List Str
  fields : List Str
structure Dn where
  at_ : Nat
  rows : Nat
  look : Nat
  copy : Nat
  watch : Nat
  live : List Str
structure PlOk (F : Pl) (D : Dn) : Prop where
  w5 : F.words.length = 5
  wn : F.words.Nodup
  ww : ∀ x ∈ F.words, isW x
  r3 : F.readers.length = 3
  rn : F.readers.Nodup
  rw_ : ∀ x ∈ F.readers, isW x
  f1 : 1 ≤ F.fields.length
  f2 : F.fields.length ≤ 2
  fw : ∀ x ∈ F.fields, isW x
  l1 : 1 ≤ D.live.length
  ln : D.live.Nodup
  ll : ∀ x ∈ D.live, x ∈ F.words
theorem PlOk.lfew {F : Pl} {D : Dn} (h : PlOk F D) : D.live.length ≤ 5 := by rw [← h.w5]; exact nd_few h.ln h.ll
structure PlAt (H : Hp) (d : Addr) (F : Pl) (D : Dn) (tl : List V) : Prop where
  ex : ∃ kvs wl rl fl ll, H d = some (.dK kvs) ∧ kvs.length ≤ 30 ∧
    DictL kvs ([.ref wl, .ref rl, .int (D.at_ : Nat), .ref fl, .ref ll, .int (D.rows : Nat), .int (D.look : Nat), .int (D.copy : Nat), .int (D.watch : Nat), .int 4, .int 4] ++ tl) ∧
    H wl = some (.lst (F.words.map V.str)) ∧ H rl = some (.lst (F.readers.map V.str)) ∧ H fl = some (.lst (F.fields.map V.str)) ∧ H ll = some (.lst (D.live.map V.str))
  ok : PlOk F D
  few : tl.length ≤ 2
theorem StAt.neL {H : Hp} {st a : Addr} {xs : List Str} (h : StAt H st) (e : H a = some (.lst (xs.map V.str))) (n : 1 ≤ xs.length) : a ≠ st := by
  obtain ⟨g, u, v, q⟩ := h
  rintro rfl
  rw [q] at e
  cases xs with
  | nil => exact absurd n (by decide)
  | cons x xs => cases e
theorem StAt.neD {H : Hp} {st a : Addr} {kvs : List (Key × V)} (h : StAt H st) (e : H a = some (.dK kvs)) : a ≠ st := by
  obtain ⟨g, u, v, q⟩ := h
  rintro rfl
  rw [q] at e
  cases e
theorem PlAt.same {H H' : Hp} {d : Addr} {F : Pl} {D : Dn} {tl : List V} (h : PlAt H d F D tl) (k : Same H H') : PlAt H' d F D tl := by
  obtain ⟨kvs, wl, rl, fl, ll, h0, hl, h1, h2, h3, h4, h5⟩ := h.ex
  exact ⟨⟨kvs, wl, rl, fl, ll, k _ _ h0, hl, h1, k _ _ h2, k _ _ h3, k _ _ h4, k _ _ h5⟩, h.ok, h.few⟩
theorem PlAt.keptS {H H' : Hp} {d st : Addr} {F : Pl} {D : Dn} {tl : List V} (h : PlAt H d F D tl) (s : StAt H st) (k : Kept [st] H H') : PlAt H' d F D tl := by
  obtain ⟨kvs, wl, rl, fl, ll, h0, hl, h1, h2, h3, h4, h5⟩ := h.ex
  have o := h.ok
  exact ⟨⟨kvs, wl, rl, fl, ll, k _ _ h0 (by simp [s.neD h0]), hl, h1, k _ _ h2 (by simp [s.neL h2 (by rw [o.w5]; decide)]), k _ _ h3 (by simp [s.neL h3 (by rw [o.r3]; decide)]), k _ _ h4 (by simp [s.neL h4 o.f1]), k _ _ h5 (by simp [s.neL h5 o.l1])⟩, o, h.few⟩
theorem PlAt.ne {H : Hp} {d p : Addr} {F : Pl} {D : Dn} {tl : List V} (h : PlAt H d F D tl) (n : H p = none) : d ≠ p := by
  obtain ⟨kvs, wl, rl, fl, ll, h0, _⟩ := h.ex
  rintro rfl
  rw [n] at h0
  cases h0
theorem PlAt.isD {H : Hp} {d : Addr} {F : Pl} {D : Dn} {tl : List V} (h : PlAt H d F D tl) : ∃ kvs, H d = some (.dK kvs) := by
  obtain ⟨kvs, wl, rl, fl, ll, h0, _⟩ := h.ex
  exact ⟨kvs, h0⟩
theorem dget {H : Hp} {d : Addr} {kvs : List (Key × V)} {L : List V} (h0 : H d = some (.dK kvs)) (h : DictL kvs L) {i : Nat} {v : V} (e : L[i]? = some v) : DGet H d (.str (keyS i)) (some v) := by
  have q := DGet.k (k := ky i) h0
  rw [h i v e] at q
  exact q
theorem dput {H : Hp} {d : Addr} {kvs : List (Key × V)} (h0 : H d = some (.dK kvs)) (hl : kvs.length ≤ 30) (i : Nat) (v : V) : DPut H d (.str (keyS i)) v (upd H d (.dK (putK kvs (ky i) v))) :=
  DPut.k (k := ky i) h0 (small1000 (by omega))
theorem str_at {xs : List Str} {v : Nat} (h : v < xs.length) : ∃ x, x ∈ xs ∧ atI (xs.map V.str) ((v : Nat) : Int) = some (.str x) := ⟨xs[v], List.getElem_mem h, atI_nat (j := v) (by rw [List.getElem?_map, List.getElem?_eq_getElem h] <;> rfl)⟩
section
variable {P : Program} {w : World} {K : PySem.W.Frag} {mg : Str → Option Value} {base : Heap}
/-! _law_choose -/
def sp_law_choose : Sp := fun vs H Q _ => ∃ (st d : Addr) (F : Pl) (D : Dn) (tl : List V), vs = [.ref st, .ref d] ∧ StAt H st ∧ PlAt H d F D tl ∧
  ∀ (x : Str) (H' : Hp), x ∈ F.words → StAt H' st → Kept [st] H H' → Q (.str x) H'
theorem sc_law_choose : FnScope ["_law_state_here", "_law_plan"] ["_law_state_here", "_law_plan"] (defScope s_law_choose) := ⟨rfl, rfl, rfl, by decide +kernel, rfl, by decide +kernel, by decide +kernel⟩
theorem c_law_choose (T : Txt w K mg) : Cal P w K mg base "_law_choose" 2 ["_law_state_here", "_law_plan"] sp_law_choose := by
  refine T.d_law_choose.cal sc_law_choose (fun _ _ _ _ _ _ us hl => match us, hl with | [_, _], _ => rfl) (fun vs H Q E h => by obtain ⟨st, d, F, D, tl, rfl, _⟩ := h; rfl) (fun f cdv A outer s H vs Q E hr h => ?_)
  obtain ⟨st, d, F, D, tl, rfl, hst, hP, q⟩ := h
  have nd := sc_law_choose.nd
  have hu := hu_of hr
  refine ⟨_, pss_cons (ps_if (pt_cmpR op_eq (pe_c (c_law_draw T) hr (pa_cons (pv 0) (pa_cons pe_int pa_nil))) pe_int (nomark _))
      (pss_one (ps_ret (pe_ix ix_list (pe_dget hu (pv 1) pe_str (fun _ _ => rfl)) (pe_c (c_law_draw T) hr (pa_cons (pv 0) (pa_cons pe_int pa_nil))) (fun _ _ => rfl)))) pss_nil)
    (pss_one (ps_ret (pe_ix ix_list (pe_dget hu (pv 1) pe_str (fun _ _ => rfl)) (pe_c (c_law_draw T) hr (pa_cons (pv 0) (pa_cons (pe_callB call_len_seq (by rfl) T.b_len PySem.boot_len (pa_cons (pe_dget hu (pv 1) pe_str (fun _ _ => rfl)) pa_nil)) pa_nil))) (fun _ _ => rfl)))), ?_⟩
  refine ⟨_, rfl, st, 7, rfl, hst, by decide, by decide, fun v H1 hv st1 k1 => ⟨rfl, _, rfl, ?_⟩⟩
  have hP1 := hP.keptS hst k1
  obtain ⟨kvs, wl, rl, fl, ll, h0, hl, h1, h2, h3, h4, h5⟩ := hP1.ex
  have ok := hP.ok
  refine ite2 (fun _ => ?_) (fun _ => ?_)
  · refine ⟨_, rfl, d, _, rfl, dget (i := 0) h0 h1 rfl, _, rfl, st, 5, rfl, st1, by decide, by decide, fun v2 H2 hv2 st2 k2 => ?_⟩
    obtain ⟨x, hx, ex⟩ := str_at (xs := F.words) (v := v2) (by rw [ok.w5]; exact hv2)
    exact ⟨wl, _, _, _, rfl, rfl, SqL.of (k2 _ _ h2 (by simp [st1.neL h2 (by rw [ok.w5]; decide)])), ex, q x H2 hx st2 (k1.trans k2)⟩
  · have l5 := ok.lfew
    refine ⟨_, rfl, d, _, rfl, dget (i := 4) h0 h1 rfl, _, rfl, _, rfl, d, _, rfl, dget (i := 4) h0 h1 rfl, ll, _, rfl, .inl (SqL.of h5), st, D.live.length, by rw [List.length_map], st1, ok.l1, by omega, fun v2 H2 hv2 st2 k2 => ?_⟩
    obtain ⟨x, hx, ex⟩ := str_at (xs := D.live) (v := v2) hv2
    exact ⟨ll, _, _, _, rfl, rfl, SqL.of (k2 _ _ h5 (by simp [st1.neL h5 ok.l1])), ex, q x H2 (ok.ll x hx) st2 (k1.trans k2)⟩
end
end Tw

set_option Elab.async false
set_option maxRecDepth 100000
set_option maxHeartbeats 4000000
/-! F4: one plain row. -/
namespace Tw
open PySem PySem.Spec L2 TL PyProof.Rows
def plainW : List Str := ["put", "watch", "look", "copy", "none", "new", "move"]
theorem leaf_ok {W F : List Str} {w sh : Str} {ps : List Atom} {cs : List Nat} (h : (w, sh) ∈ leafL) (e : sh.cps.toList = cs) (f : Fits W F cs ps) : okR W F (.leaf w ps) := by
  rw [okR]
  exact ⟨sh, h, by rw [e]; exact f⟩
theorem Kept.both {S : List Addr} {st d : Addr} {H H1 : Hp} (k : Kept [st] H H1) : Kept [st, d] H H1 := k.mono fun b hb => by rw [List.mem_singleton.mp hb]; simp
section
variable {P : Program} {w : World} {K : PySem.W.Frag} {mg : Str → Option Value} {base : Heap}
def sp_law_plain (K : PySem.W.Frag) : Sp := fun vs H Q _ => ∃ (st d : Addr) (F : Pl) (D : Dn) (tl : List V) (wd : Str), vs = [.ref st, .ref d, .str wd] ∧ wd ∈ plainW ∧ StAt H st ∧ PlAt H d F D tl ∧ (wd = Str.ofString "watch" → D.watch < 3) ∧
  ∀ (t : Addr) (ps : List Atom) (live' : List Str) (H' : Hp), StAt H' st → Kept [st, d] H H' → PlAt H' d F { D with live := live' } tl → SqT K H' t (.str wd :: ps.map Atom.v) → okR F.words F.fields (.leaf wd ps) →
    (wd = Str.ofString "watch" → ∃ r rest, ps = .s r :: rest ∧ F.readers[D.watch]? = some r) → Q (.ref t) H'
theorem sc_law_plain : FnScope ["_law_state_here", "_law_plan", "_law_word", "_law_first", "_law_second", "_law_third", "_law_field", "_law_kind"] ["_law_state_here", "_law_plan", "_law_word"] (defScope s_law_plain) := ⟨rfl, rfl, rfl, by decide +kernel, rfl, by decide +kernel, by decide +kernel⟩
theorem c_law_plain (T : Txt w K mg) : Cal P w K mg base "_law_plain" 3 ["_law_state_here", "_law_plan", "_law_word"] (sp_law_plain K) := by
  refine T.d_law_plain.cal sc_law_plain (fun _ _ _ _ _ _ us hl => match us, hl with | [_, _, _], _ => rfl) (fun vs H Q E h => by obtain ⟨st, d, F, D, tl, wd, rfl, _⟩ := h; rfl) (fun f cdv A outer s H vs Q E hr h => ?_)
  obtain ⟨st, d, F, D, tl, wd, rfl, hwd, hst, hP, hwt, q⟩ := h
  have nd := sc_law_plain.nd
  have hu := hu_of hr
  have hr1 : Room 1 _ := hr.mono (by decide)
  refine ⟨_, pss_cons (ps_set (i := 3) nd rfl (Or.inl rfl) (pe_ix ix_list (pe_dget hu (pv 1) pe_str (fun _ _ => rfl)) (pe_c (c_law_draw T) hr1 (pa_cons (pv 0) (pa_cons pe_int pa_nil))) (fun _ _ => rfl)))
    (pss_cons (ps_set (i := 4) nd rfl (Or.inl rfl) (pe_c (c_law_choose T) hr (pa_cons (pv 0) (pa_cons (pv 1) pa_nil))))
    (pss_cons (ps_set (i := 5) nd rfl (Or.inl rfl) (pe_c (c_law_choose T) hr (pa_cons (pv 0) (pa_cons (pv 1) pa_nil))))
    (pss_cons (ps_set (i := 6) nd rfl (Or.inl rfl) (pe_ix ix_list (pe_dget hu (pv 1) pe_str (fun _ _ => rfl)) (pe_c (c_law_draw T) hr1 (pa_cons (pv 0) (pa_cons (pe_callB call_len_seq (by rfl) T.b_len PySem.boot_len (pa_cons (pe_dget hu (pv 1) pe_str (fun _ _ => rfl)) pa_nil)) pa_nil))) (fun _ _ => rfl)))
    (pss_cons (ps_if (pt_cmpR op_eq (pv 2) pe_str (nomark _)) (pss_one (ps_ret (pe_tup (pa_cons pe_str (pa_cons (pv 4) (pa_cons (pv 6) (pa_cons (pv 5) pa_nil))))))) pss_nil)
    (pss_cons (ps_if (pt_cmpR op_eq (pv 2) pe_str (nomark _)) (pss_one (ps_ret (pe_tup (pa_cons pe_str (pa_cons (pe_ix ix_list (pe_dget hu (pv 1) pe_str (fun _ _ => rfl)) (pe_dget hu (pv 1) pe_str (fun _ _ => rfl)) (fun _ _ => rfl)) (pa_cons (pv 4) (pa_cons (pe_c (c_law_draw T) hr1 (pa_cons (pv 0) (pa_cons (pe_op op_add (pe_dget hu (pv 1) pe_str (fun _ _ => rfl)) pe_int) pa_nil))) pa_nil))))))) pss_nil)
    (C8.pss_cut (ps_if (pt_cmpR op_notIn_seq (pv 3) (pe_dget hu (pv 1) pe_str (fun _ _ => rfl)) (by rfl)) (pss_one (ps_dput hu (pv 1) pe_str (pe_op op_cat (pe_dget hu (pv 1) pe_str (fun _ _ => rfl)) (pe_lst (pa_cons (pv 3) pa_nil))) rfl)) pss_nil)
    (pss_cons (ps_if (pt_cmpR op_eq (pv 2) pe_str (nomark _)) (pss_one (ps_ret (pe_tup (pa_cons pe_str (pa_cons (pv 3) (pa_cons (pv 4) (pa_cons (pv 6) pa_nil))))))) pss_nil)
    (pss_cons (ps_if (pt_cmpR op_eq (pv 2) pe_str (nomark _))
      (pss_cons (ps_set (i := 7) nd rfl (Or.inl rfl) (pe_ix ix_list (pe_lst (pa_cons pe_str (pa_cons pe_str pa_nil))) (pe_c (c_law_draw T) hr1 (pa_cons (pv 0) (pa_cons pe_int pa_nil))) (fun _ _ => rfl)))
      (pss_one (ps_ret (pe_tup (pa_cons pe_str (pa_cons (pv 3) (pa_cons (pv 4) (pa_cons (pv 7) (pa_cons (pe_c (c_law_draw T) hr1 (pa_cons (pv 0) (pa_cons (pe_op op_add (pe_dget hu (pv 1) pe_str (fun _ _ => rfl)) pe_int) pa_nil))) pa_nil))))))))) pss_nil)
    (pss_cons (ps_if (PW.pt (pw_or (pt_cmpR op_eq (pv 2) pe_str (nomark _)) (pw_or1 (pt_cmpR op_eq (pv 2) pe_str (nomark _))))) (pss_one (ps_ret (pe_tup (pa_cons (pv 2) (pa_cons (pv 3) pa_nil))))) pss_nil)
    (pss_one (ps_ret (pe_tup (pa_cons pe_str (pa_cons (pv 3) (pa_cons (pv 4) pa_nil))))))))))))))), ?_⟩
  obtain ⟨kvs, wl, rl, fl, ll, h0, hl, h1, h2, h3, h4, h5⟩ := hP.ex
  have ok := hP.ok
  refine ⟨_, rfl, d, _, rfl, dget (i := 0) h0 h1 rfl, _, rfl, st, 5, rfl, hst, by decide, by decide, fun v1 H1 hv1 st1 k1 => ?_⟩
  obtain ⟨x1, hx1, ex1⟩ := str_at (xs := F.words) (v := v1) (by rw [ok.w5]; exact hv1)
  refine ⟨wl, _, _, _, rfl, rfl, SqL.of (k1 _ _ h2 (by simp [hst.neL h2 (by rw [ok.w5]; decide)])), ex1, ?_⟩
  have hP1 := hP.keptS hst k1
  refine ⟨_, rfl, _, rfl, st, d, F, D, tl, rfl, st1, hP1, fun x2 H2 hx2 st2 k2 => ?_⟩
  have hP2 := hP1.keptS st1 k2
  refine ⟨_, rfl, _, rfl, st, d, F, D, tl, rfl, st2, hP2, fun x3 H3 hx3 st3 k3 => ?_⟩
  have hP3 := hP2.keptS st2 k3
  have k03 := (k1.trans k2).trans k3
  obtain ⟨kvs, wl, rl, fl, ll, h0, hl, h1, h2, h3, h4, h5⟩ := hP3.ex
  refine ⟨_, rfl, d, _, rfl, dget (i := 3) h0 h1 rfl, _, rfl, _, rfl, d, _, rfl, dget (i := 3) h0 h1 rfl, fl, _, rfl, .inl (SqL.of h4), st, F.fields.length, by rw [List.length_map], st3, ok.f1, by have := ok.f2; omega, fun v4 H4 hv4 st4 k4 => ?_⟩
  obtain ⟨x4, hx4, ex4⟩ := str_at (xs := F.fields) (v := v4) hv4
  refine ⟨fl, _, _, _, rfl, rfl, SqL.of (k4 _ _ h4 (by simp [st3.neL h4 ok.f1])), ex4, ?_⟩
  have hP4 := hP3.keptS st3 k4
  have k04 := k03.trans k4
  clear h0 hl h1 h2 h3 h4 h5 ex4 ex1
  clear kvs wl rl fl ll
  have same : ∀ {H' : Hp} {live' : List Str} {t : Addr} {xs : List V} {ps : List Atom}, H' t = none → StAt H' st → Kept [st, d] H H' → PlAt H' d F { D with live := live' } tl → xs = .str wd :: ps.map Atom.v → okR F.words F.fields (.leaf wd ps) →
      (wd = Str.ofString "watch" → ∃ r rest, ps = .s r :: rest ∧ F.readers[D.watch]? = some r) → Q (.ref t) (upd H' t (.tup xs)) := fun nt s k p e o r => by
    subst e
    exact q _ _ _ _ (s.same (same_new nt _)) (k.trans (Kept.of (same_new nt _))) (p.same (same_new nt _)) (SqT.of upd_same) o r
  refine ⟨_, rfl, rfl, _, rfl, ite2 (fun e => ?_) (fun n1 => ?_)⟩
  · have e' : wd = Str.ofString "put" := by have := of_decide_eq_true e; injection this
    subst e'
    refine ⟨_, rfl, _, rfl, _, rfl, (by show 4 ≤ sizeLine; decide), fun t nt => ?_⟩
    exact same (ps := [.s x2, .s x4, .s x3]) nt st4 (Kept.both (S := []) k04) hP4 rfl (leaf_ok (sh := "vfv") (cs := [118, 102, 118]) (by decide +kernel) (by decide +kernel) (.cons (.v hx2) (.cons (.f hx4) (.cons (.v hx3) .nil)))) (fun z => absurd z (by decide +kernel))
  refine ⟨_, rfl, rfl, _, rfl, ite2 (fun e => ?_) (fun n2 => ?_)⟩
  · have e' : wd = Str.ofString "watch" := by have := of_decide_eq_true e; injection this
    subst e'
    obtain ⟨kvs, wl, rl, fl, ll, h0, hl, h1, h2, h3, h4, h5⟩ := hP4.ex
    have hw3 := hwt rfl
    have hr' : F.readers[D.watch]? = some (F.readers[D.watch]'(by rw [ok.r3]; exact hw3)) := List.getElem?_eq_getElem _
    refine ⟨_, rfl, d, _, rfl, dget (i := 1) h0 h1 rfl, _, rfl, d, _, rfl, dget (i := 8) h0 h1 rfl, rl, _, _, _, rfl, rfl, SqL.of h3, atI_nat (j := D.watch) (by rw [List.getElem?_map, hr'] <;> rfl), _, rfl, _, rfl, _, rfl, d, _, rfl, dget (i := 10) h0 h1 rfl, 4, 1, rfl, rfl, st, 5, rfl, st4, by decide, by decide, fun v5 H5 hv5 st5 k5 => ⟨(by show 4 ≤ sizeLine; decide), fun t nt => ?_⟩⟩
    exact same (ps := [.s (F.readers[D.watch]'(by rw [ok.r3]; exact hw3)), .s x2, .n v5]) nt st5 (Kept.both (S := []) (k04.trans k5)) (hP4.keptS st4 k5) rfl
      (leaf_ok (sh := "rvd") (cs := [114, 118, 100]) (by decide +kernel) (by decide +kernel) (.cons (.r (ok.rw_ _ (List.getElem_mem _))) (.cons (.v hx2) (.cons (.d hv5) .nil)))) (fun _ => ⟨_, _, rfl, hr'⟩)
  have nw : wd ≠ Str.ofString "watch" := fun z => n2 (decide_eq_true (congrArg V.str z))
  refine ⟨fun σ' H' => σ' = [some (.ref st), some (.ref d), some (.str wd), some (.str x1), some (.str x2), some (.str x3), some (.str x4), none] ∧ StAt H' st ∧ Kept [st, d] H H' ∧ ∃ live', PlAt H' d F { D with live := live' } tl, ?_, ?_⟩
  · obtain ⟨kvs, wl, rl, fl, ll, h0, hl, h1, h2, h3, h4, h5⟩ := hP4.ex
    refine ⟨_, rfl, _, rfl, d, _, rfl, dget (i := 4) h0 h1 rfl, ll, _, rfl, .inl (SqL.of h5), rfl, flat_strs _, _, rfl, ?_⟩
    show if (!inV (.str x1) (D.live.map V.str)) = true then _ else _
    rw [inV_str]
    by_cases hm : x1 ∈ D.live
    · rw [decide_eq_true hm]
      exact iteF ⟨rfl, st4, Kept.both (S := []) k04, D.live, hP4⟩
    · rw [decide_eq_false hm]
      have l5 := ok.lfew
      refine iteT ⟨_, rfl, d, _, rfl, dget (i := 4) h0 h1 rfl, _, rfl, (by show 1 ≤ sizeLine; decide), fun l1 n1' => ⟨ll, l1, _, _, rfl, rfl, same_new n1' _ _ _ h5, upd_same, by rw [List.length_map]; exact small_line (by show D.live.length + 1 ≤ 1000; omega), fun l2 n2' => ⟨_, rfl, d, _, rfl, dput (same_new n2' _ _ _ (same_new n1' _ _ _ h0)) hl 4 _, rfl, ?_, ?_, D.live ++ [x1], ?_⟩⟩⟩
      · have sd : st ≠ d := Ne.symm (st4.neD h0)
        exact ((st4.same (same_new n1' _)).same (same_new n2' _)).kept (Kept.upd (S := [d]) (List.mem_singleton.mpr rfl)) (by simp [sd])
      · exact ((Kept.both (S := []) k04).trans (Kept.of ((same_new n1' _).trans (same_new n2' _)))).trans (Kept.upd (by simp))
      · have g := (same_new n1' (.lst [V.str x1])).trans (same_new n2' (.lst (D.live.map V.str ++ [V.str x1])))
        have ne : ∀ {a : Addr} {xs : List V}, H4 a = some (.lst xs) → a ≠ d := fun e => by rintro rfl; rw [h0] at e; cases e
        obtain ⟨p1, p2⟩ := h1.put (i := 4) (by show 4 < _; rw [List.length_append]; show 4 < 11 + _; omega) (by rw [List.length_append]; show 11 + _ ≤ 15; have := hP4.few; omega) (.ref l2)
        have l2d : l2 ≠ d := fun e => by rw [e, same_new n1' _ _ _ h0] at n2'; cases n2'
        refine ⟨⟨_, wl, rl, fl, l2, upd_same, by rw [p2]; exact hl, p1, by rw [upd_ne (ne h2)]; exact g _ _ h2, by rw [upd_ne (ne h3)]; exact g _ _ h3, by rw [upd_ne (ne h4)]; exact g _ _ h4, by rw [upd_ne l2d, upd_same, List.map_append] <;> rfl⟩, ?_, hP4.few⟩
        exact ⟨ok.w5, ok.wn, ok.ww, ok.r3, ok.rn, ok.rw_, ok.f1, ok.f2, ok.fw, by show 1 ≤ (D.live ++ [x1]).length; rw [List.length_append]; have := ok.l1; omega, List.nodup_append.mpr ⟨ok.ln, List.nodup_cons.mpr ⟨List.not_mem_nil, .nil⟩, fun a ha b hb => by rw [List.mem_singleton.mp hb]; rintro rfl; exact hm ha⟩, fun z hz => by
          rcases List.mem_append.mp hz with hz | hz
          · exact ok.ll z hz
          · rw [List.mem_singleton.mp hz]; exact hx1⟩
  · rintro σ' H5 ⟨rfl, st5, k5, live', hP5⟩
    have nwt : wd = Str.ofString "watch" → ∃ r rest, ([] : List Atom) = .s r :: rest ∧ F.readers[D.watch]? = some r := fun z => absurd z nw
    refine ⟨_, rfl, rfl, _, rfl, ite2 (fun e => ?_) (fun n3 => ?_)⟩
    · have e' : wd = Str.ofString "look" := by have := of_decide_eq_true e; injection this
      subst e'
      refine ⟨_, rfl, _, rfl, _, rfl, (by show 4 ≤ sizeLine; decide), fun t nt => ?_⟩
      exact same (ps := [.s x1, .s x2, .s x4]) nt st5 k5 hP5 rfl (leaf_ok (sh := "vvf") (cs := [118, 118, 102]) (by decide +kernel) (by decide +kernel) (.cons (.v hx1) (.cons (.v hx2) (.cons (.f hx4) .nil)))) (fun z => absurd z nw)
    refine ⟨_, rfl, rfl, _, rfl, ite2 (fun e => ?_) (fun n4 => ?_)⟩
    · have e' : wd = Str.ofString "copy" := by have := of_decide_eq_true e; injection this
      subst e'
      refine ⟨(by show 2 ≤ sizeLine; decide), fun l1 n1' => ⟨_, rfl, st, 2, rfl, st5.same (same_new n1' _), by decide, by decide, fun v6 H6 hv6 st6 k6 => ?_⟩⟩
      have sl : l1 ≠ st := fun z => by rw [z] at n1'; obtain ⟨g, a, b, q⟩ := st5; rw [n1'] at q; cases q
      have hl1 : H6 l1 = some (.lst [.str (Str.ofString "freeze"), .str (Str.ofString "thaw")]) := k6 _ _ upd_same (by simp [sl])
      obtain ⟨kd, hkd, ekd⟩ : ∃ kd : Str, (kd = Str.ofString "freeze" ∨ kd = Str.ofString "thaw") ∧ atI [V.str (Str.ofString "freeze"), V.str (Str.ofString "thaw")] ((v6 : Nat) : Int) = some (.str kd) := by
        rcases (by omega : v6 = 0 ∨ v6 = 1) with rfl | rfl
        · exact ⟨_, .inl rfl, rfl⟩
        · exact ⟨_, .inr rfl, rfl⟩
      have hP6 := (hP5.same (same_new n1' _)).keptS (st5.same (same_new n1' _)) k6
      obtain ⟨kvs, wl, rl, fl, ll, h0, hl, h1, h2, h3, h4, h5⟩ := hP6.ex
      refine ⟨l1, _, _, _, rfl, rfl, SqL.of hl1, ekd, _, rfl, _, rfl, _, rfl, _, rfl, _, rfl, d, _, rfl, dget (i := 9) h0 h1 rfl, 4, 1, rfl, rfl, st, 5, rfl, st6, by decide, by decide, fun v7 H7 hv7 st7 k7 => ⟨(by show 5 ≤ sizeLine; decide), fun t nt => ?_⟩⟩
      exact same (ps := [.s x1, .s x2, .s kd, .n v7]) nt st7 (((k5.trans (Kept.of (same_new n1' _))).trans (Kept.both (S := []) k6)).trans (Kept.both (S := []) k7)) (hP6.keptS st6 k7) rfl
        (leaf_ok (sh := "vvkd") (cs := [118, 118, 107, 100]) (by decide +kernel) (by decide +kernel) (.cons (.v hx1) (.cons (.v hx2) (.cons (.k hkd) (.cons (.d hv7) .nil))))) (fun z => absurd z nw)
    have both : wd = Str.ofString "none" ∨ wd = Str.ofString "new" → okR F.words F.fields (.leaf wd [.s x1]) := fun h => by
      rcases h with rfl | rfl
      · exact leaf_ok (sh := "v") (cs := [118]) (by decide +kernel) (by decide +kernel) (.cons (.v hx1) .nil)
      · exact leaf_ok (sh := "v") (cs := [118]) (by decide +kernel) (by decide +kernel) (.cons (.v hx1) .nil)
    refine ⟨_, rfl, rfl, _, rfl, ite2 (fun e => ?_) (fun n5 => ?_)⟩
    · have e' : wd = Str.ofString "none" := by have := of_decide_eq_true e; injection this
      refine ⟨_, rfl, _, rfl, (by show 2 ≤ sizeLine; decide), fun t nt => ?_⟩
      exact same (ps := [.s x1]) nt st5 k5 hP5 rfl (both (.inl e')) (fun z => absurd z nw)
    refine ⟨_, rfl, rfl, _, rfl, ite2 (fun e => ?_) (fun n6 => ?_)⟩
    · have e' : wd = Str.ofString "new" := by have := of_decide_eq_true e; injection this
      refine ⟨_, rfl, _, rfl, (by show 2 ≤ sizeLine; decide), fun t nt => ?_⟩
      exact same (ps := [.s x1]) nt st5 k5 hP5 rfl (both (.inr e')) (fun z => absurd z nw)
    · have e' : wd = Str.ofString "move" := by
        have nn : ∀ {z : Str}, ¬ decide (V.str wd = V.str z) = true → wd ≠ z := fun h e => h (decide_eq_true (congrArg V.str e))
        have h : wd = Str.ofString "put" ∨ wd = Str.ofString "watch" ∨ wd = Str.ofString "look" ∨ wd = Str.ofString "copy" ∨ wd = Str.ofString "none" ∨ wd = Str.ofString "new" ∨ wd = Str.ofString "move" := by
          simpa [plainW] using hwd
        rcases h with h | h | h | h | h | h | h
        · exact absurd h (nn n1)
        · exact absurd h (nn n2)
        · exact absurd h (nn n3)
        · exact absurd h (nn n4)
        · exact absurd h (nn n5)
        · exact absurd h (nn n6)
        · exact h
      subst e'
      refine ⟨_, rfl, _, rfl, (by show 3 ≤ sizeLine; decide), fun t nt => ?_⟩
      exact same (ps := [.s x1, .s x2]) nt st5 k5 hP5 rfl (leaf_ok (sh := "vv") (cs := [118, 118]) (by decide +kernel) (by decide +kernel) (.cons (.v hx1) (.cons (.v hx2) .nil))) (fun z => absurd z nw)
end
end Tw

set_option Elab.async false
set_option maxRecDepth 100000
set_option maxHeartbeats 4000000
/-! F5: the law's rows: what is said of them; the row. -/
namespace Tw
open PySem PySem.Spec L2 TL PyProof.Rows
def lit (D : Dn) (wl rl fl ll : Addr) : List V := [.ref wl, .ref rl, .int (D.at_ : Nat), .ref fl, .ref ll, .int (D.rows : Nat), .int (D.look : Nat), .int (D.copy : Nat), .int (D.watch : Nat), .int 4, .int 4]
/-- the dict changes a value that is no list -/
theorem PlAt.put {H : Hp} {d : Addr} {F : Pl} {D D' : Dn} {tl : List V} (h : PlAt H d F D tl) (i : Nat) (v : V) (hi : i < 11) (e : ∀ wl rl fl ll, (lit D wl rl fl ll ++ tl).set i v = lit D' wl rl fl ll ++ tl) (hl : D'.live = D.live) :
    ∃ o, DPut H d (.str (keyS i)) v (upd H d o) ∧ PlAt (upd H d o) d F D' tl ∧ ∃ kvs, o = .dK kvs := by
  obtain ⟨kvs, wl, rl, fl, ll, h0, hl30, h1, h2, h3, h4, h5⟩ := h.ex
  have ll2 : (lit D wl rl fl ll ++ tl).length = 11 + tl.length := by rw [List.length_append] <;> rfl
  obtain ⟨p1, p2⟩ := DictL.put (L := lit D wl rl fl ll ++ tl) h1 (i := i) (by rw [ll2]; omega) (by rw [ll2]; have := h.few; omega) v
  rw [e] at p1
  have ne : ∀ {a : Addr} {xs : List V}, H a = some (.lst xs) → a ≠ d := fun e => by rintro rfl; rw [h0] at e; cases e
  have o := h.ok
  refine ⟨_, dput h0 hl30 i v, ⟨⟨_, wl, rl, fl, ll, upd_same, by rw [p2]; exact hl30, p1, by rw [upd_ne (ne h2)]; exact h2, by rw [upd_ne (ne h3)]; exact h3, by rw [upd_ne (ne h4)]; exact h4, by rw [upd_ne (ne h5), hl]; exact h5⟩, ?_, h.few⟩, _, rfl⟩
  exact ⟨o.w5, o.wn, o.ww, o.r3, o.rn, o.rw_, o.f1, o.f2, o.fw, by rw [hl]; exact o.l1, by rw [hl]; exact o.ln, by rw [hl]; exact o.ll⟩
theorem keepsD {K : PySem.W.Frag} {H H' : Hp} {d : Addr} {kvs : List (Key × V)} (h0 : H d = some (.dK kvs)) (k : Kept [d] H H') : Keeps K H H' := by
  have n : ∀ {a o}, H a = some o → (∀ x, o ≠ .dK x) → H' a = some o := fun e h => k _ _ e fun hm => by
    rw [List.mem_singleton.mp hm, h0] at e
    exact h _ (Option.some.inj e).symm
  refine ⟨fun a xs h => ?_, fun a xs h => ?_⟩
  · rcases h with (h | ⟨o', h⟩) | h
    · exact .inl (.inl (n h fun x z => by cases z))
    · exact .inl (.inr ⟨o', n h fun x z => by cases z⟩)
    · exact .inr h
  · rcases h with (h | ⟨o', h⟩) | h
    · exact .inl (.inl (n h fun x z => by cases z))
    · exact .inl (.inr ⟨o', n h fun x z => by cases z⟩)
    · exact .inr h
/-- the same with M hidden -/
theorem keepsDM {K : PySem.W.Frag} {H H' : Hp} {d : Addr} {M : List Addr} {kvs : List (Key × V)} (h0 : H d = some (.dK kvs)) (k : Kept [d] H H') : Keeps K (hid M H) (hid M H') := by
  have n : ∀ {a o}, hid M H a = some o → (∀ x, o ≠ .dK x) → hid M H' a = some o := fun {a o} e h => by
    have hm : a ∉ M := fun hm => by rw [hid_in hm] at e; cases e
    rw [hid_out hm] at e ⊢
    exact k _ _ e fun hm => by
      rw [List.mem_singleton.mp hm, h0] at e
      exact h _ (Option.some.inj e).symm
  refine ⟨fun a xs h => ?_, fun a xs h => ?_⟩
  · rcases h with (h | ⟨o', h⟩) | h
    · exact .inl (.inl (n h fun x z => by cases z))
    · exact .inl (.inr ⟨o', n h fun x z => by cases z⟩)
    · exact .inr h
  · rcases h with (h | ⟨o', h⟩) | h
    · exact .inl (.inl (n h fun x z => by cases z))
    · exact .inl (.inr ⟨o', n h fun x z => by cases z⟩)
    · exact .inr h
theorem lstsD {H H' : Hp} {d : Addr} {M : List Addr} {kvs : List (Key × V)} (h0 : H d = some (.dK kvs)) (k : Kept [d] H H') (hM : Lsts M H) : Lsts M H' := fun b hb => by
  obtain ⟨xs, e⟩ := hM b hb
  exact ⟨xs, k _ _ e fun hm => by rw [List.mem_singleton.mp hm, h0] at e; cases e⟩
/-- what rows have used up -/
structure Used (F : Pl) (D D' : Dn) (sz cp : Nat) (rd : List Str) : Prop where
  at_ : D'.at_ + D'.rows = D.at_ + D.rows
  sz : sz + D'.rows = D.rows
  cp : cp + D'.copy = D.copy
  rd : rd ++ (F.readers.take D'.watch).reverse = (F.readers.take D.watch).reverse
  w : D'.watch ≤ D.watch
theorem Used.refl (F : Pl) (D : Dn) : Used F D D 0 0 [] := ⟨rfl, Nat.zero_add _, Nat.zero_add _, rfl, Nat.le_refl _⟩
theorem Used.trans {F : Pl} {D D1 D2 : Dn} {s1 s2 c1 c2 : Nat} {r1 r2 : List Str} (a : Used F D D1 s1 c1 r1) (b : Used F D1 D2 s2 c2 r2) : Used F D D2 (s1 + s2) (c1 + c2) (r1 ++ r2) :=
  ⟨by rw [b.at_, a.at_], by have := a.sz; have := b.sz; omega, by have := a.cp; have := b.cp; omega, by rw [List.append_assoc, b.rd, a.rd], Nat.le_trans b.w a.w⟩
def sp_lrow (K : PySem.W.Frag) (m : Nat) : Sp := fun vs H Q _ => ∃ (sc d : Addr) (lvl : Nat) (ns : List Int) (F : Pl) (D : Dn) (tl : List V) (M : List Addr), vs = [.ref sc, .ref d, .int (lvl : Nat)] ∧ SqL K H sc (ns.map V.int) ∧ Lsts M H ∧ PlAt H d F D tl ∧
  1 ≤ D.rows ∧ D.at_ + D.rows ≤ 100 ∧ D.watch ≤ 3 ∧ lvl ≤ 3 ∧ 4 ≤ lvl + m ∧
  ∀ (t : Addr) (r : Row) (D' : Dn) (H' : Hp), Kept [d] H H' → PlAt H' d F D' tl → Dp K (hid M H') (.ref t) (dR r) → okR F.words F.fields r → Used F D D' (szR r) (cpR r) (rdR r) → htR r + lvl ≤ 3 → Q (.ref t) H'
def sp_lrows (K : PySem.W.Frag) (m : Nat) : Sp := fun vs H Q _ => ∃ (sc d : Addr) (lvl cnt : Nat) (ns : List Int) (F : Pl) (D : Dn) (tl : List V) (M : List Addr), vs = [.ref sc, .ref d, .int (lvl : Nat), .int (cnt : Nat)] ∧ SqL K H sc (ns.map V.int) ∧ Lsts M H ∧ PlAt H d F D tl ∧
  cnt ≤ 100 ∧ D.at_ + D.rows ≤ 100 ∧ D.watch ≤ 3 ∧ lvl ≤ 3 ∧ 4 ≤ lvl + m ∧
  ∀ (l : Addr) (xs : List V) (rs : List Row) (D' : Dn) (H' : Hp), Kept [d] H H' → H l = none → H' l = some (.lst xs) → PlAt H' d F D' tl → DpAll K (hid (l :: M) H') xs (dL rs) → okL F.words F.fields rs → Used F D D' (szL rs) (cpL rs) (rdL rs) → htL rs + lvl ≤ 4 → Q (.ref l) H'
def menuL : List Str := ["look", "put", "copy", "watch", "put", "look", "copy", "watch", "put", "look", "copy", "new", "move", "none", "same", "empty"]
def cntD (D : Dn) : Nat → Nat
  | 6 => D.look
  | 7 => D.copy
  | _ => D.watch
def setD (D : Dn) (n : Nat) : Nat → Dn
  | 6 => { D with look := n }
  | 7 => { D with copy := n }
  | _ => { D with watch := n }
theorem lit_at {D : Dn} {wl rl fl ll : Addr} {tl : List V} {i : Nat} (h : i = 6 ∨ i = 7 ∨ i = 8) : (lit D wl rl fl ll ++ tl)[i]? = some (.int (cntD D i : Nat)) := by
  rcases h with rfl | rfl | rfl <;> rfl
theorem lit_set {D : Dn} {wl rl fl ll : Addr} {tl : List V} {i n : Nat} (h : i = 6 ∨ i = 7 ∨ i = 8) : (lit D wl rl fl ll ++ tl).set i (.int (n : Nat)) = lit (setD D n i) wl rl fl ll ++ tl := by
  rcases h with rfl | rfl | rfl <;> rfl
theorem setD_self {D : Dn} {i : Nat} (h : i = 6 ∨ i = 7 ∨ i = 8) (n : Nat) (e : cntD D i = n) : setD D n i = D := by
  rcases h with rfl | rfl | rfl <;> (subst e; rfl)
theorem setD_live {D : Dn} {i n : Nat} : (setD D n i).live = D.live := by
  unfold setD
  split <;> rfl
theorem flat_words (xs : List Str) (x : Str) (h : x ∈ xs) : inV (.str x) (xs.map V.str) = true := by
  rw [inV_str]
  exact decide_eq_true h
theorem menu_at {v : Nat} (h : v < 16) : ∃ x, x ∈ menuL ∧ atI (menuL.map V.str) ((v : Nat) : Int) = some (.str x) := str_at (xs := menuL) h
/-- a put and a put back -/
theorem PlAt.put2 {H : Hp} {d : Addr} {F : Pl} {D : Dn} {tl : List V} (h : PlAt H d F D tl) (i : Nat) (v u : V) (hi : i < 11) (e : ∀ wl rl fl ll, (lit D wl rl fl ll ++ tl)[i]? = some u) :
    ∃ o1 o2, DPut H d (.str (keyS i)) v (upd H d o1) ∧ DGet (upd H d o1) d (.str (keyS i)) (some v) ∧ DPut (upd H d o1) d (.str (keyS i)) u (upd (upd H d o1) d o2) ∧ PlAt (upd (upd H d o1) d o2) d F D tl := by
  obtain ⟨kvs, wl, rl, fl, ll, h0, hl30, h1, h2, h3, h4, h5⟩ := h.ex
  have ll2 : (lit D wl rl fl ll ++ tl).length = 11 + tl.length := by rw [List.length_append] <;> rfl
  have f2 := h.few
  obtain ⟨p1, p2⟩ := DictL.put (L := lit D wl rl fl ll ++ tl) h1 (i := i) (by rw [ll2]; omega) (by rw [ll2]; omega) v
  obtain ⟨p3, p4⟩ := DictL.put p1 (i := i) (by rw [List.length_set, ll2]; omega) (by rw [List.length_set, ll2]; omega) u
  have e2 : ((lit D wl rl fl ll ++ tl).set i v).set i u = lit D wl rl fl ll ++ tl := by
    rw [List.set_set]
    refine List.ext_getElem? fun j => ?_
    by_cases ej : i = j
    · subst ej
      rw [List.getElem?_set_self (by rw [ll2]; omega), e]
    · rw [List.getElem?_set_ne ej]
  rw [e2] at p3
  have ne : ∀ {a : Addr} {xs : List V}, H a = some (.lst xs) → a ≠ d := fun e => by rintro rfl; rw [h0] at e; cases e
  refine ⟨_, _, dput h0 hl30 i v, dget (i := i) upd_same p1 (List.getElem?_set_self (by rw [ll2]; omega)), dput upd_same (by rw [p2]; exact hl30) i u, ⟨⟨_, wl, rl, fl, ll, upd_same, by rw [p4, p2]; exact hl30, p3, ?_, ?_, ?_, ?_⟩, h.ok, h.few⟩⟩
  · rw [upd_ne (ne h2), upd_ne (ne h2)]; exact h2
  · rw [upd_ne (ne h3), upd_ne (ne h3)]; exact h3
  · rw [upd_ne (ne h4), upd_ne (ne h4)]; exact h4
  · rw [upd_ne (ne h5), upd_ne (ne h5)]; exact h5
structure LeafUse (wd : Str) (D D2 : Dn) : Prop where
  at_ : D2.at_ = D.at_
  rows : D2.rows = D.rows
  copy : (if wd = Str.ofString "copy" then 1 else 0) + D2.copy = D.copy
  watch : (if wd = Str.ofString "watch" then 1 else 0) + D2.watch = D.watch
theorem LeafUse.none {wd : Str} {D : Dn} (h1 : wd ≠ Str.ofString "copy") (h2 : wd ≠ Str.ofString "watch") : LeafUse wd D D := ⟨rfl, rfl, by rw [if_neg h1, Nat.zero_add], by rw [if_neg h2, Nat.zero_add]⟩
theorem leaf_used {F : Pl} {D D2 : Dn} {wd : Str} {ps : List Atom} {live' : List Str} (u : LeafUse wd D D2) (h : wd = Str.ofString "watch" → ∃ r rest, ps = .s r :: rest ∧ F.readers[D2.watch]? = some r) :
    Used F D { D2 with live := live' } 0 (cpR (.leaf wd ps)) (rdR (.leaf wd ps)) := by
  refine ⟨by show D2.at_ + D2.rows = _; rw [u.at_, u.rows], by show 0 + D2.rows = _; rw [u.rows, Nat.zero_add], by rw [cpR]; exact u.copy, ?_, by have := u.watch; show D2.watch ≤ _; omega⟩
  show rdR (.leaf wd ps) ++ (F.readers.take D2.watch).reverse = _
  have uw := u.watch
  by_cases e : wd = Str.ofString "watch"
  · obtain ⟨r, rest, rfl, hr⟩ := h e
    rw [if_pos e] at uw
    rw [← uw, Nat.add_comm, take_get hr, List.reverse_append]
    unfold rdR
    rw [if_pos e] <;> rfl
  · rw [if_neg e, Nat.zero_add] at uw
    unfold rdR
    rw [if_neg e, uw, List.nil_append]
theorem StAt.lsts {H : Hp} {st : Addr} (h : StAt H st) : Lsts [st] H := fun b hb => by
  obtain ⟨g, a, c, q⟩ := h
  obtain rfl : b = st := List.mem_singleton.mp hb
  exact ⟨_, q⟩
theorem kept_fresh {S : List Addr} {d st : Addr} {H H1 H2 : Hp} (g : Kept [d] H H1) (n : H st = none) (k : Kept [st, d] H1 H2) : Kept [d] H H2 := fun b o e hb => by
  refine k b o (g b o e hb) fun hm => ?_
  rcases List.mem_cons.mp hm with rfl | hm
  · rw [n] at e; cases e
  · exact hb hm
section
variable {P : Program} {w : World} {K : PySem.W.Frag} {mg : Str → Option Value} {base : Heap}
theorem sc_lrow : FnScope ["_law_script", "_law_plan", "_law_level", "_law_state_here", "_law_menu", "_law_word", "_law_head", "_law_counts", "_law_first"] ["_law_script", "_law_plan", "_law_level"] (defScope s_law_row) := ⟨rfl, rfl, rfl, by decide +kernel, rfl, by decide +kernel, by decide +kernel⟩
theorem c_lrow (T : Txt w K mg) (m : Nat) (rec_ : Cal P w K mg base "_law_rows" (3 + 2 * m) ["_law_script", "_law_plan", "_law_level", "_law_count"] (sp_lrows K m)) :
    Cal P w K mg base "_law_row" (3 + 2 * m + 1) ["_law_script", "_law_plan", "_law_level"] (sp_lrow K (m + 1)) := by
  refine T.d_law_row.cal sc_lrow (fun _ _ _ _ _ _ us hl => match us, hl with | [_, _, _], _ => rfl) (fun vs H Q E h => by obtain ⟨sc, d, lvl, ns, F, D, tl, M, rfl, _⟩ := h; rfl) (fun f cdv A outer s H vs Q E hr h => ?_)
  obtain ⟨sc, d, lvl, ns, F, D, tl, M, rfl, hsc, hM, hP, hrows, hat, hw3, hlvl, hm, q⟩ := h
  have nd := sc_lrow.nd
  have hu := hu_of hr
  have hr1 : Room 1 _ := hr.mono (Nat.le_trans (by decide) (Nat.le_add_right 3 _))
  have hr2 : Room 2 _ := hr.mono (Nat.le_trans (by decide) (Nat.le_add_right 3 _))
  have hr3 : Room 3 _ := hr.mono (Nat.le_add_right 3 _)
  refine ⟨_, pss_cons (ps_set (i := 3) nd rfl (Or.inl rfl) (pe_c (c_law_state T) hr1 (pa_cons (pv 0) (pa_cons (pe_dget hu (pv 1) pe_str (fun _ _ => rfl)) pa_nil))))
    (pss_cons (ps_dput hu (pv 1) pe_str (pe_op op_add (pe_dget hu (pv 1) pe_str (fun _ _ => rfl)) pe_int) rfl)
    (pss_cons (ps_dput hu (pv 1) pe_str (pe_op op_sub (pe_dget hu (pv 1) pe_str (fun _ _ => rfl)) pe_int) rfl)
    (pss_cons (ps_set (i := 4) nd rfl (Or.inl rfl) (pe_lst (pa_cons pe_str (pa_cons pe_str (pa_cons pe_str (pa_cons pe_str (pa_cons pe_str (pa_cons pe_str (pa_cons pe_str (pa_cons pe_str (pa_cons pe_str (pa_cons pe_str pa_nil))))))))))))
    (pss_cons (ps_set (i := 4) nd rfl (Or.inl rfl) (pe_op op_cat (pv 4) (pe_lst (pa_cons pe_str (pa_cons pe_str (pa_cons pe_str (pa_cons pe_str (pa_cons pe_str (pa_cons pe_str pa_nil)))))))))
    (pss_cons (ps_set (i := 5) nd rfl (Or.inl rfl) (pe_ix ix_list (pv 4) (pe_c (c_law_draw T) hr1 (pa_cons (pv 3) (pa_cons pe_int pa_nil))) (fun _ _ => rfl)))
    (C8.pss_cut (ps_if (PW.pt (pw_and (pt_cmpR op_in_seq (pv 5) (pe_lst (pa_cons pe_str (pa_cons pe_str pa_nil))) (by rfl)) (pw_and1 (pt_cmpR op_lt (pv 2) pe_int (nomark _)))))
      (pss_cons (ps_set (i := 6) nd rfl (Or.inl rfl) (pe_tup (pa_cons (pv 5) (pa_cons (pe_c (c_law_choose T) hr2 (pa_cons (pv 3) (pa_cons (pv 1) pa_nil))) pa_nil))))
      (C8.pss_cut (ps_if (pt_cmpR op_eq (pv 5) pe_str (nomark _)) (pss_one (ps_set (i := 6) nd rfl (Or.inl rfl) (pe_op op_catQ (pv 6) (pe_tup (pa_cons (pe_c (c_law_choose T) hr2 (pa_cons (pv 3) (pa_cons (pv 1) pa_nil))) pa_nil))))) pss_nil)
      (pss_cons (ps_set (i := 7) nd rfl (Or.inl rfl) (pe_lst (pa_cons (pe_c (c_law_draw T) hr1 (pa_cons (pv 3) (pa_cons pe_int pa_nil))) (pa_cons (pe_c (c_law_draw T) hr1 (pa_cons (pv 3) (pa_cons pe_int pa_nil))) pa_nil))))
      (pss_cons (ps_set (i := 8) nd rfl (Or.inl rfl) (pe_c rec_ hr (pa_cons (pv 0) (pa_cons (pv 1) (pa_cons (pe_op op_add (pv 2) pe_int) (pa_cons (pe_ix ix_list (pv 7) pe_int (fun _ _ => rfl)) pa_nil))))))
      (pss_one (ps_ret (pe_op op_catQ (pv 6) (pe_tup (pa_cons (pv 8) (pa_cons (pe_c rec_ hr (pa_cons (pv 0) (pa_cons (pv 1) (pa_cons (pe_op op_add (pv 2) pe_int) (pa_cons (pe_ix ix_list (pv 7) pe_int (fun _ _ => rfl)) pa_nil))))) pa_nil)))))))))) pss_nil)
    (C8.pss_cut (ps_if (pt_cmpR op_in_seq (pv 5) (pe_lst (pa_cons pe_str (pa_cons pe_str (pa_cons pe_str pa_nil)))) (by rfl))
      (pss_cons (ps_dput hu (pv 1) (pv 5) (pe_op op_sub (pe_dget hu (pv 1) (pv 5) (fun _ _ => rfl)) pe_int) rfl)
      (pss_one (ps_if (pt_cmpR op_lt (pe_dget hu (pv 1) (pv 5) (fun _ _ => rfl)) pe_int (nomark _)) (pss_cons (ps_dput hu (pv 1) (pv 5) pe_int rfl) (pss_one (ps_set (i := 5) nd rfl (Or.inl rfl) pe_str))) pss_nil))) pss_nil)
    (C8.pss_cut (ps_if (pt_cmpR op_in_seq (pv 5) (pe_lst (pa_cons pe_str (pa_cons pe_str pa_nil))) (by rfl)) (pss_one (ps_set (i := 5) nd rfl (Or.inl rfl) pe_str)) pss_nil)
    (pss_one (ps_ret (pe_c (c_law_plain T) hr3 (pa_cons (pv 3) (pa_cons (pv 1) (pa_cons (pv 5) pa_nil)))))))))))))), ?_⟩
  obtain ⟨kvs, wl, rl, fl, ll, h0, hl30, h1, h2, h3, h4, h5⟩ := hP.ex
  refine ⟨_, rfl, _, rfl, d, _, rfl, dget (i := 2) h0 h1 rfl, sc, ns, D.at_, rfl, hsc, by omega, fun st H1 g1 nst hst => ?_⟩
  have hP1 := hP.same g1
  obtain ⟨o1, hput1, hP2, _⟩ := hP1.put (D' := { D with at_ := D.at_ + 1 }) 2 (.int ((D.at_ : Int) + 1)) (by decide) (fun _ _ _ _ => rfl) rfl
  have std : st ≠ d := fun e => by rw [e, h0] at nst; cases nst
  refine ⟨_, rfl, d, _, rfl, dget (i := 2) (g1 _ _ h0) h1 rfl, _, 1, rfl, rfl, _, rfl, d, _, rfl, hput1, ?_⟩
  have hst2 : StAt (upd H1 d o1) st := hst.kept (Kept.upd (S := [d]) (List.mem_singleton.mpr rfl)) (by simp [std])
  have k2 : Kept [d] H (upd H1 d o1) := (Kept.of g1).trans (Kept.upd (List.mem_singleton.mpr rfl))
  revert hP2 hst2 k2
  generalize upd H1 d o1 = H2
  intro hP2 hst2 k2
  obtain ⟨kvs, wl, rl, fl, ll, h0', hl30, h1, h2, h3, h4, h5⟩ := hP2.ex
  have e1 : V.int ((D.rows : Int) - 1) = V.int ((D.rows - 1 : Nat) : Int) := congrArg V.int (by omega)
  obtain ⟨o2, hput2, hP3, _⟩ := hP2.put (D' := { D with at_ := D.at_ + 1, rows := D.rows - 1 }) 5 (.int ((D.rows : Int) - 1)) (by decide) (fun _ _ _ _ => by rw [e1] <;> rfl) rfl
  refine ⟨_, rfl, d, _, rfl, dget (i := 5) h0' h1 rfl, _, 1, rfl, rfl, _, rfl, d, _, rfl, hput2, ?_⟩
  have hst3 : StAt (upd H2 d o2) st := hst2.kept (Kept.upd (S := [d]) (List.mem_singleton.mpr rfl)) (by simp [std])
  have k3 : Kept [d] H (upd H2 d o2) := k2.trans (Kept.upd (List.mem_singleton.mpr rfl))
  revert hP3 hst3 k3
  generalize upd H2 d o2 = H3
  intro hP3 hst3 k3
  clear h0' hl30 h1 h2 h3 h4 h5 hP2 hst2 k2 hP1 hput1 hput2
  have u1 : Used F D { D with at_ := D.at_ + 1, rows := D.rows - 1 } 1 0 [] := ⟨by show D.at_ + 1 + (D.rows - 1) = D.at_ + D.rows; omega, by show 1 + (D.rows - 1) = D.rows; omega, Nat.zero_add _, rfl, Nat.le_refl _⟩
  generalize hD1 : ({ D with at_ := D.at_ + 1, rows := D.rows - 1 } : Dn) = D1 at hP3 u1
  have hat1 : D1.at_ + D1.rows ≤ 100 := by rw [u1.at_]; exact hat
  have hw1 : D1.watch ≤ 3 := Nat.le_trans u1.w hw3
  refine ⟨(by show 10 ≤ sizeLine; decide), fun l1 n1 => ⟨_, rfl, (by show 6 ≤ sizeLine; decide), fun l2 n2 => ⟨l1, l2, _, _, rfl, rfl, same_new n2 _ _ _ upd_same, upd_same, (by show 16 ≤ sizeLine; decide), fun l3 n3 => ?_⟩⟩⟩
  have g4 := ((same_new n1 (.lst (menuL.take 10 |>.map V.str))).trans (same_new n2 (.lst (menuL.drop 10 |>.map V.str)))).trans (same_new n3 (.lst (menuL.map V.str)))
  have hm3 : (upd (upd (upd H3 l1 (.lst (menuL.take 10 |>.map V.str))) l2 (.lst (menuL.drop 10 |>.map V.str))) l3 (.lst (menuL.map V.str))) l3 = some (.lst (menuL.map V.str)) := upd_same
  refine ⟨_, rfl, _, rfl, st, 16, rfl, hst3.same g4, by decide, by decide, fun v H5 hv hst5 k5 => ?_⟩
  have s3 : l3 ≠ st := (hst3.same g4).neL hm3 (by decide)
  obtain ⟨wd, hwd, ewd⟩ := menu_at hv
  refine ⟨l3, _, _, _, rfl, rfl, SqL.of (k5 _ _ hm3 (by simp [s3])), ewd, ?_⟩
  have hP5 := (hP3.same g4).keptS (hst3.same g4) k5
  have k05 : Kept [d] H H5 := kept_fresh (S := []) (k3.trans (Kept.of g4)) nst (Kept.both (S := []) k5)
  clear ewd hm3 s3 g4
  refine ⟨fun σ' H' => (∃ v6 v7 v8 vm, σ' = [some (.ref sc), some (.ref d), some (.int (lvl : Nat)), some (.ref st), vm, some (.str wd), v6, v7, v8]) ∧ StAt H' st ∧ Kept [d] H H' ∧ PlAt H' d F D1 tl, ?_, ?_⟩
  · refine ⟨_, rfl, (by show 2 ≤ sizeLine; decide), fun l4 n4 => ⟨l4, _, rfl, .inl (SqL.of upd_same), rfl, rfl, _, rfl, ?_⟩⟩
    have g6 := same_new n4 (.lst [.str (Str.ofString "same"), .str (Str.ofString "empty")])
    have k06 := k05.trans (Kept.of g6)
    refine ite2 (fun e => ?_) (fun _ => ⟨⟨_, _, _, _, rfl⟩, hst5.same g6, k06, hP5.same g6⟩)
    refine ⟨_, rfl, _, _, rfl, rfl, _, rfl, ite2 (fun e3 => ?_) (fun _ => ⟨⟨_, _, _, _, rfl⟩, hst5.same g6, k06, hP5.same g6⟩)⟩
    have hl3 : lvl < 3 := by have := of_decide_eq_true e3; omega
    have hse : wd = Str.ofString "same" ∨ wd = Str.ofString "empty" := by
      have e' : inV (.str wd) ([Str.ofString "same", Str.ofString "empty"].map V.str) = true := e
      rw [inV_str] at e'
      simpa using of_decide_eq_true e'
    have nse : (wd, (if wd = Str.ofString "same" then 2 else 1)) ∈ nodeL := by
      rcases hse with rfl | rfl
      · decide +kernel
      · decide +kernel
    refine ⟨_, rfl, _, rfl, _, rfl, st, d, F, D1, tl, rfl, hst5.same g6, hP5.same g6, fun x1 H7 hx1 st7 k7 => ⟨(by show 2 ≤ sizeLine; decide), fun t1 nt1 => ?_⟩⟩
    have k07 : Kept [d] H H7 := kept_fresh (S := []) k06 nst (Kept.both (S := []) k7)
    have hP7 := (hP5.same g6).keptS (hst5.same g6) k7
    have g8 := same_new nt1 (.tup [V.str wd, V.str x1])
    refine ⟨fun σ' H' => ∃ (th : Addr) (us : List Str) (v7 v8 vm : Option V), σ' = [some (.ref sc), some (.ref d), some (.int (lvl : Nat)), some (.ref st), vm, some (.str wd), some (.ref th), v7, v8] ∧ SqT K H' th (.str wd :: us.map V.str) ∧ (wd, us.length) ∈ nodeL ∧ (∀ x ∈ us, x ∈ F.words) ∧ StAt H' st ∧ Kept [d] H H' ∧ PlAt H' d F D1 tl, ?_, ?_⟩
    · refine ⟨_, rfl, rfl, _, rfl, ite2 (fun e => ?_) (fun e => ?_)⟩
      · have e' : wd = Str.ofString "same" := by have := of_decide_eq_true e; injection this
        refine ⟨_, rfl, _, rfl, _, rfl, st, d, F, D1, tl, rfl, st7.same g8, hP7.same g8, fun x2 H9 hx2 st9 k9 => ⟨(by show 1 ≤ sizeLine; decide), fun t2 nt2 => ?_⟩⟩
        have st1 : t1 ≠ st := fun z => by rw [z] at nt1; obtain ⟨g, a, b, q⟩ := st7; rw [nt1] at q; cases q
        have h9 : H9 t1 = some (.tup [V.str wd, V.str x1]) := k9 _ _ upd_same (by simp [st1])
        have g10 := same_new nt2 (.tup [V.str x2])
        refine ⟨t1, t2, _, _, rfl, rfl, SqT.of (g10 _ _ h9), SqT.of upd_same, (by show 3 ≤ sizeLine; decide), fun t3 H11 g11 ht3 => ⟨t3, [x1, x2], _, _, _, rfl, ht3, by rw [e']; exact (by decide +kernel : (Str.ofString "same", 2) ∈ nodeL), ?_, (st9.same g10).same g11, ((kept_fresh (S := []) (k07.trans (Kept.of g8)) nst (Kept.both (S := []) k9)).trans (Kept.of g10)).trans (Kept.of g11), (((hP7.same g8).keptS (st7.same g8) k9).same g10).same g11⟩⟩
        intro x hx
        simp only [List.mem_cons, List.not_mem_nil, or_false] at hx
        rcases hx with rfl | rfl
        · exact hx1
        · exact hx2
      · have e' : wd = Str.ofString "empty" := hse.resolve_left fun z => e (decide_eq_true (congrArg V.str z))
        refine ⟨t1, [x1], _, _, _, rfl, SqT.of upd_same, by rw [e']; exact (by decide +kernel : (Str.ofString "empty", 1) ∈ nodeL), ?_, st7.same g8, k07.trans (Kept.of g8), hP7.same g8⟩
        intro x hx
        rw [List.mem_singleton.mp hx]
        exact hx1
    · rintro σ' H9 ⟨th, us, v7, v8, vm, rfl, hth, hnode, hus, st9, k9, hP9⟩
      have fewus : us.length ≤ 4 := (node_few _ hnode).1
      refine ⟨_, rfl, st, 3, rfl, st9, by decide, by decide, fun c1 Ha hc1 sta ka => ⟨_, rfl, st, 3, rfl, sta, by decide, by decide, fun c2 Hb hc2 stb kb => ⟨(by show 2 ≤ sizeLine; decide), fun l5 n5 => ?_⟩⟩⟩
      have kab := ka.trans kb
      have hPb := hP9.keptS st9 kab
      have k0b : Kept [d] H Hb := kept_fresh (S := []) k9 nst (Kept.both (S := []) kab)
      have g10 := same_new n5 (.lst [V.int (c1 : Nat), V.int (c2 : Nat)])
      have k0c := k0b.trans (Kept.of g10)
      have hthb : SqT K Hb th (.str wd :: us.map V.str) := sqT_keptM st9.lsts kab hth
      have hthc := sqT_same g10 hthb
      have hPc := hPb.same g10
      have hl5 : (upd Hb l5 (.lst [V.int (c1 : Nat), V.int (c2 : Nat)])) l5 = some (.lst [V.int (c1 : Nat), V.int (c2 : Nat)]) := upd_same
      have hMc : Lsts M (upd Hb l5 (.lst [V.int (c1 : Nat), V.int (c2 : Nat)])) := lstsD h0 k0c hM
      have hscc : SqL K (upd Hb l5 (.lst [V.int (c1 : Nat), V.int (c2 : Nat)])) sc (ns.map V.int) := (keepsD h0 k0c).1 _ _ hsc
      revert k0c hthc hPc hl5 hMc hscc
      generalize (upd Hb l5 (.lst [V.int (c1 : Nat), V.int (c2 : Nat)])) = Hc
      intro k0c hthc hPc hl5 hMc hscc
      refine ⟨_, rfl, _, rfl, _, rfl, _, 1, rfl, rfl, _, rfl, l5, _, 0, _, rfl, rfl, SqL.of hl5, at_0 _ _, sc, d, lvl + 1, c1, ns, F, D1, tl, M, rfl, hscc, hMc, hPc, by omega, hat1, hw1, by omega, by omega, fun r1 xs1 rs1 D2 H7' k7' nr1 hr1l hP7' d7 ok1 us1 ht1 => ?_⟩
      obtain ⟨kc, hdc⟩ := hPc.isD
      have k07' := k0c.trans k7'
      have hM7 := lstsD hdc k7' hMc
      have l5d : l5 ≠ d := fun z => by rw [z, hdc] at hl5; cases hl5
      have hl57 := k7' _ _ hl5 (by simp [l5d])
      have hth7 := (keepsD hdc k7').2 _ _ hthc
      refine ⟨_, rfl, _, rfl, _, rfl, _, rfl, _, rfl, _, 1, rfl, rfl, _, rfl, l5, _, 1, _, rfl, rfl, SqL.of hl57, rfl, sc, d, lvl + 1, c2, ns, F, D2, tl, M, rfl, (keepsD hdc k7').1 _ _ hscc, hM7, hP7', by omega, by rw [us1.at_]; exact hat1, Nat.le_trans us1.w hw1, by omega, by omega, fun r2 xs2 rs2 D3 H8 k8 nr2 hr2l hP8 d8 ok2 us2 ht2 => ?_⟩
      obtain ⟨kd, hdd⟩ := hP7'.isD
      refine ⟨(by show 2 ≤ sizeLine; decide), fun t2 nt2 => ⟨th, t2, _, [.ref r1, .ref r2], rfl, rfl, sqT_same (same_new nt2 _) ((keepsD hdd k8).2 _ _ hth7), SqT.of upd_same, small_line (by simp only [List.length_cons, List.length_map, List.length_nil]; omega), fun t3 H9' g9 ht3 => ?_⟩⟩
      have g89 : Same H8 H9' := (same_new nt2 _).trans g9
      have k78 := k8.trans (Kept.of g89)
      have hM9 := lstsD hdd k78 hM7
      have r1M : r1 ∉ M := hMc.out nr1
      have r2M : r2 ∉ M := hM7.out nr2
      have r1d : r1 ≠ d := fun z => by rw [z, hdd] at hr1l; cases hr1l
      refine q t3 (.node wd us rs1 rs2) D3 H9' (k07'.trans k78) (hP8.same g89) (node_mk (p := r1) (q := r2) (xs := xs1) (ys := xs2) (sqT_hid hM9 ht3) (sqL_hid r1M (k78 _ _ hr1l (by simp [r1d]))) (dpAll_keeps (keepsDM hdd k78) _ _ (dpAll_same hid_tl d7)) (sqL_hid r2M (g89 _ _ hr2l)) (dpAll_same ((hid_same g89)) (dpAll_same hid_tl d8))) ?_ ?_ ?_
      · rw [okR]
        exact ⟨hnode, hus, ok1, ok2⟩
      · have := (u1.trans us1).trans us2
        rw [szR, cpR, rdR]
        rw [Nat.zero_add, List.nil_append, Nat.add_assoc] at this
        exact this
      · rw [htR]
        omega
  · rintro σ' H6 ⟨⟨v6, v7, v8, vm, rfl⟩, st6, k6, hP6⟩
    refine ⟨fun σ' H' => ∃ (wd2 : Str) (D2 : Dn), σ' = [some (.ref sc), some (.ref d), some (.int (lvl : Nat)), some (.ref st), vm, some (.str wd2), v6, v7, v8] ∧ StAt H' st ∧ Kept [d] H H' ∧ PlAt H' d F D2 tl ∧ wd2 ∈ Str.ofString "same" :: Str.ofString "empty" :: plainW ∧ LeafUse wd2 D1 D2, ?_, ?_⟩
    · refine ⟨_, rfl, (by show 3 ≤ sizeLine; decide), fun l4 n4 => ⟨l4, _, rfl, .inl (SqL.of upd_same), rfl, rfl, _, rfl, ?_⟩⟩
      have g7 := same_new n4 (.lst [.str (Str.ofString "look"), .str (Str.ofString "copy"), .str (Str.ofString "watch")])
      have hP7 := hP6.same g7
      have st7 := st6.same g7
      have k7 := k6.trans (Kept.of g7)
      revert hP7 st7 k7
      generalize (upd H6 l4 (.lst [.str (Str.ofString "look"), .str (Str.ofString "copy"), .str (Str.ofString "watch")])) = H7
      intro hP7 st7 k7
      have einv : inV (.str wd) [V.str (Str.ofString "look"), V.str (Str.ofString "copy"), V.str (Str.ofString "watch")] = decide (wd ∈ [Str.ofString "look", Str.ofString "copy", Str.ofString "watch"]) := inV_str wd [Str.ofString "look", Str.ofString "copy", Str.ofString "watch"]
      show if inV (.str wd) [V.str (Str.ofString "look"), V.str (Str.ofString "copy"), V.str (Str.ofString "watch")] = true then _ else _
      rw [einv]
      refine ite2 (fun e => ?_) (fun e => ?_)
      · have hi : ∃ i, (i = 6 ∨ i = 7 ∨ i = 8) ∧ wd = keyS i := by
          have e' := of_decide_eq_true e
          simp only [List.mem_cons, List.not_mem_nil, or_false] at e'
          rcases e' with rfl | rfl | rfl
          · exact ⟨6, .inl rfl, rfl⟩
          · exact ⟨7, .inr (.inl rfl), rfl⟩
          · exact ⟨8, .inr (.inr rfl), rfl⟩
        obtain ⟨i, hi, rfl⟩ := hi
        have hi11 : i < 11 := by omega
        obtain ⟨kvs, wl, rl, fl, ll, h0', hl30, h1, h2, h3, h4, h5⟩ := hP7.ex
        have sub : ∀ {o : HO} {J : Hp}, StAt J st → StAt (upd J d o) st := fun h => h.kept (Kept.upd (S := [d]) (List.mem_singleton.mpr rfl)) (by simp [std])
        by_cases hc : cntD D1 i = 0
        · obtain ⟨o1, o2, q1, q2, q3, hP9⟩ := hP7.put2 i (.int ((cntD D1 i : Nat) - 1 : Int)) (.int 0) hi11 (fun wl rl fl ll => by rw [lit_at hi, hc] <;> rfl)
          refine ⟨_, rfl, _, rfl, d, _, rfl, dget (i := i) h0' h1 (lit_at hi), _, 1, rfl, rfl, _, rfl, _, rfl, d, _, rfl, q1, ?_⟩
          refine ⟨_, rfl, _, rfl, d, _, rfl, q2, _, 0, rfl, rfl, _, rfl, ?_⟩
          rw [decide_eq_true (by rw [hc]; decide)]
          refine iteT ⟨_, rfl, _, rfl, d, _, rfl, q3, Str.ofString "put", D1, rfl, sub (sub st7), (k7.trans (Kept.upd (List.mem_singleton.mpr rfl))).trans (Kept.upd (List.mem_singleton.mpr rfl)), hP9, by decide +kernel, LeafUse.none (by decide +kernel) (by decide +kernel)⟩
        · have e1 : V.int (((cntD D1 i : Nat) : Int) - 1) = V.int ((cntD D1 i - 1 : Nat) : Int) := congrArg V.int (by omega)
          obtain ⟨o1, q1, hP8, _⟩ := hP7.put (D' := setD D1 (cntD D1 i - 1) i) i (.int (((cntD D1 i : Nat) : Int) - 1)) hi11 (fun wl rl fl ll => by rw [e1]; exact lit_set hi) setD_live
          refine ⟨_, rfl, _, rfl, d, _, rfl, dget (i := i) h0' h1 (lit_at hi), _, 1, rfl, rfl, _, rfl, _, rfl, d, _, rfl, q1, ?_⟩
          have st8 : StAt (upd H7 d o1) st := sub st7
          have k8 : Kept [d] H (upd H7 d o1) := k7.trans (Kept.upd (List.mem_singleton.mpr rfl))
          revert st8 k8 hP8
          generalize upd H7 d o1 = H8
          intro hP8 st8 k8
          obtain ⟨kvs, wl, rl, fl, ll, h0', hl30, h1, h2, h3, h4, h5⟩ := hP8.ex
          have ecnt : cntD (setD D1 (cntD D1 i - 1) i) i = cntD D1 i - 1 := by
            rcases hi with rfl | rfl | rfl <;> rfl
          refine ⟨_, rfl, _, rfl, d, _, rfl, dget (i := i) h0' h1 (lit_at hi), _, 0, rfl, rfl, _, rfl, ?_⟩
          rw [decide_eq_false (by omega)]
          refine iteF ⟨keyS i, setD D1 (cntD D1 i - 1) i, rfl, st8, k8, hP8, ?_, ?_⟩
          · rcases hi with rfl | rfl | rfl <;> decide +kernel
          · rcases hi with rfl | rfl | rfl
            · exact ⟨rfl, rfl, by rw [if_neg (by decide +kernel)]; exact Nat.zero_add _, by rw [if_neg (by decide +kernel)]; exact Nat.zero_add _⟩
            · exact ⟨rfl, rfl, by rw [if_pos (by decide +kernel)]; show 1 + (D1.copy - 1) = D1.copy; have : D1.copy ≠ 0 := hc; omega, by rw [if_neg (by decide +kernel)]; exact Nat.zero_add _⟩
            · exact ⟨rfl, rfl, by rw [if_neg (by decide +kernel)]; exact Nat.zero_add _, by rw [if_pos (by decide +kernel)]; show 1 + (D1.watch - 1) = D1.watch; have : D1.watch ≠ 0 := hc; omega⟩
      · have e' : wd ∉ [Str.ofString "look", Str.ofString "copy", Str.ofString "watch"] := fun z => e (decide_eq_true z)
        simp only [List.mem_cons, List.not_mem_nil, or_false, not_or] at e'
        refine ⟨wd, D1, rfl, st7, k7, hP7, ?_, LeafUse.none e'.2.1 e'.2.2⟩
        have hall : ∀ x ∈ menuL, x ∈ Str.ofString "same" :: Str.ofString "empty" :: plainW := by decide +kernel
        exact hall wd hwd
    · rintro σ' H7 ⟨wd2, D2, rfl, st7, k7, hP7, hwd2, lu⟩
      refine ⟨fun σ' H' => ∃ (wd3 : Str) (vm v6 v7 v8 : Option V), σ' = [some (.ref sc), some (.ref d), some (.int (lvl : Nat)), some (.ref st), vm, some (.str wd3), v6, v7, v8] ∧ StAt H' st ∧ Kept [d] H H' ∧ PlAt H' d F D2 tl ∧ wd3 ∈ plainW ∧ LeafUse wd3 D1 D2, ?_, ?_⟩
      · refine ⟨_, rfl, (by show 2 ≤ sizeLine; decide), fun l4 n4 => ⟨l4, _, rfl, .inl (SqL.of upd_same), rfl, rfl, _, rfl, ?_⟩⟩
        have g8 := same_new n4 (.lst [.str (Str.ofString "same"), .str (Str.ofString "empty")])
        have einv : inV (.str wd2) [V.str (Str.ofString "same"), V.str (Str.ofString "empty")] = decide (wd2 ∈ [Str.ofString "same", Str.ofString "empty"]) := inV_str wd2 [Str.ofString "same", Str.ofString "empty"]
        show if inV (.str wd2) [V.str (Str.ofString "same"), V.str (Str.ofString "empty")] = true then _ else _
        rw [einv]
        refine ite2 (fun e => ?_) (fun e => ?_)
        · have e' := of_decide_eq_true e
          simp only [List.mem_cons, List.not_mem_nil, or_false] at e'
          refine ⟨Str.ofString "move", _, _, _, _, rfl, st7.same g8, k7.trans (Kept.of g8), hP7.same g8, by decide +kernel, ⟨lu.at_, lu.rows, ?_, ?_⟩⟩
          · have := lu.copy
            rw [if_neg (by rcases e' with rfl | rfl <;> decide +kernel)] at this
            rw [if_neg (by decide +kernel)]
            exact this
          · have := lu.watch
            rw [if_neg (by rcases e' with rfl | rfl <;> decide +kernel)] at this
            rw [if_neg (by decide +kernel)]
            exact this
        · have e' : wd2 ∉ [Str.ofString "same", Str.ofString "empty"] := fun z => e (decide_eq_true z)
          simp only [List.mem_cons, List.not_mem_nil, or_false, not_or] at e'
          refine ⟨wd2, _, _, _, _, rfl, st7.same g8, k7.trans (Kept.of g8), hP7.same g8, ?_, lu⟩
          rcases List.mem_cons.mp hwd2 with h | h
          · exact absurd h e'.1
          · rcases List.mem_cons.mp h with h | h
            · exact absurd h e'.2
            · exact h
      · rintro σ' H8 ⟨wd3, vm, v6, v7, v8, rfl, st8, k8, hP8, hwd3, lu⟩
        refine ⟨_, rfl, _, rfl, _, rfl, st, d, F, D2, tl, wd3, rfl, hwd3, st8, hP8, fun e => ?_, fun t ps live' H9 st9 k9 hP9 hs ok9 hrd => ?_⟩
        · have := lu.watch
          rw [if_pos e] at this
          omega
        · have k09 := kept_fresh (S := []) k8 nst k9
          have hM9 := lstsD h0 k09 hM
          have uu := u1.trans (leaf_used (F := F) (live' := live') lu hrd)
          rw [Nat.zero_add, List.nil_append] at uu
          exact q t (.leaf wd3 ps) { D2 with live := live' } H9 k09 hP9 (leaf_mk (sqT_hid hM9 hs)) ok9 (by rw [szR]; exact uu) (by rw [htR]; omega)
end
end Tw

set_option Elab.async false
set_option maxRecDepth 100000
set_option maxHeartbeats 4000000
/-! F6: the law's rows. -/
namespace Tw
open PySem PySem.Spec L2 TL PyProof.Rows
theorem htL_app : ∀ a b : List Row, htL (a ++ b) = max (htL a) (htL b)
  | [], b => by rw [List.nil_append, htL, Nat.max_eq_right (htL_pos b)]
  | r :: a, b => by rw [List.cons_append, htL, htL, htL_app a b, Nat.max_assoc]
theorem one_row (r : Row) : szL [r] = szR r ∧ cpL [r] = cpR r ∧ rdL [r] = rdR r ∧ htL [r] = htR r + 1 := by
  refine ⟨by rw [szL, szL, Nat.add_zero], by rw [cpL, cpL, Nat.add_zero], by rw [rdL, rdL, List.append_nil], by rw [htL, htL]; omega⟩
theorem rows_refs {K : PySem.W.Frag} {G : Hp} {xs : List V} {rs : List Row} (h : DpAll K G xs (dL rs)) : ∀ v ∈ xs, ∃ a, v = .ref a := fun v hv => by
  obtain ⟨i, hi⟩ := List.getElem?_of_mem hv
  obtain ⟨r, _, hr⟩ := dA_row h hi
  cases r with
  | leaf w ps => obtain ⟨a, e, _⟩ := leaf_at hr; exact ⟨a, e⟩
  | node w vs a b => obtain ⟨t, _, _, _, _, e, _⟩ := node_at hr; exact ⟨t, e⟩
theorem PlAt.updL {H : Hp} {d l : Addr} {F : Pl} {D : Dn} {tl : List V} {xs : List V} {o : HO} (h : PlAt H d F D tl) (e : H l = some (.lst xs)) (hx : ∀ v ∈ xs, ∃ a, v = V.ref a) : PlAt (upd H l o) d F D tl := by
  obtain ⟨kvs, wl, rl, fl, ll, h0, hl30, h1, h2, h3, h4, h5⟩ := h.ex
  have ok := h.ok
  have ne : ∀ {a : Addr} {ws : List Str}, H a = some (.lst (ws.map V.str)) → 1 ≤ ws.length → a ≠ l := fun {a ws} q n z => by
    rw [z, e] at q
    injection q with q
    injection q with q
    cases ws with
    | nil => exact absurd n (by decide)
    | cons x ws =>
      obtain ⟨b, eb⟩ := hx (.str x) (by rw [q, List.map_cons]; exact List.mem_cons_self ..)
      cases eb
  refine ⟨⟨kvs, wl, rl, fl, ll, ?_, hl30, h1, ?_, ?_, ?_, ?_⟩, ok, h.few⟩
  · rw [upd_ne fun z => by rw [z, e] at h0; cases h0]; exact h0
  · rw [upd_ne (ne h2 (by rw [ok.w5]; decide))]; exact h2
  · rw [upd_ne (ne h3 (by rw [ok.r3]; decide))]; exact h3
  · rw [upd_ne (ne h4 ok.f1)]; exact h4
  · rw [upd_ne (ne h5 ok.l1)]; exact h5
theorem bd_lrows : BindOk "_law_rows" "_law_rows" s_law_rows ["_law_script", "_law_plan", "_law_level", "_law_count"] := fun _ _ _ _ _ _ us hl => match us, hl with | [_, _, _, _], _ => rfl
section
variable {P : Program} {w : World} {K : PySem.W.Frag} {mg : Str → Option Value} {base : Heap}
theorem sc_lrows : FnScope ["_law_script", "_law_plan", "_law_level", "_law_count", "_law_rows_here", "_law_turn"] ["_law_script", "_law_plan", "_law_level", "_law_count"] (defScope s_law_rows) := ⟨rfl, rfl, rfl, by decide +kernel, rfl, by decide +kernel, by decide +kernel⟩
theorem c_lrows (T : Txt w K mg) : ∀ m : Nat, Cal P w K mg base "_law_rows" (3 + 2 * m) ["_law_script", "_law_plan", "_law_level", "_law_count"] (sp_lrows K m)
  | 0 => T.d_law_rows.cal0 bd_lrows fun vs H Q E h => by
    obtain ⟨sc, d, lvl, cnt, ns, F, D, tl, M, _, _, _, _, _, _, _, h1, h2, _⟩ := h
    omega
  | m + 1 => by
    have row_ := c_lrow T m (c_lrows T m)
    refine T.d_law_rows.cal sc_lrows bd_lrows (fun vs H Q E h => by obtain ⟨sc, d, lvl, cnt, ns, F, D, tl, M, rfl, _⟩ := h; rfl) (fun f cdv A outer s H vs Q E hr h => ?_)
    obtain ⟨sc, d, lvl, cnt, ns, F, D, tl, M, rfl, hsc, hM, hP, hcnt, hat, hw3, hlvl, hm, q⟩ := h
    have nd := sc_lrows.nd
    have hu := hu_of hr
    refine ⟨_, pss_cons (ps_set (i := 4) nd rfl (Or.inl rfl) (pe_lst pa_nil))
      (pss_cons (ps_for PassesOwn.never rfl (pi_range1 (by rfl) T.b_range (pa_cons (pv 3) pa_nil)) (pg_name (i := 5) nd rfl (Or.inl rfl))
        (pss_one (ps_if (pt_cmpR op_gt (pe_dget hu (pv 1) pe_str (fun _ _ => rfl)) pe_int (nomark _))
          (pss_one (ps_expr (pe_bm PySem.F.plainAttrs_list PySem.F.slot_list_append PySem.F.type_list_append mt_append (pv 4) (pa_cons (pe_c row_ hr (pa_cons (pv 0) (pa_cons (pv 1) (pa_cons (pv 2) pa_nil)))) pa_nil)))) pss_nil)))
      (pss_one (ps_ret (pv 4)))), ?_⟩
    obtain ⟨kv0, h0⟩ := hP.isD
    refine ⟨Nat.zero_le _, fun l nl => ?_⟩
    have ld : l ≠ d := fun z => by rw [z, h0] at nl; cases nl
    refine ⟨_, rfl, cnt, rfl, by omega, by omega, for_it walk_range (fun i σ H' => (∃ v5, σ = [some (.ref sc), some (.ref d), some (.int (lvl : Nat)), some (.int (cnt : Nat)), some (.ref l), v5]) ∧ Kept [d] H H' ∧ ∃ xs rs D', H' l = some (.lst xs) ∧ rs.length ≤ i ∧ PlAt H' d F D' tl ∧ DpAll K (hid (l :: M) H') xs (dL rs) ∧
        okL F.words F.fields rs ∧ Used F D D' (szL rs) (cpL rs) (rdL rs) ∧ htL rs + lvl ≤ 4)
      ⟨⟨_, rfl⟩, Kept.of (same_new nl _), [], [], D, upd_same, Nat.le_refl _, hP.same (same_new nl _), .nil, trivial, Used.refl F D, by rw [htL]; omega⟩ (fun _ _ _ _ _ => trivial) ?_ ?_⟩
    · rintro i y σ H0 H1 hi ⟨⟨v5, rfl⟩, k1, xs, rs, D1, hl1, hlen, hP1, dxs, okr, us1, hht⟩ ⟨rfl, rfl⟩
      obtain ⟨kvs, wl, rl, fl, ll, e0, hl30, h1, h2, h3, h4, h5⟩ := hP1.ex
      refine ⟨_, rfl, d, _, rfl, dget (i := 5) e0 h1 rfl, _, 0, rfl, rfl, _, rfl, ?_⟩
      refine ite2 (fun e => ?_) (fun _ => ⟨⟨_, rfl⟩, k1, xs, rs, D1, hl1, by omega, hP1, dxs, okr, us1, hht⟩)
      have hr1 : 1 ≤ D1.rows := by have := of_decide_eq_true e; omega
      have hM1 : Lsts (l :: M) H1 := (lstsD h0 k1 hM).cons hl1
      refine ⟨_, rfl, .inl ⟨rfl, _, SqL.of hl1⟩, _, rfl, _, rfl, _, rfl, sc, d, lvl, ns, F, D1, tl, l :: M, rfl, (keepsD h0 k1).1 _ _ hsc, hM1, hP1, hr1, by rw [us1.at_]; exact hat, Nat.le_trans us1.w hw3, hlvl, by omega, fun t r D2 H2 k2 hP2 dr okr2 us2 hh2 => ?_⟩
      have hl2 : H2 l = some (.lst xs) := k2 _ _ hl1 (by simp [ld])
      obtain ⟨s1, s2, s3, s4⟩ := one_row r
      have k3 : Kept [d] H (upd H2 l (.lst (xs ++ [.ref t]))) := fun b o e hb => by
        rw [upd_ne (fun z => by rw [z, nl] at e; cases e)]
        exact k2 b o (k1 b o e hb) hb
      have lxs : xs.length = rs.length := by rw [dA_len dxs, dL_length]
      have hPn : PlAt (upd H2 l (.lst (xs ++ [.ref t]))) d F D2 tl := hP2.updL hl2 (rows_refs dxs)
      refine ⟨l, xs, _, rfl, rfl, hl2, small1000 (by omega), ⟨_, rfl⟩, k3, xs ++ [.ref t], rs ++ [r], D2, upd_same, by rw [List.length_append]; exact Nat.add_le_add hlen (Nat.le_refl 1), hPn, ?_, okL_app okr (by rw [okL, okL]; exact ⟨okr2, trivial⟩), ?_, ?_⟩
      · rw [hid_upd (List.mem_cons_self ..), dL_append, dL, dL]
        exact dA_snoc (dpAll_keeps (keepsDM e0 k2) _ _ dxs) dr
      · rw [szL_app, cpL_app, rdL_app, s1, s2, s3]
        exact us1.trans us2
      · rw [htL_app, s4]
        omega
    · rintro σ H1 ⟨⟨v5, rfl⟩, k1, xs, rs, D1, hl1, hlen, hP1, dxs, okr, us1, hht⟩
      exact ⟨_, rfl, q l xs rs D1 H1 k1 nl hl1 hP1 dxs okr us1 hht⟩
end
end Tw

set_option Elab.async false
set_option maxRecDepth 100000
set_option maxHeartbeats 4000000
/-! F7: the law's program. -/
namespace Tw
open PySem PySem.Spec L2 TL PyProof.Rows
def DictO (kvs : List (Key × V)) (L : List (Option V)) : Prop := ∀ i v, L[i]? = some (some v) → valV kvs (ky i) = some v
theorem DictO.put {kvs : List (Key × V)} {L : List (Option V)} (h : DictO kvs L) {i : Nat} (hi : i < L.length) (h15 : L.length ≤ 15) (v : V) : DictO (putK kvs (ky i) v) (L.set i (some v)) := fun j x e => by
  rw [valV_put]
  have hj : j < L.length := by
    have := (List.getElem?_eq_some_iff.mp e).1
    rw [List.length_set] at this
    exact this
  by_cases ej : j = i
  · subst ej
    rw [if_pos rfl]
    rw [List.getElem?_set_self hi] at e
    exact Option.some.inj e
  · rw [if_neg fun z => ej (ky_inj i (by omega) j (by omega) z)]
    rw [List.getElem?_set_ne (Ne.symm ej)] at e
    exact h j x e
/-- a dict that is being filled -/
structure Bd (H : Hp) (d : Addr) (L : List (Option V)) (n : Nat) : Prop where
  ex : ∃ kvs, H d = some (.dK kvs) ∧ kvs.length ≤ n ∧ DictO kvs L
theorem Bd.put {H : Hp} {d : Addr} {L : List (Option V)} {n : Nat} (h : Bd H d L n) (i : Nat) (v : V) (hi : i < L.length) (h15 : L.length ≤ 15) (hn : n ≤ 900) : ∃ o, DPut H d (.str (keyS i)) v (upd H d o) ∧ Bd (upd H d o) d (L.set i (some v)) (n + 1) := by
  obtain ⟨kvs, h0, h1, h2⟩ := h.ex
  refine ⟨_, DPut.k (k := ky i) h0 (small1000 (by omega)), _, upd_same, ?_, h2.put hi h15 v⟩
  have := length_putK kvs (ky i) v
  omega
theorem Bd.get {H : Hp} {d : Addr} {L : List (Option V)} {n i : Nat} {v : V} (h : Bd H d L n) (e : L[i]? = some (some v)) : DGet H d (.str (keyS i)) (some v) := by
  obtain ⟨kvs, h0, h1, h2⟩ := h.ex
  have q := DGet.k (k := ky i) h0
  rw [h2 i v e] at q
  exact q
theorem Bd.kept {S : List Addr} {H H' : Hp} {d : Addr} {L : List (Option V)} {n : Nat} (h : Bd H d L n) (k : Kept S H H') (hd : d ∉ S) : Bd H' d L n := by
  obtain ⟨kvs, h0, h1, h2⟩ := h.ex
  exact ⟨kvs, k _ _ h0 hd, h1, h2⟩
theorem Bd.same {H H' : Hp} {d : Addr} {L : List (Option V)} {n : Nat} (h : Bd H d L n) (k : Same H H') : Bd H' d L n := h.kept (S := []) (Kept.of k) (by simp)
theorem cut_pre (xs : List V) (k : Nat) : cutV xs none (some (k : Int)) = xs.take k := by
  unfold cutV
  rw [HT.sIx_none, HT.sIx_nat, List.drop_zero, Nat.sub_zero]
  by_cases h : k ≤ xs.length
  · rw [Nat.min_eq_left h]
  · rw [Nat.min_eq_right (by omega), List.take_length, List.take_of_length_le (by omega)]
/-- the plan of a program -/
structure PlnAt (K : PySem.W.Frag) (H : Hp) (d : Addr) (words fs ins outs : List Str) (rs : List Row) : Prop where
  ex : ∃ L n wl fl il ol bl, Bd H d L n ∧ n ≤ 100 ∧ L.length = 15 ∧ L[0]? = some (some (.ref wl)) ∧ L[3]? = some (some (.ref fl)) ∧ L[11]? = some (some (.ref il)) ∧ L[12]? = some (some (.ref ol)) ∧ L[13]? = some (some (.ref bl)) ∧
    H wl = some (.lst (words.map V.str)) ∧ H fl = some (.lst (fs.map V.str)) ∧ H il = some (.lst (ins.map V.str)) ∧ H ol = some (.lst (outs.map V.str)) ∧ Dp K H (.ref bl) (.list (dL rs))
  w5 : words.length = 5
  wn : words.Nodup
def sizesV : List V := [.int 3, .int 2, .int 12, .int 6, .int 4, .int 4, .int 4]
theorem turn_ne {t i j : Nat} (hi : i < 4) (hj : j < 4) (e : (t + i) % 5 = (t + j) % 5) : i = j := by omega
theorem StAt.neL0 {H : Hp} {st a : Addr} {xs : List Str} (h : StAt H st) (e : H a = some (.lst (xs.map V.str))) : a ≠ st := by
  obtain ⟨g, u, v, q⟩ := h
  rintro rfl
  rw [q] at e
  cases xs with
  | nil => cases e
  | cons x xs => cases e
/-- what stands while the plan is made -/
structure Cur (H0 H : Hp) (d st sz : Addr) (L : List (Option V)) (n : Nat) : Prop where
  bd : Bd H d L n
  stt : StAt H st
  g : Same H0 H
  sz : H sz = some (.lst sizesV)
  frd : H0 d = none
  frs : H0 st = none
theorem Cur.draw {H0 H H' : Hp} {d st sz : Addr} {L : List (Option V)} {n : Nat} (c : Cur H0 H d st sz L n) (s : StAt H' st) (k : Kept [st] H H') : Cur H0 H' d st sz L n := by
  obtain ⟨kvs, h0, _⟩ := c.bd.ex
  have ds : d ≠ st := c.stt.neD h0
  have zs : sz ≠ st := by
    obtain ⟨g, u, v, q⟩ := c.stt
    have z := c.sz
    rintro rfl
    rw [q] at z
    cases z
  exact ⟨c.bd.kept k (by simp [ds]), s, fun b o e => k b o (c.g b o e) (fun hm => by rw [List.mem_singleton.mp hm, c.frs] at e; cases e), k _ _ c.sz (by simp [zs]), c.frd, c.frs⟩
theorem Cur.new {H0 H H' : Hp} {d st sz : Addr} {L : List (Option V)} {n : Nat} (c : Cur H0 H d st sz L n) (g : Same H H') : Cur H0 H' d st sz L n :=
  ⟨c.bd.same g, c.stt.same g, c.g.trans g, g _ _ c.sz, c.frd, c.frs⟩
theorem Cur.put {H0 H : Hp} {d st sz : Addr} {L : List (Option V)} {n : Nat} (c : Cur H0 H d st sz L n) (i : Nat) (v : V) (hi : i < L.length) (h15 : L.length ≤ 15) (hn : n ≤ 900) :
    ∃ o, DPut H d (.str (keyS i)) v (upd H d o) ∧ Cur H0 (upd H d o) d st sz (L.set i (some v)) (n + 1) := by
  obtain ⟨o, h1, h2⟩ := c.bd.put i v hi h15 hn
  obtain ⟨kvs, h0, _⟩ := c.bd.ex
  have ds : st ≠ d := Ne.symm (c.stt.neD h0)
  refine ⟨o, h1, h2, c.stt.kept (Kept.upd (S := [d]) (List.mem_singleton.mpr rfl)) (by simp [ds]), same_upd c.g c.frd _, ?_, c.frd, c.frs⟩
  rw [upd_ne fun z => by have := c.sz; rw [z, h0] at this; cases this]
  exact c.sz
theorem Cur.keepS {H0 H H' : Hp} {d st sz a : Addr} {L : List (Option V)} {n : Nat} {xs : List Str} (c : Cur H0 H d st sz L n) (k : Kept [st] H H') (e : H a = some (.lst (xs.map V.str))) : H' a = some (.lst (xs.map V.str)) :=
  k _ _ e (by simp [c.stt.neL0 e])
theorem Cur.keepD {H0 H : Hp} {d st sz a : Addr} {L : List (Option V)} {n : Nat} {xs : List V} {o : HO} (c : Cur H0 H d st sz L n) (e : H a = some (.lst xs)) : upd H d o a = some (.lst xs) := by
  obtain ⟨kvs, h0, _⟩ := c.bd.ex
  rw [upd_ne fun z => by rw [z, h0] at e; cases e]
  exact e
theorem pl_of {H : Hp} {d wl rl fl ll : Addr} {F : Pl} {D : Dn} {tl : List V} {L : List (Option V)} {n : Nat} (h : Bd H d L n) (hn : n ≤ 30) (e : ∃ rest, L = (lit D wl rl fl ll ++ tl).map some ++ rest) (h2 : H wl = some (.lst (F.words.map V.str))) (h3 : H rl = some (.lst (F.readers.map V.str)))
    (h4 : H fl = some (.lst (F.fields.map V.str))) (h5 : H ll = some (.lst (D.live.map V.str))) (ok : PlOk F D) (few : tl.length ≤ 2) : PlAt H d F D tl := by
  obtain ⟨kvs, h0, h1, hd⟩ := h.ex
  obtain ⟨rest, rfl⟩ := e
  refine ⟨⟨kvs, wl, rl, fl, ll, h0, Nat.le_trans h1 hn, fun i v q => hd i v ?_, h2, h3, h4, h5⟩, ok, few⟩
  have hlt : i < (lit D wl rl fl ll ++ tl).length := (List.getElem?_eq_some_iff.mp q).1
  rw [List.getElem?_append_left (by rw [List.length_map]; exact hlt), List.getElem?_map, show (lit D wl rl fl ll ++ tl)[i]? = some v from q] <;> rfl
theorem bd_of {H : Hp} {d wl rl fl ll : Addr} {D : Dn} {tl : List V} {kvs : List (Key × V)} (h0 : H d = some (.dK kvs)) (h1 : kvs.length ≤ 30) (h : DictL kvs (lit D wl rl fl ll ++ tl)) : Bd H d ((lit D wl rl fl ll ++ tl).map some ++ [none, none]) 30 := by
  refine ⟨kvs, h0, h1, fun i v e => h i v ?_⟩
  by_cases hi : i < (lit D wl rl fl ll ++ tl).length
  · rw [List.getElem?_append_left (by rw [List.length_map]; exact hi), List.getElem?_map] at e
    obtain ⟨x, e1, e2⟩ := Option.map_eq_some_iff.mp e
    cases e2
    exact e1
  · rw [List.getElem?_append_right (by rw [List.length_map]; omega)] at e
    generalize i - ((lit D wl rl fl ll ++ tl).map some).length = j at e
    match j, e with
    | 0, e => cases e
    | 1, e => cases e
section
variable {P : Program} {w : World} {K : PySem.W.Frag} {mg : Str → Option Value} {base : Heap}
def sp_law_program (K : PySem.W.Frag) : Sp := fun vs H Q _ => ∃ (sc sz : Addr) (ns : List Int), vs = [.ref sc, .int 0, .ref sz] ∧ SqL K H sc (ns.map V.int) ∧ H sz = some (.lst sizesV) ∧
  ∀ (d : Addr) (words ins fs outs : List Str) (rs : List Row) (H' : Hp), Same H H' → Prg words ins fs outs rs → PlnAt K H' d words fs ins outs rs → H d = none → Q (.ref d) H'
theorem sc_law_program : FnScope ["_law_script", "_law_k", "_law_sizes", "_law_state_here", "_law_plan", "_law_turn", "_law_many"] ["_law_script", "_law_k", "_law_sizes"] (defScope s_law_program) := ⟨rfl, rfl, rfl, by decide +kernel, rfl, by decide +kernel, by decide +kernel⟩
theorem c_law_program (T : Txt w K mg) : Cal P w K mg base "_law_program" 12 ["_law_script", "_law_k", "_law_sizes"] (sp_law_program K) := by
  refine T.d_law_program.cal sc_law_program (fun _ _ _ _ _ _ us hl => match us, hl with | [_, _, _], _ => rfl) (fun vs H Q E h => by obtain ⟨sc, sz, ns, rfl, _⟩ := h; rfl) (fun f cdv A outer s H vs Q E hr h => ?_)
  obtain ⟨sc, sz, ns, rfl, hsc, hsz, q⟩ := h
  have nd := sc_law_program.nd
  have hu := hu_of hr
  have hr1 : Room 1 _ := hr.mono (by decide)
  have hr2 : Room 2 _ := hr.mono (by decide)
  refine ⟨_, pss_cons (ps_set (i := 3) nd rfl (Or.inl rfl) (pe_c (c_law_state T) hr1 (pa_cons (pv 0) (pa_cons (pv 1) pa_nil))))
    (pss_cons (ps_set (i := 4) nd rfl (Or.inr rfl) (pe_disp (pps_cons pe_str (pe_c (c_law_words T) hr2 (pa_cons (pv 3) (pa_cons pe_int pa_nil))) (pps_cons pe_str (pe_c (c_law_words T) hr2 (pa_cons (pv 3) (pa_cons pe_int pa_nil))) (pps_cons pe_str (pe_op op_add (pv 1) pe_int) pps_nil))) rfl rfl (by intro h; cases h) (by decide)))
    (pss_cons (ps_dput hu (pv 4) pe_str (pe_c (c_law_words T) hr2 (pa_cons (pv 3) (pa_cons (pe_op op_add pe_int (pe_c (c_law_draw T) hr1 (pa_cons (pv 3) (pa_cons (pe_ix ix_list (pv 2) pe_int (fun _ _ => rfl)) pa_nil)))) pa_nil))) rfl)
    (pss_cons (ps_dput hu (pv 4) pe_str (pe_slice sl_list (pe_dget hu (pv 4) pe_str (fun _ _ => rfl)) po_none (po_some (pe_op op_add pe_int (pe_c (c_law_draw T) hr1 (pa_cons (pv 3) (pa_cons (pe_ix ix_list (pv 2) pe_int (fun _ _ => rfl)) pa_nil)))))) rfl)
    (pss_cons (ps_dput hu (pv 4) pe_str (pe_callTy call_list_of (by rfl) T.b_list boot_list (pa_cons (pe_dget hu (pv 4) pe_str (fun _ _ => rfl)) pa_nil)) rfl)
    (pss_cons (ps_set (i := 5) nd rfl (Or.inr rfl) (pe_c (c_law_draw T) hr1 (pa_cons (pv 3) (pa_cons pe_int pa_nil))))
    (pss_cons (ps_set (i := 6) nd rfl (Or.inl rfl) (pe_c (c_law_draw T) hr1 (pa_cons (pv 3) (pa_cons pe_int pa_nil))))
    (pss_cons (ps_dput hu (pv 4) pe_str (pe_lc (own := [("_law_k", 1)]) (g := gName 1) (by rfl) nd (pi_range1 (by rfl) T.b_range (pa_cons (pv 6) pa_nil))
          (blkOk_by (own := [("_law_k", 1)]) (N := ["_law_script", "_law_k", "_law_sizes", "_law_state_here", "_law_plan", "_law_turn", "_law_many"]) (sc := defScope s_law_program) (by decide +kernel))
          (fun _ _ _ _ _ => pg_name (i := 1) nd rfl (Or.inl rfl)) (fun _ _ _ _ _ => pts_nil)
          (fun _ _ _ _ _ => pe_ix (r := rIxL K) ix_list (pe_dget hu (pv 4) pe_str (fun _ _ => rfl)) (pe_op op_mod (pe_callTy call_int1 (by rfl) T.b_int boot_int (pa_cons (pe_op op_add (pv 5) (pv 1)) pa_nil)) pe_int) (fun _ _ => rfl))) rfl)
    (pss_cons (ps_dput hu (pv 4) pe_str (pe_callB (call_max2 (by rfl)) (by rfl) T.b_max boot_max (pa_cons (pe_c (c_law_draw T) hr1 (pa_cons (pv 3) (pa_cons (pe_op op_add (pe_ix ix_list (pv 2) pe_int (fun _ _ => rfl)) pe_int) pa_nil))) (pa_cons (pe_c (c_law_draw T) hr1 (pa_cons (pv 3) (pa_cons (pe_op op_add (pe_ix ix_list (pv 2) pe_int (fun _ _ => rfl)) pe_int) pa_nil))) pa_nil))) rfl)
    (pss_cons (ps_dput hu (pv 4) pe_str (pe_ix ix_list (pv 2) pe_int (fun _ _ => rfl)) rfl)
    (pss_cons (ps_dput hu (pv 4) pe_str (pe_ix ix_list (pv 2) pe_int (fun _ _ => rfl)) rfl)
    (pss_cons (ps_dput hu (pv 4) pe_str (pe_op op_add pe_int (pe_callTy call_int1 (by rfl) T.b_int boot_int (pa_cons (pe_cmpR op_gt (pe_ix ix_list (pv 2) pe_int (fun _ _ => rfl)) pe_int (by rfl)) pa_nil))) rfl)
    (pss_cons (ps_dput hu (pv 4) pe_str (pe_ix ix_list (pv 2) pe_int (fun _ _ => rfl)) rfl)
    (pss_cons (ps_dput hu (pv 4) pe_str (pe_ix ix_list (pv 2) pe_int (fun _ _ => rfl)) rfl)
    (pss_cons (ps_dput hu (pv 4) pe_str (pe_c (c_lrows T 4) hr (pa_cons (pv 0) (pa_cons (pv 4) (pa_cons pe_int (pa_cons (pe_ix ix_list (pv 2) pe_int (fun _ _ => rfl)) pa_nil))))) rfl)
    (pss_one (ps_ret (pv 4))))))))))))))))), ?_⟩
  refine ⟨_, rfl, _, rfl, sc, ns, 0, rfl, hsc, Nat.zero_le _, fun st H1 g1 nst hst1 => ?_⟩
  refine fun d ndd => ?_
  have ndd0 : H d = none := g1.free ndd
  have std : d ≠ st := fun z => by rw [← z] at hst1; obtain ⟨g, u, v, q⟩ := hst1; rw [ndd] at q; cases q
  refine ⟨_, rfl, st, 5, rfl, hst1.same (same_new ndd _), by decide, fun wl words H2 lw ndw ww nwl hwl st2 k2 => ⟨_, rfl, st, 3, rfl, st2, by decide, fun rl readers H3 lr ndr rww nrl hrl st3 k3 => ⟨_, rfl, 0, 1, rfl, rfl, k3 _ _ (k2 _ _ upd_same (by simp [std])) (by simp [std]), [(ky 0, .ref wl), (ky 1, .ref rl), (ky 2, .int 1)], rfl, by simp, ?_⟩⟩⟩
  have hd3 : H3 d = some (.dK []) := k3 _ _ (k2 _ _ upd_same (by simp [std])) (by simp [std])
  have szs : sz ≠ st := fun z => by rw [← z, hsz] at nst; cases nst
  have szd : sz ≠ d := fun z => by rw [← z, hsz] at ndd0; cases ndd0
  have gH3 : Same H H3 := fun b o e => by
    have n1 : b ≠ st := fun z => by rw [z, nst] at e; cases e
    have n2 : b ≠ d := fun z => by rw [z, ndd0] at e; cases e
    exact k3 _ _ (k2 _ _ (by rw [upd_ne n2]; exact g1 _ _ e) (by simp [n1])) (by simp [n1])
  have wld : wl ≠ d := fun z => by rw [z, upd_same] at nwl; cases nwl
  have wl3 : H3 wl = some (.lst (words.map V.str)) := k3 _ _ hwl (by simp [st2.neL0 hwl])
  have rld : rl ≠ d := fun z => by rw [z, hd3] at hrl; cases hrl
  have c4 : Cur H (upd H3 d (.dK (mergeK [] [(ky 0, .ref wl), (ky 1, .ref rl), (ky 2, .int 1)]))) d st sz [some (.ref wl), some (.ref rl), some (.int 1), none, none, none, none, none, none, none, none, none, none, none, none] 3 := by
    refine ⟨⟨_, upd_same, length_mergeK [(ky 0, .ref wl), (ky 1, .ref rl), (ky 2, .int 1)] [], ?_⟩, st3.kept (Kept.upd (S := [d]) (List.mem_singleton.mpr rfl)) (by simp [Ne.symm std]), same_upd gH3 ndd0 _, by rw [upd_ne szd]; exact gH3 _ _ hsz, ndd0, nst⟩
    have e0 : DictO [] (List.replicate 15 (none : Option V)) := fun i v e => by
      rw [List.getElem?_replicate] at e
      split at e <;> cases e
    exact ((e0.put (i := 0) (by simp) (by simp) (.ref wl)).put (i := 1) (by simp) (by simp) (.ref rl)).put (i := 2) (by simp) (by simp) (.int 1)
  have wl4 : (upd H3 d (.dK (mergeK [] [(ky 0, .ref wl), (ky 1, .ref rl), (ky 2, .int 1)]))) wl = some (.lst (words.map V.str)) := by rw [upd_ne wld]; exact wl3
  have rl4 : (upd H3 d (.dK (mergeK [] [(ky 0, .ref wl), (ky 1, .ref rl), (ky 2, .int 1)]))) rl = some (.lst (readers.map V.str)) := by rw [upd_ne rld]; exact hrl
  revert c4 wl4 rl4
  generalize (upd H3 d (.dK (mergeK [] [(ky 0, .ref wl), (ky 1, .ref rl), (ky 2, .int 1)]))) = H4
  intro c4 wl4 rl4
  clear hwl hrl wl3 hd3 gH3 k2 k3 st2 st3 wld rld nwl nrl
  -- fields
  refine ⟨_, rfl, _, rfl, _, rfl, sz, _, 1, _, rfl, rfl, SqL.of c4.sz, rfl, st, 2, rfl, c4.stt, by decide, by decide, fun v1 Ha hv1 sta ka => ⟨1, _, rfl, rfl, st, 1 + v1, by simp, sta, by omega, fun fl fs Hb lfs ndf fw nfl hfl stb kb => ?_⟩⟩
  have cb := (c4.draw sta ka).draw stb kb
  have wlb := (c4.draw sta ka).keepS kb (c4.keepS ka wl4)
  have rlb := (c4.draw sta ka).keepS kb (c4.keepS ka rl4)
  obtain ⟨o1, p1, c5⟩ := cb.put 3 (.ref fl) (by simp) (by simp) (by decide)
  refine ⟨_, rfl, d, _, rfl, p1, ?_⟩
  have wl5 := cb.keepD (o := o1) wlb
  have rl5 := cb.keepD (o := o1) rlb
  have fl5 := cb.keepD (o := o1) hfl
  revert c5 wl5 rl5 fl5
  generalize upd Hb d o1 = H5
  intro c5 wl5 rl5 fl5
  clear p1 hfl cb wlb rlb kb stb ka sta c4 wl4 rl4 nfl
  -- inputs
  refine ⟨_, rfl, d, _, rfl, c5.bd.get (i := 0) rfl, _, rfl, _, rfl, sz, _, 0, _, rfl, rfl, SqL.of c5.sz, rfl, st, 3, rfl, c5.stt, by decide, by decide, fun v2 Ha hv2 sta ka => ⟨1, _, rfl, rfl, _, rfl, wl, _, rfl, SqL.of (c5.keepS ka wl5), fun il nil_ => ?_⟩⟩
  have ecut : cutV (words.map V.str) none (some (1 + (v2 : Int))) = (words.take (1 + v2)).map V.str := by rw [show (1 : Int) + (v2 : Int) = ((1 + v2 : Nat) : Int) by omega, cut_pre, List.map_take]
  rw [ecut]
  have gi := same_new nil_ (.lst ((words.take (1 + v2)).map V.str))
  have ca := (c5.draw sta ka).new gi
  have wla := gi _ _ (c5.keepS ka wl5)
  have rla := gi _ _ (c5.keepS ka rl5)
  have fla := gi _ _ (c5.keepS ka fl5)
  have ila : (upd Ha il (.lst ((words.take (1 + v2)).map V.str))) il = some (.lst ((words.take (1 + v2)).map V.str)) := upd_same
  obtain ⟨o2, p2, c6⟩ := ca.put 11 (.ref il) (by simp) (by simp) (by decide)
  refine ⟨_, rfl, d, _, rfl, p2, ?_⟩
  have wl6 := ca.keepD (o := o2) wla
  have rl6 := ca.keepD (o := o2) rla
  have fl6 := ca.keepD (o := o2) fla
  have il6 := ca.keepD (o := o2) ila
  revert c6 wl6 rl6 fl6 il6
  generalize upd (upd Ha il (.lst ((words.take (1 + v2)).map V.str))) d o2 = H6
  intro c6 wl6 rl6 fl6 il6
  clear p2 ca wla rla fla ila ka sta c5 wl5 rl5 fl5 gi ecut nil_
  -- live
  refine ⟨_, rfl, d, _, rfl, c6.bd.get (i := 11) rfl, il, _, rfl, .inl (SqL.of il6), fun ll nll => ?_⟩
  have gi := same_new nll (.lst ((words.take (1 + v2)).map V.str))
  have ca := c6.new gi
  obtain ⟨o3, p3, c7⟩ := ca.put 4 (.ref ll) (by simp) (by simp) (by decide)
  refine ⟨_, rfl, d, _, rfl, p3, ?_⟩
  have wl7 := ca.keepD (o := o3) (gi _ _ wl6)
  have rl7 := ca.keepD (o := o3) (gi _ _ rl6)
  have fl7 := ca.keepD (o := o3) (gi _ _ fl6)
  have il7 := ca.keepD (o := o3) (gi _ _ il6)
  have ll7 := ca.keepD (a := ll) (xs := (words.take (1 + v2)).map V.str) (o := o3) upd_same
  revert c7 wl7 rl7 fl7 il7 ll7
  generalize upd (upd H6 ll (.lst ((words.take (1 + v2)).map V.str))) d o3 = H7
  intro c7 wl7 rl7 fl7 il7 ll7
  clear p3 ca c6 wl6 rl6 fl6 il6 gi nll
  -- turn, many
  refine ⟨_, rfl, st, 5, rfl, c7.stt, by decide, by decide, fun v3 Ha hv3 sta ka => ⟨_, rfl, st, 4, rfl, sta, by decide, by decide, fun v4 Hb hv4 stb kb => ?_⟩⟩
  have kk := ka.trans kb
  have c8 := c7.draw stb kk
  have wl8 := c7.keepS kk wl7
  have rl8 := c7.keepS kk rl7
  have fl8 := c7.keepS kk fl7
  have il8 := c7.keepS kk il7
  have ll8 := c7.keepS kk ll7
  clear kk ka kb sta stb c7 wl7 rl7 fl7 il7 ll7
  -- outputs
  refine ⟨_, rfl, v4, rfl, by omega, by omega, fun ol nol => ?_⟩
  refine lc_it walk_range (fun i H' => Kept [ol] Hb H' ∧ ∃ outs : List Str, outs.length = i ∧ (∀ (j : Nat) (x : Str), outs[j]? = some x → words[(v3 + j) % 5]? = some x) ∧ H' ol = some (.lst (outs.map V.str))) ⟨Kept.of (same_new nol _), [], rfl, fun j x e => by simp at e, upd_same⟩ (fun _ _ _ _ => trivial) ?_ ?_
  · rintro i y J0 J1 hi ⟨kJ, outs, lo, ho, hol⟩ ⟨rfl, rfl⟩
    obtain ⟨kvs8, hd8, _⟩ := c8.bd.ex
    have dol : d ≠ ol := fun z => by rw [z, nol] at hd8; cases hd8
    have wol : wl ≠ ol := fun z => by rw [z, nol] at wl8; cases wl8
    have hx : (v3 + i) % 5 < words.length := by rw [lw]; exact Nat.mod_lt _ (by decide)
    have em : ((v3 : Int) + (0 + (i : Int))) % 5 = (((v3 + i) % 5 : Nat) : Int) := by omega
    refine ⟨rfl, _, rfl, d, _, rfl, (c8.bd.kept kJ (by simp [dol])).get (i := 0) rfl, _, rfl, _, rfl, _, _, rfl, rfl, .inl ⟨_, rfl, _, 5, rfl, rfl, (by show (0 : Int) < 5; decide), wl, _, _, _, rfl, rfl, SqL.of (kJ _ _ wl8 (by simp [wol])), (by rw [em]; exact atI_nat (j := (v3 + i) % 5) (by rw [List.getElem?_map, List.getElem?_eq_getElem hx] <;> rfl)), _, hol, by rw [List.length_map]; exact small1000 (by omega), ?_, outs ++ [words[(v3 + i) % 5]], by rw [List.length_append, lo] <;> rfl, fun j x e => ?_, by rw [upd_same, List.map_append] <;> rfl⟩⟩
    · exact kJ.trans (Kept.upd (List.mem_singleton.mpr rfl))
    · by_cases hj : j < outs.length
      · rw [List.getElem?_append_left hj] at e
        exact ho j x e
      · have hj' : j = i := by
          have := (List.getElem?_eq_some_iff.mp e).1
          rw [List.length_append, List.length_singleton] at this
          omega
        subst hj'
        rw [List.getElem?_append_right (by omega), show j - outs.length = 0 by omega] at e
        rw [List.getElem?_eq_getElem hx]
        exact e
  · rintro J1 ⟨kJ, outs, lo, ho, hol⟩
    have gJ : Same Hb J1 := kJ.fresh fun b hb => by rw [List.mem_singleton.mp hb]; exact nol
    have ca := c8.new gJ
    obtain ⟨o4, p4, c9⟩ := ca.put 12 (.ref ol) (by simp) (by simp) (by decide)
    refine ⟨_, rfl, d, _, rfl, p4, ?_⟩
    have wl9 := ca.keepD (o := o4) (gJ _ _ wl8)
    have rl9 := ca.keepD (o := o4) (gJ _ _ rl8)
    have fl9 := ca.keepD (o := o4) (gJ _ _ fl8)
    have il9 := ca.keepD (o := o4) (gJ _ _ il8)
    have ll9 := ca.keepD (o := o4) (gJ _ _ ll8)
    have ol9 := ca.keepD (o := o4) hol
    revert c9 wl9 rl9 fl9 il9 ll9 ol9
    generalize upd J1 d o4 = H9
    intro c9 wl9 rl9 fl9 il9 ll9 ol9
    clear p4 ca hol gJ kJ c8 wl8 rl8 fl8 il8 ll8 nol
    have onin : ∀ x ∈ outs, x ∈ words := fun x hx => by
      obtain ⟨j, hj⟩ := List.getElem?_of_mem hx
      exact List.mem_of_getElem? (ho j x hj)
    have ond : outs.Nodup := by
      rw [List.nodup_iff_pairwise_ne, List.pairwise_iff_getElem]
      intro i j hi hj hij e
      have e1 := ho i _ (List.getElem?_eq_getElem hi)
      have e2 := ho j _ (List.getElem?_eq_getElem hj)
      rw [← e] at e2
      have := nd_ix ndw e1 e2
      have := turn_ne (t := v3) (by omega) (by omega) this
      omega
    -- rows
    refine ⟨_, rfl, _, rfl, sz, _, 2, _, rfl, rfl, SqL.of c9.sz, rfl, 12, 1, rfl, rfl, st, 13, rfl, c9.stt, by decide, by decide, fun v5 Ha hv5 sta ka => ?_⟩
    have ca := c9.draw sta ka
    refine ⟨_, rfl, _, rfl, sz, _, 2, _, rfl, rfl, SqL.of ca.sz, rfl, 12, 1, rfl, rfl, st, 13, rfl, sta, by decide, by decide, fun v6 Hb hv6 stb kb => ?_⟩
    obtain ⟨rw', er, hr12⟩ : ∃ r : Nat, (if (v6 : Int) > (v5 : Int) then (v6 : Int) else (v5 : Int)) = (r : Int) ∧ r ≤ 12 := by
      by_cases h : (v6 : Int) > (v5 : Int)
      · exact ⟨v6, if_pos h, by omega⟩
      · exact ⟨v5, if_neg h, by omega⟩
    have kk := ka.trans kb
    have cb := c9.draw stb kk
    have wlb := c9.keepS kk wl9
    have rlb := c9.keepS kk rl9
    have flb := c9.keepS kk fl9
    have ilb := c9.keepS kk il9
    have llb := c9.keepS kk ll9
    have olb := c9.keepS kk ol9
    refine ⟨_, _, rfl, ?_⟩
    simp only [er]
    obtain ⟨o5, p5, c10⟩ := cb.put 5 (.int (rw' : Nat)) (by simp) (by simp) (by decide)
    refine ⟨_, rfl, d, _, rfl, p5, ?_⟩
    obtain ⟨o6, p6, c11⟩ := c10.put 6 (.int 6) (by simp) (by simp) (by decide)
    refine ⟨_, rfl, sz, _, 3, _, rfl, rfl, SqL.of c10.sz, rfl, _, rfl, d, _, rfl, p6, ?_⟩
    obtain ⟨o7, p7, c12⟩ := c11.put 7 (.int 4) (by simp) (by simp) (by decide)
    refine ⟨_, rfl, sz, _, 4, _, rfl, rfl, SqL.of c11.sz, rfl, _, rfl, d, _, rfl, p7, ?_⟩
    obtain ⟨o8, p8, c13⟩ := c12.put 8 (.int (2 + (if (decide ((8 : Int) < 12)) = true then 1 else 0))) (by simp) (by simp) (by decide)
    refine ⟨_, rfl, sz, _, 2, _, rfl, rfl, SqL.of c12.sz, rfl, 12, 8, rfl, rfl, .inr ⟨_, rfl, 2, _, rfl, rfl, _, rfl, d, _, rfl, p8, ?_⟩⟩
    have e3 : V.int (2 + (if (decide ((8 : Int) < 12)) = true then 1 else 0)) = .int 3 := by rw [if_pos (by decide)] <;> rfl
    rw [e3] at c13
    obtain ⟨o9, p9, c14⟩ := c13.put 9 (.int 4) (by simp) (by simp) (by decide)
    refine ⟨_, rfl, sz, _, 5, _, rfl, rfl, SqL.of c13.sz, rfl, _, rfl, d, _, rfl, p9, ?_⟩
    obtain ⟨o10, p10, c15⟩ := c14.put 10 (.int 4) (by simp) (by simp) (by decide)
    refine ⟨_, rfl, sz, _, 6, _, rfl, rfl, SqL.of c14.sz, rfl, _, rfl, d, _, rfl, p10, ?_⟩
    have all6 : ∀ {a : Addr} {xs : List V}, Hb a = some (.lst xs) → (upd (upd (upd (upd (upd (upd Hb d o5) d o6) d o7) d o8) d o9) d o10) a = some (.lst xs) := fun e =>
      c14.keepD (c13.keepD (c12.keepD (c11.keepD (c10.keepD (cb.keepD e)))))
    have wl15 := all6 wlb
    have rl15 := all6 rlb
    have fl15 := all6 flb
    have il15 := all6 ilb
    have ll15 := all6 llb
    have ol15 := all6 olb
    revert c15 wl15 rl15 fl15 il15 ll15 ol15
    generalize (upd (upd (upd (upd (upd (upd Hb d o5) d o6) d o7) d o8) d o9) d o10) = HF
    intro c15 wl15 rl15 fl15 il15 ll15 ol15
    clear all6 p5 p6 p7 p8 p9 p10 c10 c11 c12 c13 c14 cb ca c9 wlb rlb flb ilb llb olb wl9 rl9 fl9 il9 ll9 ol9 e3
    have lt3 : 1 + v2 ≤ 3 := by omega
    have tnd : (words.take (1 + v2)).Nodup := List.Sublist.nodup (List.take_sublist _ _) ndw
    have tin : ∀ x ∈ words.take (1 + v2), x ∈ words := fun x hx => List.mem_of_mem_take hx
    have tlen : (words.take (1 + v2)).length = 1 + v2 := by rw [List.length_take]; omega
    have ok : PlOk ⟨words, readers, fs⟩ ⟨1, rw', 6, 4, 3, words.take (1 + v2)⟩ := ⟨lw, ndw, ww, lr, ndr, rww, by show 1 ≤ fs.length; omega, by show fs.length ≤ 2; omega, fw, by show 1 ≤ (words.take (1 + v2)).length; omega, tnd, tin⟩
    have hP : PlAt HF d ⟨words, readers, fs⟩ ⟨1, rw', 6, 4, 3, words.take (1 + v2)⟩ [.ref il, .ref ol] := pl_of (wl := wl) (rl := rl) (fl := fl) (ll := ll) c15.bd (by decide) ⟨[none, none], rfl⟩ wl15 rl15 fl15 ll15 ok (Nat.le_refl 2)
    refine ⟨_, rfl, _, rfl, _, rfl, sz, _, 2, _, rfl, rfl, SqL.of c15.sz, rfl, sc, d, 0, 12, ns, ⟨words, readers, fs⟩, ⟨1, rw', 6, 4, 3, words.take (1 + v2)⟩, [.ref il, .ref ol], [], rfl, sqL_same c15.g hsc, (fun b hb => by cases hb), hP, by decide, (by show 1 + rw' ≤ 100; omega), Nat.le_refl 3, by decide, by decide, fun bl xs rs D' HG kG nbl hbl hPG dxs okr us hht => ?_⟩
    obtain ⟨kvs0, hd0⟩ := hP.isD
    have ild : il ≠ d := fun z => by rw [z, hd0] at il15; cases il15
    have old : ol ≠ d := fun z => by rw [z, hd0] at ol15; cases ol15
    have ilG := kG _ _ il15 (by simp [ild])
    have olG := kG _ _ ol15 (by simp [old])
    have gG : Same H HG := fun b o e => kG b o (c15.g b o e) (fun hm => by rw [List.mem_singleton.mp hm, ndd0] at e; cases e)
    obtain ⟨kvs, wl', rl', fl', ll', hdG, hl30, hL, wlG, rlG, flG, llG⟩ := hPG.ex
    have bdG := bd_of hdG hl30 hL
    obtain ⟨o11, p11, b11⟩ := bdG.put 13 (.ref bl) (by simp [lit]) (by simp [lit]) (by decide)
    refine ⟨_, rfl, d, _, rfl, p11, ?_⟩
    have keep : ∀ {a : Addr} {ys : List V}, HG a = some (.lst ys) → upd HG d o11 a = some (.lst ys) := fun e => by
      rw [upd_ne fun z => by rw [z, hdG] at e; cases e]
      exact e
    have dd : Dp K (upd HG d o11) (.ref bl) (.list (dL rs)) := dp_keeps (keepsD hdG (Kept.upd (List.mem_singleton.mpr rfl))) _ _ (.lst (SqL.of hbl) (dpAll_same (hid_le _ _) dxs))
    have usz := us.sz
    have ucp := us.cp
    have urd := us.rd
    have urd2 : rdL rs ++ (readers.take D'.watch).reverse = readers.reverse := by
      rw [urd]
      show (readers.take 3).reverse = _
      rw [← lr, List.take_length]
    have G : Prg words (words.take (1 + v2)) fs outs rs := by
      refine ⟨okr, by omega, ?_, ?_, ?_, ?_, ww, by omega, tin, by omega, by omega, tnd, fw, by omega, by omega, ndf, onin, by omega, ond⟩
      · have : szL rs + D'.rows = rw' := usz
        omega
      · have : cpL rs + D'.copy = 4 := ucp
        omega
      · have := congrArg List.length urd2
        rw [List.length_append, List.length_reverse, List.length_reverse, lr] at this
        omega
      · have h : (rdL rs ++ (readers.take D'.watch).reverse).Nodup := by
          rw [urd2]
          exact List.pairwise_reverse.mpr (List.Pairwise.imp (fun h => Ne.symm h) ndr)
        exact (List.nodup_append.mp h).1
    refine ⟨_, rfl, q d words (words.take (1 + v2)) fs outs rs _ (same_upd gG ndd0 _) G ⟨⟨_, 31, wl', fl', il, ol, bl, b11, by decide, rfl, rfl, rfl, rfl, rfl, rfl, keep wlG, keep flG, keep ilG, keep olG, dd⟩, lw, ndw⟩ ndd0⟩
end
end Tw

set_option Elab.async false
set_option maxRecDepth 100000
set_option maxHeartbeats 4000000
/-! F8: the law's table of names. -/
namespace Tw
open PySem PySem.Spec L2 TL PyProof.Rows
def menu2 : List Str := ["move", "none", "new", "look", "put", "copy", "watch", "same", "empty", "else", "inputs", "fields", "outputs", "freeze", "thaw", "name", "object"]
theorem menu2_W : ∀ x ∈ menu2, isW x := fun x hx => isW_of ((by decide +kernel : ∀ x ∈ menu2, (decide (1 ≤ x.length) && decide (x.length ≤ 8) && x.cps.toList.all fun c => decide (97 ≤ c ∧ c ≤ 122)) = true) x hx)
theorem menu2_nd : menu2.Nodup := by decide +kernel
/-- a table: what it makes of a word -/
structure TabAt (H : Hp) (tb : Addr) (τ : Str → Str) : Prop where
  ex : ∃ kvs, H tb = some (.dK kvs) ∧ ∀ x : Str, (valV kvs (.inr x)).getD (.str x) = .str (τ x)
theorem TabAt.same {H H' : Hp} {tb : Addr} {τ : Str → Str} (h : TabAt H tb τ) (g : Same H H') : TabAt H' tb τ := by
  obtain ⟨kvs, h0, h1⟩ := h.ex
  exact ⟨kvs, g _ _ h0, h1⟩
/-- what is asked of it -/
structure Tau (words : List Str) (τ : Str → Str) : Prop where
  w : ∀ x ∈ words, isW (τ x)
  inj : ∀ x ∈ words, ∀ y ∈ words, τ x = τ y → x = y
theorem putK_new {kvs : List (Key × V)} {k : Key} {v : V} (h : valV kvs k = none) : (putK kvs k v).length = kvs.length + 1 := by
  unfold putK
  rw [valV_any, h, if_neg (by decide), List.length_append] <;> rfl
section
variable {P : Program} {w : World} {K : PySem.W.Frag} {mg : Str → Option Value} {base : Heap}
def sp_law_special (K : PySem.W.Frag) : Sp := fun vs H Q _ => ∃ (st d : Addr) (words fs ins outs : List Str) (rs : List Row), vs = [.ref st, .ref d] ∧ StAt H st ∧ PlnAt K H d words fs ins outs rs ∧ (∀ x ∈ words, isW x) ∧
  ∀ (tb : Addr) (τ : Str → Str) (H' : Hp), Kept [st] H H' → H tb = none → TabAt H' tb τ → Tau words τ → Q (.ref tb) H'
theorem sc_law_special : FnScope ["_law_state_here", "_law_plan", "_law_menu", "_law_start", "_law_table", "_law_word", "_law_at"] ["_law_state_here", "_law_plan"] (defScope s_law_special) := ⟨rfl, rfl, rfl, by decide +kernel, rfl, by decide +kernel, by decide +kernel⟩
theorem c_law_special (T : Txt w K mg) : Cal P w K mg base "_law_special" 2 ["_law_state_here", "_law_plan"] (sp_law_special K) := by
  refine T.d_law_special.cal sc_law_special (fun _ _ _ _ _ _ us hl => match us, hl with | [_, _], _ => rfl) (fun vs H Q E h => by obtain ⟨st, d, words, fs, ins, outs, rs, rfl, _⟩ := h; rfl) (fun f cdv A outer s H vs Q E hr h => ?_)
  obtain ⟨st, d, words, fs, ins, outs, rs, rfl, hst, hP, hW, q⟩ := h
  have nd := sc_law_special.nd
  have hu := hu_of hr
  refine ⟨_, pss_cons (ps_set (i := 2) nd rfl (Or.inl rfl) (pe_lst (pa_cons pe_str (pa_cons pe_str (pa_cons pe_str (pa_cons pe_str (pa_cons pe_str (pa_cons pe_str (pa_cons pe_str (pa_cons pe_str (pa_cons pe_str (pa_cons pe_str (pa_cons pe_str (pa_cons pe_str pa_nil))))))))))))))
    (pss_cons (ps_set (i := 2) nd rfl (Or.inl rfl) (pe_op op_cat (pv 2) (pe_lst (pa_cons pe_str (pa_cons pe_str (pa_cons pe_str (pa_cons pe_str (pa_cons pe_str pa_nil))))))))
    (pss_cons (ps_set (i := 3) nd rfl (Or.inl rfl) (pe_c (c_law_draw T) hr (pa_cons (pv 0) (pa_cons (pe_callB call_len_seq (by rfl) T.b_len PySem.boot_len (pa_cons (pv 2) pa_nil)) pa_nil))))
    (pss_cons (ps_set (i := 4) nd rfl (Or.inl rfl) pe_dnewK)
    (pss_cons (ps_if (pt_cmpR op_gt (pe_c (c_law_draw T) hr (pa_cons (pv 0) (pa_cons pe_int pa_nil))) pe_int (nomark _)) (pss_one (ps_ret (pv 4))) pss_nil)
    (pss_cons (ps_for PassesOwn.never rfl (pi_list (pe_dget hu (pv 1) pe_str (fun _ _ => rfl))) (pg_name (i := 5) nd rfl (Or.inl rfl))
      (pss_cons (ps_set (i := 6) nd rfl (Or.inl rfl) (pe_op op_mod (pe_callTy call_int1 (by rfl) T.b_int boot_int (pa_cons (pe_op op_add (pv 3) (pe_op op_mul pe_int (pe_callB call_lenD (by rfl) T.b_len PySem.boot_len (pa_cons (pv 4) pa_nil)))) pa_nil)) (pe_callB call_len_seq (by rfl) T.b_len PySem.boot_len (pa_cons (pv 2) pa_nil))))
      (pss_one (ps_dput hu (pv 4) (pv 5) (pe_ix ix_list (pv 2) (pv 6) (fun _ _ => rfl)) rfl))))
    (pss_one (ps_ret (pv 4)))))))), ?_⟩
  obtain ⟨L, n, wl, fl, il, ol, bl, bd, hn, hL, l0, l3, l11, l12, l13, hwl, hfl, hil, hol, hbl⟩ := hP.ex
  refine ⟨(by show 12 ≤ sizeLine; decide), fun l1 n1 => ⟨_, rfl, (by show 5 ≤ sizeLine; decide), fun l2 n2 => ⟨l1, l2, _, _, rfl, rfl, same_new n2 _ _ _ upd_same, upd_same, (by show 17 ≤ sizeLine; decide), fun lm nm => ?_⟩⟩⟩
  have g4 := ((same_new n1 (.lst (menu2.take 12 |>.map V.str))).trans (same_new n2 (.lst (menu2.drop 12 |>.map V.str)))).trans (same_new nm (.lst (menu2.map V.str)))
  have hm3 : (upd (upd (upd H l1 (.lst (menu2.take 12 |>.map V.str))) l2 (.lst (menu2.drop 12 |>.map V.str))) lm (.lst (menu2.map V.str))) lm = some (.lst (menu2.map V.str)) := upd_same
  refine ⟨_, rfl, _, rfl, lm, _, rfl, .inl (SqL.of hm3), st, 17, rfl, hst.same g4, by decide, by decide, fun sv H5 hsv st5 k5 => ?_⟩
  have hm5 : H5 lm = some (.lst (menu2.map V.str)) := k5 _ _ hm3 (by simp [(hst.same g4).neL0 hm3])
  have k05 : Kept [st] H H5 := (Kept.of g4).trans k5
  refine fun tb ntb => ?_
  have tbs : tb ≠ st := fun z => by rw [z] at ntb; obtain ⟨g, u, v, q⟩ := st5; rw [ntb] at q; cases q
  have g6 := same_new ntb (.dK [])
  have ntb0 : H tb = none := k05.free ntb (by simp [tbs])
  refine ⟨_, rfl, st, 3, rfl, st5.same g6, by decide, by decide, fun v2 H7 hv2 st7 k7 => ?_⟩
  have k07 : Kept [st] H H7 := (k05.trans (Kept.of g6)).trans k7
  have htb7 : H7 tb = some (.dK []) := k7 _ _ upd_same (by simp [tbs])
  have hm7 : H7 lm = some (.lst (menu2.map V.str)) := k7 _ _ (g6 _ _ hm5) (by simp [(st5.same g6).neL0 (g6 _ _ hm5)])
  have hwl7 : H7 wl = some (.lst (words.map V.str)) := k07 _ _ hwl (by simp [hst.neL0 hwl])
  have sd : d ≠ st := by
    obtain ⟨kvs, h0, _⟩ := bd.ex
    exact hst.neD h0
  have bd7 := bd.kept k07 (by simp [sd])
  refine ⟨_, 0, rfl, rfl, _, rfl, ite2 (fun _ => ?_) (fun _ => ?_)⟩
  · exact ⟨_, rfl, q tb (fun x => x) H7 k07 ntb0 ⟨[], htb7, fun x => rfl⟩ ⟨hW, fun x _ y _ e => e⟩⟩
  · refine ⟨_, rfl, d, _, rfl, bd7.get (i := 0) l0, wl, rfl, ⟨_, SqL.of hwl7⟩, for_list (K := K) (a := wl) (xs := words.map V.str) (fun i σ H' => (∃ v5 v6, σ = [some (.ref st), some (.ref d), some (.ref lm), some (.int (sv : Nat)), some (.ref tb), v5, v6]) ∧ Kept [tb] H7 H' ∧
        ∃ kvs τ, H' tb = some (.dK kvs) ∧ kvs.length = i ∧ (∀ x : Str, (valV kvs (.inr x)).getD (.str x) = .str (τ x)) ∧ (∀ x : Str, (∀ j, j < i → words[j]? ≠ some x) → valV kvs (.inr x) = none) ∧ (∀ (j : Nat) (x : Str), j < i → words[j]? = some x → menu2[(sv + 5 * j) % 17]? = some (τ x)))
      ⟨⟨_, _, rfl⟩, Kept.refl _ _, [], fun x => x, htb7, rfl, fun x => rfl, fun x _ => rfl, fun j x h => absurd h (Nat.not_lt_zero j)⟩ (fun i σ H' _ z => SqL.of (z.2.1 _ _ hwl7 (by simp; rintro rfl; rw [htb7] at hwl7; cases hwl7))) ?_ ?_⟩
    · rintro i y σ H8 hx ⟨⟨v5, v6, rfl⟩, k8, kvs, τ, htb8, lk, hτ, hno, hmap⟩
      obtain ⟨x, hx0, rfl⟩ := map_get hx
      have hi5 : i < 5 := by
        have := (List.getElem?_eq_some_iff.mp hx0).1
        rw [hP.w5] at this
        exact this
      have lmtb : lm ≠ tb := fun z => by rw [z, htb7] at hm7; cases hm7
      have hm8 := k8 _ _ hm7 (by simp [lmtb])
      have hidx : (sv + 5 * i) % 17 < menu2.length := Nat.mod_lt _ (by decide)
      have em : ((sv : Int) + 5 * (i : Int)) % 17 = (((sv + 5 * i) % 17 : Nat) : Int) := by omega
      refine ⟨_, rfl, _, rfl, tb, kvs, rfl, htb8, 5, _, rfl, rfl, .inl ⟨by decide, by decide⟩, _, _, rfl, rfl, .inl ⟨_, rfl, _, rfl, lm, _, rfl, .inl (SqL.of hm8), _, 17, rfl, rfl, (by show (0 : Int) < 17; decide), ?_⟩⟩
      rw [lk]
      simp only [em]
      have hfew : kvs.length < sizeLine := by rw [lk]; exact small1000 (by omega)
      refine ⟨_, rfl, _, rfl, lm, _, _, _, rfl, rfl, SqL.of hm8, atI_nat (j := (sv + 5 * i) % 17) (by rw [List.getElem?_map, List.getElem?_eq_getElem hidx] <;> rfl), _, rfl, _, rfl, tb, _, rfl, DPut.k (k := .inr x) htb8 hfew, ⟨_, _, rfl⟩, k8.trans (Kept.upd (List.mem_singleton.mpr rfl)), putK kvs (.inr x) (.str menu2[(sv + 5 * i) % 17]), (fun z => if z = x then menu2[(sv + 5 * i) % 17] else τ z), upd_same, ?_, fun z => ?_, fun z hz => ?_, fun j z hj hz => ?_⟩
      · rw [putK_new (hno x fun j hj e => by have := nd_ix hP.wn e hx0; omega), lk]
      · show (valV (putK kvs (.inr x) (.str menu2[(sv + 5 * i) % 17])) (.inr z)).getD (.str z) = V.str (if z = x then menu2[(sv + 5 * i) % 17] else τ z)
        rw [valV_put]
        by_cases e : z = x
        · subst e
          rw [if_pos rfl, if_pos rfl] <;> rfl
        · rw [if_neg (fun q => e (by injection q)), if_neg e]
          exact hτ z
      · rw [valV_put, if_neg (fun q => hz i (Nat.lt_succ_self i) (by rw [hx0]; injection q with q; rw [q]))]
        exact hno z fun j hj => hz j (Nat.lt_succ_of_lt hj)
      · show menu2[(sv + 5 * j) % 17]? = some (if z = x then menu2[(sv + 5 * i) % 17] else τ z)
        by_cases e : j = i
        · subst e
          rw [hx0] at hz
          cases hz
          rw [if_pos rfl, List.getElem?_eq_getElem hidx]
        · rw [if_neg (fun q : z = x => e (nd_ix hP.wn (by rw [q] at hz; exact hz) hx0))]
          exact hmap j z (by omega) hz
    · rintro σ H8 ⟨⟨v5, v6, rfl⟩, k8, kvs, τ, htb8, lk, hτ, hno, hmap⟩
      rw [List.length_map] at hmap
      refine ⟨_, rfl, q tb τ H8 (fun b o e hb => k8 _ _ (k07 _ _ e hb) (fun hm => by rw [List.mem_singleton.mp hm, ntb0] at e; cases e)) ntb0 ⟨kvs, htb8, hτ⟩ ⟨fun x hx => ?_, fun x hx y hy e => ?_⟩⟩
      · obtain ⟨j, hj⟩ := List.getElem?_of_mem hx
        exact menu2_W _ (List.mem_of_getElem? (hmap j x (List.getElem?_eq_some_iff.mp hj).1 hj))
      · obtain ⟨j, hj⟩ := List.getElem?_of_mem hx
        obtain ⟨k, hk⟩ := List.getElem?_of_mem hy
        have hj5 := (List.getElem?_eq_some_iff.mp hj).1
        have hk5 := (List.getElem?_eq_some_iff.mp hk).1
        have e1 := hmap j x hj5 hj
        have e2 := hmap k y hk5 hk
        rw [e] at e1
        have := nd_ix menu2_nd e1 e2
        rw [hP.w5] at hj5 hk5
        have jk : j = k := by omega
        subst jk
        rw [hj] at hk
        exact Option.some.inj hk
end
end Tw

set_option Elab.async false
set_option maxRecDepth 100000
set_option maxHeartbeats 4000000
/-! F9: renamed rows: the model. -/
namespace Tw
open PySem PySem.Spec L2 TL PyProof.Rows
def shOf (w : Str) : List Nat := ((leafL.lookup w).map fun s => s.cps.toList).getD []
theorem shOf_eq {w sh : Str} (h : (w, sh) ∈ leafL) : shOf w = sh.cps.toList := by
  have : ∀ q ∈ leafL, shOf q.1 = q.2.cps.toList := by decide +kernel
  exact this _ h
def nmA (τ : Str → Str) : Atom → Atom
  | .s x => .s (τ x)
  | .n k => .n k
def nmP (τ : Str → Str) : List Nat → List Atom → List Atom
  | c :: cs, a :: as => (if c = 118 then nmA τ a else a) :: nmP τ cs as
  | _, as => as
mutual
def nmR (τ : Str → Str) : Row → Row
  | .leaf w ps => .leaf w (nmP τ (shOf w) ps)
  | .node w vs a b => .node w (vs.map τ) (nmL τ a) (nmL τ b)
def nmL (τ : Str → Str) : List Row → List Row
  | [] => []
  | r :: rs => nmR τ r :: nmL τ rs
end
theorem nmL_map (τ : Str → Str) : ∀ rs : List Row, nmL τ rs = rs.map (nmR τ)
  | [] => rfl
  | r :: rs => by rw [nmL, nmL_map τ rs, List.map_cons]
theorem nmP_len (τ : Str → Str) : ∀ (cs : List Nat) (as : List Atom), (nmP τ cs as).length = as.length
  | [], as => rfl
  | c :: cs, [] => rfl
  | c :: cs, a :: as => by rw [nmP, List.length_cons, List.length_cons, nmP_len τ cs as]
theorem nmP_at (τ : Str → Str) : ∀ {cs : List Nat} {as : List Atom} {i c : Nat} {a : Atom}, cs[i]? = some c → as[i]? = some a → (nmP τ cs as)[i]? = some (if c = 118 then nmA τ a else a)
  | [], _, _, _, _, e, _ => by simp at e
  | _ :: _, [], _, _, _, _, e => by simp at e
  | c :: cs, a :: as, 0, c', a', e1, e2 => by
    simp at e1 e2
    subst e1 e2
    rfl
  | c :: cs, a :: as, i + 1, c', a', e1, e2 => by
    show (nmP τ cs as)[i]? = _
    exact nmP_at τ (by simpa using e1) (by simpa using e2)
theorem nm_fits {W F : List Str} {τ : Str → Str} {cs : List Nat} {as : List Atom} (h : Fits W F cs as) : Fits (W.map τ) F cs (nmP τ cs as) := by
  induction h with
  | nil => exact .nil
  | @cons c a cs as g _ ih =>
    refine .cons ?_ ih
    cases g with
    | v h => exact .v (List.mem_map_of_mem h)
    | r h => exact .r h
    | f h => exact .f h
    | k h => exact .k h
    | d h => exact .d h
theorem nm_word (τ : Str → Str) (r : Row) : (nmR τ r).word = r.word := by cases r <;> rfl
mutual
theorem nmR_ok {W F : List Str} {τ : Str → Str} : ∀ r : Row, okR W F r → okR (W.map τ) F (nmR τ r) ∧ szR (nmR τ r) = szR r ∧ cpR (nmR τ r) = cpR r ∧ rdR (nmR τ r) = rdR r ∧ htR (nmR τ r) = htR r
  | .leaf w ps, ok => by
    have ok0 := ok
    rw [okR] at ok
    obtain ⟨sh, h1, h2⟩ := ok
    rw [nmR]
    refine ⟨by rw [okR]; exact ⟨sh, h1, by rw [shOf_eq h1]; exact nm_fits h2⟩, by rw [szR, szR], by rw [cpR, cpR], ?_, by rw [htR, htR]⟩
    by_cases e : w = Str.ofString "watch"
    · subst e
      obtain ⟨r, x, n, rfl, _⟩ := okW_leaf ok0
      have es : shOf (Str.ofString "watch") = [114, 118, 100] := by decide +kernel
      rw [es]
      rfl
    · unfold rdR
      rw [if_neg e, if_neg e]
  | .node w vs a b, ok => by
    rw [okR] at ok
    obtain ⟨h1, h2, h3, h4⟩ := ok
    obtain ⟨a1, a2, a3, a4, a5⟩ := nmL_ok a h3
    obtain ⟨b1, b2, b3, b4, b5⟩ := nmL_ok b h4
    rw [nmR]
    refine ⟨by rw [okR]; exact ⟨by rw [List.length_map]; exact h1, fun x hx => by obtain ⟨y, hy, rfl⟩ := List.mem_map.mp hx; exact List.mem_map_of_mem (h2 y hy), a1, b1⟩, by rw [szR, szR, a2, b2], by rw [cpR, cpR, a3, b3], by rw [rdR, rdR, a4, b4], by rw [htR, htR, a5, b5]⟩
theorem nmL_ok {W F : List Str} {τ : Str → Str} : ∀ rs : List Row, okL W F rs → okL (W.map τ) F (nmL τ rs) ∧ szL (nmL τ rs) = szL rs ∧ cpL (nmL τ rs) = cpL rs ∧ rdL (nmL τ rs) = rdL rs ∧ htL (nmL τ rs) = htL rs
  | [], _ => by rw [nmL]; exact ⟨trivial, rfl, rfl, rfl, rfl⟩
  | r :: rs, ok => by
    rw [okL] at ok
    obtain ⟨a1, a2, a3, a4, a5⟩ := nmR_ok r ok.1
    obtain ⟨b1, b2, b3, b4, b5⟩ := nmL_ok rs ok.2
    rw [nmL]
    exact ⟨by rw [okL]; exact ⟨a1, b1⟩, by rw [szL, szL, a2, b2], by rw [cpL, cpL, a3, b3], by rw [rdL, rdL, a4, b4], by rw [htL, htL, a5, b5]⟩
end
/-- the parts behind the word -/
def dPs : Row → List PyData
  | .leaf _ ps => ps.map Atom.d
  | .node _ vs a b => vs.map PyData.str ++ [PyData.list (dL a), PyData.list (dL b)]
theorem dR_eq (r : Row) : dR r = .tuple (.str r.word :: dPs r) := by
  cases r <;> (rw [dR]; rfl)
def shp : Row → List Nat
  | .leaf w _ => shOf w
  | .node _ vs _ _ => List.replicate vs.length 118 ++ [98, 98]
theorem shp_tab {W F : List Str} {r : Row} (ok : okR W F r) : ∃ sh : Str, (r.word, sh) ∈ shapesL ∧ sh.cps.toList = shp r ∧ (shp r).length = (dPs r).length := by
  cases r with
  | leaf w ps =>
    rw [okR] at ok
    obtain ⟨sh, h1, h2⟩ := ok
    exact ⟨sh, (tabs _ h1).1, (shOf_eq h1).symm, by show (shOf w).length = (ps.map Atom.d).length; rw [shOf_eq h1, List.length_map, h2.len]⟩
  | node w vs a b =>
    rw [okR] at ok
    obtain ⟨z, h3, h4⟩ := tabsN _ ok.1
    exact ⟨z, h3, h4, by show (List.replicate vs.length 118 ++ [98, 98]).length = (vs.map PyData.str ++ [PyData.list (dL a), PyData.list (dL b)]).length; rw [List.length_append, List.length_append, List.length_replicate, List.length_map] <;> rfl⟩
theorem nm_len (τ : Str → Str) (r : Row) : (dPs (nmR τ r)).length = (dPs r).length := by
  cases r with
  | leaf w ps =>
    show ((nmP τ (shOf w) ps).map Atom.d).length = (ps.map Atom.d).length
    rw [List.length_map, List.length_map, nmP_len]
  | node w vs a b =>
    show ((vs.map τ).map PyData.str ++ [PyData.list (dL (nmL τ a)), PyData.list (dL (nmL τ b))]).length = (vs.map PyData.str ++ [PyData.list (dL a), PyData.list (dL b)]).length
    rw [List.length_append, List.length_append, List.length_map, List.length_map, List.length_map] <;> rfl
/-- part by part -/
theorem nm_at {W F : List Str} {r : Row} (τ : Str → Str) (ok : okR W F r) {i c : Nat} {d : PyData} (e1 : (shp r)[i]? = some c) (e2 : (dPs r)[i]? = some d) :
    (c = 98 ∧ ∃ rows, d = PyData.list (dL rows) ∧ (dPs (nmR τ r))[i]? = some (PyData.list (dL (nmL τ rows))) ∧ okL W F rows ∧ htL rows ≤ htR r ∧ szL rows ≤ szR r) ∨
      (c ≠ 98 ∧ ∃ a, d = a.d ∧ Good W F c a ∧ (dPs (nmR τ r))[i]? = some (if c = 118 then nmA τ a else a).d) := by
  cases r with
  | leaf w ps =>
    rw [okR] at ok
    obtain ⟨sh, h1, h2⟩ := ok
    have e1 : (shOf w)[i]? = some c := e1
    rw [shOf_eq h1] at e1
    have e2 : (ps.map Atom.d)[i]? = some d := e2
    obtain ⟨a, ha, rfl⟩ := map_get e2
    refine .inr ⟨(tabs _ h1).2 c (List.mem_of_getElem? e1), a, rfl, h2.at e1 ha, ?_⟩
    show ((nmP τ (shOf w) ps).map Atom.d)[i]? = _
    rw [shOf_eq h1, List.getElem?_map, nmP_at τ e1 ha] <;> rfl
  | node w vs a b =>
    rw [okR] at ok
    have e1 : (List.replicate vs.length 118 ++ [98, 98])[i]? = some c := e1
    have e2 : (vs.map PyData.str ++ [PyData.list (dL a), PyData.list (dL b)])[i]? = some d := e2
    show _ ∨ (c ≠ 98 ∧ ∃ a_1, d = a_1.d ∧ Good W F c a_1 ∧ ((vs.map τ).map PyData.str ++ [PyData.list (dL (nmL τ a)), PyData.list (dL (nmL τ b))])[i]? = _)
    by_cases hi : i < vs.length
    · rw [List.getElem?_append_left (by rw [List.length_replicate]; exact hi), List.getElem?_replicate, if_pos hi] at e1
      rw [List.getElem?_append_left (by rw [List.length_map]; exact hi)] at e2
      obtain ⟨x, hx, rfl⟩ := map_get e2
      cases e1
      refine .inr ⟨by decide, .s x, rfl, .v (ok.2.1 x (List.mem_of_getElem? hx)), ?_⟩
      rw [List.getElem?_append_left (by rw [List.length_map, List.length_map]; exact hi), List.getElem?_map, List.getElem?_map, hx] <;> rfl
    · have h5 : vs.length ≤ i := Nat.le_of_not_lt hi
      rw [List.getElem?_append_right (by rw [List.length_replicate]; exact h5), List.length_replicate] at e1
      rw [List.getElem?_append_right (by rw [List.length_map]; exact h5), List.length_map] at e2
      have e3 : ∀ rows, ([PyData.list (dL (nmL τ a)), PyData.list (dL (nmL τ b))] : List PyData)[i - vs.length]? = some (PyData.list (dL (nmL τ rows))) → (dPs (nmR τ (.node w vs a b)))[i]? = some (PyData.list (dL (nmL τ rows))) := fun rows q => by
        show ((vs.map τ).map PyData.str ++ [PyData.list (dL (nmL τ a)), PyData.list (dL (nmL τ b))])[i]? = _
        rw [List.getElem?_append_right (by rw [List.length_map, List.length_map]; exact h5), List.length_map, List.length_map]
        exact q
      generalize i - vs.length = j at e1 e2 e3
      match j, e1, e2 with
      | 0, e1, e2 =>
        cases e1
        cases e2
        exact .inl ⟨rfl, a, rfl, e3 a rfl, ok.2.2.1, by rw [htR]; omega, by rw [szR]; omega⟩
      | 1, e1, e2 =>
        cases e1
        cases e2
        exact .inl ⟨rfl, b, rfl, e3 b rfl, ok.2.2.2, by rw [htR]; omega, by rw [szR]; omega⟩
      | j + 2, e1, e2 => simp at e1
def fldB (w : Str) (k : Nat) : Bool := (decide (w = Str.ofString "put") && decide (k = 2)) || (decide (w = Str.ofString "look") && decide (k = 3))
def othB (w : Str) (k : Nat) : Bool := (decide (w = Str.ofString "watch") && decide (k = 1)) || (decide (w = Str.ofString "copy") && decide (k = 3))
theorem flags : ∀ q ∈ shapesL, ∀ i, i < 4 → ∀ c, q.2.cps.toList[i]? = some c → fldB q.1 (i + 1) = decide (c = 102) ∧ othB q.1 (i + 1) = decide (c = 114 ∨ c = 107) := by
  have h : ∀ q ∈ shapesL, ∀ i, i < 4 → ((q.2.cps.toList[i]?).all fun c => decide (fldB q.1 (i + 1) = decide (c = 102)) && decide (othB q.1 (i + 1) = decide (c = 114 ∨ c = 107))) = true := by decide +kernel
  intro q hq i hi c hc
  have := h q hq i hi
  rw [hc] at this
  simp only [Option.all_some, Bool.and_eq_true, decide_eq_true_eq] at this
  exact this
end Tw

set_option Elab.async false
set_option maxRecDepth 100000
set_option maxHeartbeats 4000000
/-! F10: the law's renaming. -/
namespace Tw
open PySem PySem.Spec L2 TL PyProof.Rows
theorem dstr (a b : Str) : decide (V.str a = V.str b) = decide (a = b) := by
  rw [Bool.eq_iff_iff, decide_eq_true_eq, decide_eq_true_eq]
  exact ⟨fun e => by injection e, fun e => by rw [e]⟩
theorem dint (i k : Nat) : decide (V.int (1 + (i : Int)) = V.int (k : Nat)) = decide (i + 1 = k) := by
  rw [Bool.eq_iff_iff, decide_eq_true_eq, decide_eq_true_eq]
  exact ⟨fun e => by injection e with e; omega, fun e => by congr 1; omega⟩
theorem fldE (w : Str) (i : Nat) : ((decide (V.str w = V.str (Str.ofString "put")) && decide (V.int (1 + (i : Int)) = V.int 2)) || (decide (V.str w = V.str (Str.ofString "look")) && decide (V.int (1 + (i : Int)) = V.int 3))) = fldB w (i + 1) := by
  rw [dstr, dstr, show decide (V.int (1 + (i : Int)) = V.int 2) = decide (i + 1 = 2) from dint i 2, show decide (V.int (1 + (i : Int)) = V.int 3) = decide (i + 1 = 3) from dint i 3] <;> rfl
theorem othE (w : Str) (i : Nat) : ((decide (V.str w = V.str (Str.ofString "watch")) && decide (V.int (1 + (i : Int)) = V.int 1)) || (decide (V.str w = V.str (Str.ofString "copy")) && decide (V.int (1 + (i : Int)) = V.int 3))) = othB w (i + 1) := by
  rw [dstr, dstr, show decide (V.int (1 + (i : Int)) = V.int 1) = decide (i + 1 = 1) from dint i 1, show decide (V.int (1 + (i : Int)) = V.int 3) = decide (i + 1 = 3) from dint i 3] <;> rfl
theorem nf {b : Bool} (h : ¬ b = true) : b = false := by cases b <;> first | rfl | exact absurd rfl h
theorem htR_in {l : List Row} {i : Nat} {r : Row} (h : l[i]? = some r) : htR r + 1 ≤ htL l := htR_mem h
section
variable {P : Program} {w : World} {K : PySem.W.Frag} {mg : Str → Option Value} {base : Heap}
def sp_named (K : PySem.W.Frag) (n : Nat) : Sp := fun vs H Q _ => ∃ (t tb : Addr) (r : Row) (W F : List Str) (τ : Str → Str) (M : List Addr), vs = [.ref t, .ref tb] ∧ Lsts M H ∧ Dp K (hid M H) (.ref t) (dR r) ∧ okR W F r ∧ TabAt H tb τ ∧ htR r + 1 ≤ n ∧ szR r ≤ 100 ∧
  ∀ (t' : Addr) (H' : Hp), Same H H' → Dp K (hid M H') (.ref t') (dR (nmR τ r)) → Q (.ref t') H'
theorem sc_named : FnScope ["_law_row_here", "_law_table", "_law_named_here", "_law_k", "_law_part", "_law_field", "_law_other", "_law_inner"] ["_law_row_here", "_law_table"] (defScope s_law_named) := ⟨rfl, rfl, rfl, by decide +kernel, rfl, by decide +kernel, by decide +kernel⟩
theorem bd_named : BindOk "_law_named" "_law_named" s_law_named ["_law_row_here", "_law_table"] := fun _ _ _ _ _ _ us hl => match us, hl with | [_, _], _ => rfl
theorem c_named (T : Txt w K mg) : ∀ n : Nat, Cal P w K mg base "_law_named" (1 + n) ["_law_row_here", "_law_table"] (sp_named K n)
  | 0 => T.d_law_named.cal0 bd_named fun vs H Q E h => by
    obtain ⟨t, tb, r, W, F, τ, M, _, _, _, _, _, h, _⟩ := h
    omega
  | n + 1 => by
    have rec_ := c_named T n
    refine T.d_law_named.cal sc_named bd_named (fun vs H Q E h => by obtain ⟨t, tb, r, W, F, τ, M, rfl, _⟩ := h; rfl) (fun f cdv A outer s H vs Q E hr h => ?_)
    obtain ⟨t, tb, r, W, F, τ, M, rfl, hM, hd, ok, hT, hht, hsz, q⟩ := h
    have nd := sc_named.nd
    have hu := hu_of hr
    refine ⟨_, pss_cons (ps_set (i := 2) nd rfl (Or.inl rfl) (pe_lst (pa_cons (pe_ix (r := rIxT K) ix_tup (pv 0) pe_int (fun _ _ => rfl)) pa_nil)))
      (pss_cons (ps_for PassesOwn.never rfl (pi_range2 (by rfl) T.b_range (pa_cons pe_int (pa_cons (pe_callB call_len_seq (by rfl) T.b_len PySem.boot_len (pa_cons (pv 0) pa_nil)) pa_nil))) (pg_name (i := 3) nd rfl (Or.inl rfl))
        (pss_cons (ps_set (i := 4) nd rfl (Or.inl rfl) (pe_ix (r := rIxT K) ix_tup (pv 0) (pv 3) (fun _ _ => rfl)))
        (C8.pss_cut (ps_set (i := 5) nd rfl (Or.inl rfl) (pe_or (pe_and (pe_cmpR op_eq (pe_ix (r := rIxT K) ix_tup (pv 0) pe_int (fun _ _ => rfl)) pe_str (nomark _)) (pe_one (pe_cmpR op_eq (pv 3) pe_int (nomark _))))
            (pe_one (pe_and (pe_cmpR op_eq (pe_ix (r := rIxT K) ix_tup (pv 0) pe_int (fun _ _ => rfl)) pe_str (nomark _)) (pe_one (pe_cmpR op_eq (pv 3) pe_int (nomark _)))))))
        (C8.pss_cut (ps_set (i := 6) nd rfl (Or.inl rfl) (pe_or (pe_and (pe_cmpR op_eq (pe_ix (r := rIxT K) ix_tup (pv 0) pe_int (fun _ _ => rfl)) pe_str (nomark _)) (pe_one (pe_cmpR op_eq (pv 3) pe_int (nomark _))))
            (pe_one (pe_and (pe_cmpR op_eq (pe_ix (r := rIxT K) ix_tup (pv 0) pe_int (fun _ _ => rfl)) pe_str (nomark _)) (pe_one (pe_cmpR op_eq (pv 3) pe_int (nomark _)))))))
        (C8.pss_cut (ps_if (pt_val (pe_isi (pv 4) T.b_isinstance T.b_list boot_list))
            (pss_one (ps_setLc (i := 4) (own := [("_law_inner", 7)]) (g := gName 7) (by rfl) nd rfl (by rfl) (by rfl) (pi_list (pv 4))
              (blkOk_by (own := [("_law_inner", 7)]) (N := ["_law_row_here", "_law_table", "_law_named_here", "_law_k", "_law_part", "_law_field", "_law_other", "_law_inner"]) (sc := defScope s_law_named) (by decide +kernel))
              (fun _ _ _ _ _ => pg_name (i := 7) nd rfl (Or.inl rfl)) (fun _ _ _ _ _ => pts_nil) (fun _ _ _ _ _ => pe_c rec_ hr (pa_cons (pv 7) (pa_cons (pv 1) pa_nil)))))
            (pss_one (ps_if (PW.pt (pw_and (pt_not (pt_val (pv 5))) (pw_and (pt_not (pt_val (pv 6))) (pw_and1 (pt_not (pt_val (pe_isi (pv 4) T.b_isinstance T.b_int boot_int)))))))
              (pss_one (ps_set (i := 4) nd rfl (Or.inl rfl) (pe_dget2 hu (pv 1) (pv 4) (pv 4) ⟨rfl, rfl, rfl, rfl⟩))) pss_nil)))
        (pss_one (ps_expr (pe_bm PySem.F.plainAttrs_list PySem.F.slot_list_append PySem.F.type_list_append mt_append (pv 2) (pa_cons (pv 4) pa_nil)))))))))
      (pss_one (ps_ret (pe_callTy call_tuple_of (by rfl) T.b_tuple boot_tuple (pa_cons (pv 2) pa_nil))))), ?_⟩
    obtain ⟨ys, hs, hys⟩ : ∃ ys, SqT K (hid M H) t (.str r.word :: ys) ∧ DpAll K (hid M H) ys (dPs r) := by
      rw [dR_eq] at hd
      cases hd with
      | tup h1 h2 =>
        cases h2 with
        | cons h3 h4 =>
          cases h3
          exact ⟨_, h1, h4⟩
    have hsH : SqT K H t (.str r.word :: ys) := sqT_same (hid_le _ _) hs
    obtain ⟨sh, htab, hsh, hlen⟩ := shp_tab ok
    have lys : ys.length = (dPs r).length := dA_len hys
    have l4 : ys.length ≤ 4 := by
      have := (shapes_len _ htab).2
      rw [lys, ← hlen, ← hsh, Array.length_toList]
      exact this
    refine ⟨_, rfl, t, _, 0, _, rfl, rfl, hsH, at_0 _ _, (by show 1 ≤ sizeLine; decide), fun nh nnh => ?_⟩
    refine ⟨_, rfl, t, _, rfl, .inr (sqT_same (same_new nnh _) hsH), 1, _, rfl, by simp only [List.length_cons]; omega, ?_⟩
    have en : (((V.str r.word :: ys).length : Int) - 1).toNat = ys.length := by rw [List.length_cons]; omega
    rw [en]
    refine for_it walk_range (fun i σ H' => (∃ v3 v4 v5 v6 v7, σ = [some (.ref t), some (.ref tb), some (.ref nh), v3, v4, v5, v6, v7]) ∧ Same H H' ∧ ∃ xs, H' nh = some (.lst xs) ∧ DpAll K (hid (nh :: M) H') xs (.str r.word :: (dPs (nmR τ r)).take i))
      ⟨⟨_, _, _, _, _, rfl⟩, same_new nnh _, _, upd_same, .cons (.str _) (by rw [List.take_zero]; exact .nil)⟩ (fun _ _ _ _ _ => trivial) ?_ ?_
    · rintro i y σ H0 H1 hi ⟨⟨v3, v4, v5, v6, v7, rfl⟩, g1, xs, hnh, dxs⟩ ⟨rfl, rfl⟩
      have hs1 : SqT K H1 t (.str r.word :: ys) := sqT_same g1 hsH
      have hyi : ys[i]? = some ys[i] := List.getElem?_eq_getElem hi
      have hat : atI (V.str r.word :: ys) (1 + (i : Int)) = some ys[i] := by
        rw [show (1 : Int) + (i : Int) = ((i + 1 : Nat) : Int) by omega]
        exact atI_nat (j := i + 1) (by rw [List.getElem?_cons_succ]; exact hyi)
      generalize ys[i] = y at hyi hat
      obtain ⟨d0, hd0, hdy⟩ := dA_get hys hyi
      obtain ⟨c, hc⟩ : ∃ c, (shp r)[i]? = some c := ⟨_, List.getElem?_eq_getElem (by rw [hlen, ← lys]; exact hi)⟩
      have hfl := flags _ htab i (by omega) c (by rw [hsh]; exact hc)
      have hnm := nm_at τ ok hc hd0
      have sgh : Same (hid M H) (hid (nh :: M) H1) := hid_cons nnh g1
      have hdy1 := dp_same sgh hdy
      have hM1 : Lsts (nh :: M) H1 := (hM.same g1).cons hnh
      refine ⟨_, rfl, _, rfl, t, _, _, _, rfl, rfl, hs1, hat, ?_⟩
      refine ⟨fun σ' H' => H1 = H' ∧ σ' = [some (.ref t), some (.ref tb), some (.ref nh), some (.int (1 + (i : Int))), some y, some (.bl (fldB r.word (i + 1))), v6, v7], ?_, ?_⟩
      · have fin : ∀ b : Bool, b = fldB r.word (i + 1) → H1 = H1 ∧ ([some (.ref t), some (.ref tb), some (.ref nh), some (.int (1 + (i : Int))), some y, some (.bl b), v6, v7] : L2.St) = [some (.ref t), some (.ref tb), some (.ref nh), some (.int (1 + (i : Int))), some y, some (.bl (fldB r.word (i + 1))), v6, v7] := fun b e => by subst e; exact ⟨rfl, rfl⟩
        refine ⟨_, rfl, t, _, 0, _, rfl, rfl, hs1, at_0 _ _, rfl, _, rfl, ite2 (fun a1 => ⟨_, rfl, rfl, _, rfl, ite2 (fun a2 => fin true ?_) (fun a2 => ⟨_, rfl, t, _, 0, _, rfl, rfl, hs1, at_0 _ _, rfl, _, rfl, ite2 (fun a3 => ⟨_, rfl, rfl, fin _ ?_⟩) (fun a3 => fin false ?_)⟩)⟩) (fun a1 => ⟨_, rfl, iteF ⟨_, rfl, t, _, 0, _, rfl, rfl, hs1, at_0 _ _, rfl, _, rfl, ite2 (fun a3 => ⟨_, rfl, rfl, fin _ ?_⟩) (fun a3 => fin false ?_)⟩⟩)⟩
        · rw [← fldE, a1, a2] <;> rfl
        · rw [← fldE, a1, nf a2, a3] <;> rfl
        · rw [← fldE, a1, nf a2, nf a3] <;> rfl
        · rw [← fldE, nf a1, a3] <;> rfl
        · rw [← fldE, nf a1, nf a3] <;> rfl
      · rintro σ' H' ⟨rfl, rfl⟩
        refine ⟨fun σ' H' => H1 = H' ∧ σ' = [some (.ref t), some (.ref tb), some (.ref nh), some (.int (1 + (i : Int))), some y, some (.bl (fldB r.word (i + 1))), some (.bl (othB r.word (i + 1))), v7], ?_, ?_⟩
        · have fin : ∀ b : Bool, b = othB r.word (i + 1) → H1 = H1 ∧ ([some (.ref t), some (.ref tb), some (.ref nh), some (.int (1 + (i : Int))), some y, some (.bl (fldB r.word (i + 1))), some (.bl b), v7] : L2.St) = [some (.ref t), some (.ref tb), some (.ref nh), some (.int (1 + (i : Int))), some y, some (.bl (fldB r.word (i + 1))), some (.bl (othB r.word (i + 1))), v7] := fun b e => by subst e; exact ⟨rfl, rfl⟩
          refine ⟨_, rfl, t, _, 0, _, rfl, rfl, hs1, at_0 _ _, rfl, _, rfl, ite2 (fun a1 => ⟨_, rfl, rfl, _, rfl, ite2 (fun a2 => fin true ?_) (fun a2 => ⟨_, rfl, t, _, 0, _, rfl, rfl, hs1, at_0 _ _, rfl, _, rfl, ite2 (fun a3 => ⟨_, rfl, rfl, fin _ ?_⟩) (fun a3 => fin false ?_)⟩)⟩) (fun a1 => ⟨_, rfl, iteF ⟨_, rfl, t, _, 0, _, rfl, rfl, hs1, at_0 _ _, rfl, _, rfl, ite2 (fun a3 => ⟨_, rfl, rfl, fin _ ?_⟩) (fun a3 => fin false ?_)⟩⟩)⟩
          · rw [← othE, a1, a2] <;> rfl
          · rw [← othE, a1, nf a2, a3] <;> rfl
          · rw [← othE, a1, nf a2, nf a3] <;> rfl
          · rw [← othE, nf a1, a3] <;> rfl
          · rw [← othE, nf a1, nf a3] <;> rfl
        · rintro σ' H' ⟨rfl, rfl⟩
          refine ⟨fun σ' H' => ∃ (y' : V) (v7 : Option V) (d' : PyData), σ' = [some (.ref t), some (.ref tb), some (.ref nh), some (.int (1 + (i : Int))), some y', some (.bl (fldB r.word (i + 1))), some (.bl (othB r.word (i + 1))), v7] ∧ Same H1 H' ∧ (dPs (nmR τ r))[i]? = some d' ∧ Dp K (hid (nh :: M) H') y' d', ?_, ?_⟩
          · rw [hfl.1, hfl.2]
            rcases hnm with ⟨rfl, rows, rfl, hd', okrows, hhr, hszr⟩ | ⟨hc98, a, rfl, ga, hd'⟩
            · obtain ⟨p, zs, rfl, hp, hzs⟩ : ∃ p zs, y = .ref p ∧ SqL K (hid (nh :: M) H1) p zs ∧ DpAll K (hid (nh :: M) H1) zs (dL rows) := by
                cases hdy1 with
                | lst a b => exact ⟨_, _, rfl, a, b⟩
              have hpH := sqL_same (hid_le _ _) hp
              refine ⟨_, rfl, _, _, .type "list", .type "list", true, rfl, .ty _, ty_list hpH, kit_ty (by decide +kernel), true, rfl, iteT ?_⟩
              refine ⟨_, rfl, p, rfl, ⟨_, hpH⟩, fun D nD => ?_⟩
              have nDh : nh ≠ D := fun z => by rw [z, nD] at hnh; cases hnh
              refine lc_it (walk_list (K := K) (a := p) (xs := zs)) (fun j H' => Same H1 H' ∧ ∃ us, H' D = some (.lst us) ∧ DpAll K (hid (D :: nh :: M) H') us (dL (nmL τ (rows.take j))))
                ⟨same_new nD _, [], upd_same, by rw [List.take_zero, nmL, dL]; exact .nil⟩ (fun j H' _ z => sqL_same z.1 hpH) ?_ ?_
              · rintro j y2 J0 J1 hj ⟨gJ, us, hD, dus⟩ ⟨rfl, hx⟩
                obtain ⟨r2, hr2, hdr2⟩ := dA_row hzs hx
                have okr2 := okL_at okrows hr2
                obtain ⟨t2, _, rfl, _⟩ := word_at hdr2 okr2
                have hh2 : htR r2 + 1 ≤ htL rows := htR_mem hr2
                have hs2 := szR_mem hr2
                have hMJ : Lsts (D :: nh :: M) J1 := (hM1.same gJ).cons hD
                have lus : us.length = (nmL τ (rows.take j)).length := by rw [dA_len dus, dL_length]
                refine ⟨rfl, _, rfl, _, rfl, t2, tb, r2, W, F, τ, D :: nh :: M, rfl, hMJ, dp_same (hid_cons nD gJ) hdr2, okr2, (hT.same g1).same gJ, ?_, by omega, fun t' J2 gJ2 dt => ?_⟩
                · omega
                · refine ⟨us, gJ2 _ _ hD, ?_, same_upd (gJ.trans gJ2) nD _, us ++ [.ref t'], upd_same, ?_⟩
                  · rw [lus, nmL_map, List.length_map, List.length_take]
                    have := len_le_szL rows
                    exact small1000 (by omega)
                  · rw [hid_upd (List.mem_cons_self ..), take_get hr2, nmL_map, List.map_append, ← nmL_map, dL_append]
                    exact dA_app (by rw [List.map_cons, List.map_nil, dL, dL]; exact .cons dt .nil) (dpAll_same (hid_same gJ2) dus)
              · rintro J1 ⟨gJ, us, hD, dus⟩
                have lz : zs.length = rows.length := by rw [dA_len hzs, dL_length]
                rw [lz, List.take_length] at dus
                refine ⟨.ref D, _, _, rfl, gJ, hd', .lst (sqL_hid (by
                  intro hm
                  rcases List.mem_cons.mp hm with z | z
                  · exact nDh z.symm
                  · exact (hM.same g1).out nD z) hD) (dpAll_same hid_tl dus)⟩
            · have finY : ∀ (H' : Hp) (y' : V), H1 = H' → Dp K (hid (nh :: M) H') y' (if c = 118 then nmA τ a else a).d → ∃ (y'' : V) (v7' : Option V) (d' : PyData), ([some (.ref t), some (.ref tb), some (.ref nh), some (.int (1 + (i : Int))), some y', some (.bl (decide (c = 102))), some (.bl (decide (c = 114 ∨ c = 107))), v7] : L2.St) = [some (.ref t), some (.ref tb), some (.ref nh), some (.int (1 + (i : Int))), some y'', some (.bl (decide (c = 102))), some (.bl (decide (c = 114 ∨ c = 107))), v7'] ∧ Same H1 H' ∧ (dPs (nmR τ r))[i]? = some d' ∧ Dp K (hid (nh :: M) H') y'' d' := fun H' y' e dd => by
                subst e
                exact ⟨_, _, _, rfl, Same.refl _, hd', dd⟩
              cases a with
              | n k =>
                have hy : y = .int (k : Nat) := by cases hdy1; rfl
                subst hy
                have hc0 : c = 100 := by cases ga; rfl
                subst hc0
                refine ⟨_, rfl, _, _, .type "int", .type "list", false, rfl, .ty _, ty_int _, kit_ty (by decide +kernel), false, rfl, iteF ?_⟩
                refine ⟨_, rfl, _, rfl, iteT ⟨_, rfl, _, rfl, iteT ⟨_, rfl, _, _, .type "int", .type "int", true, rfl, .ty _, ty_int _, kit_ty (by decide +kernel), true, rfl, iteF ?_⟩⟩⟩
                exact finY H1 _ rfl (.int _)
              | s x =>
                have hy : y = .str x := by cases hdy1; rfl
                subst hy
                refine ⟨_, rfl, _, _, .type "str", .type "list", false, rfl, .ty _, ty_str _, kit_ty (by decide +kernel), false, rfl, iteF ?_⟩
                have other : c ≠ 118 → Dp K (hid (nh :: M) H1) (.str x) (if c = 118 then nmA τ (.s x) else .s x).d := fun e => by
                  rw [if_neg e]
                  exact .str x
                refine ⟨_, rfl, _, rfl, ?_⟩
                by_cases c1 : c = 102
                · rw [decide_eq_true c1] at finY ⊢
                  exact iteF (finY H1 _ rfl (other (by omega)))
                · rw [decide_eq_false c1] at finY ⊢
                  refine iteT ⟨_, rfl, _, rfl, ?_⟩
                  by_cases c2 : c = 114 ∨ c = 107
                  · rw [decide_eq_true c2] at finY ⊢
                    exact iteF (finY H1 _ rfl (other (by omega)))
                  · rw [decide_eq_false c2] at finY ⊢
                    refine iteT ⟨_, rfl, _, _, .type "str", .type "int", false, rfl, .ty _, ty_str _, kit_ty (by decide +kernel), false, rfl, iteT ?_⟩
                    have c3 : c = 118 := by
                      cases ga with
                      | v h => rfl
                      | r h => exact absurd (Or.inl rfl) c2
                      | f h => exact absurd rfl c1
                      | k h => exact absurd (Or.inr rfl) c2
                    obtain ⟨kvs, htb, hτ⟩ := (hT.same g1).ex
                    refine ⟨_, rfl, tb, rfl, .inl ⟨kvs, .inl htb⟩, _, rfl, _, rfl, _, DGet.k (k := .inr x) htb, ?_⟩
                    rw [hτ x]
                    refine finY H1 _ rfl ?_
                    rw [if_pos c3]
                    exact .str _
          · rintro σ' H2 ⟨y', v7, d', rfl, g2, hd', hdy'⟩
            have hn2 := g2 _ _ hnh
            have lxs := dA_len dxs
            rw [List.length_cons, List.length_take] at lxs
            refine ⟨_, rfl, .inl ⟨rfl, _, SqL.of hn2⟩, _, rfl, nh, xs, _, rfl, rfl, hn2, small1000 (by omega), ⟨_, _, _, _, _, rfl⟩, same_upd (g1.trans g2) nnh _, _, upd_same, ?_⟩
            rw [hid_upd (List.mem_cons_self ..), take_get hd', ← List.cons_append]
            exact dA_snoc (dpAll_same (hid_same g2) dxs) hdy'
    · rintro σ H1 ⟨⟨v3, v4, v5, v6, v7, rfl⟩, g1, xs, hnh, dxs⟩
      have e9 : (dPs (nmR τ r)).take ys.length = dPs (nmR τ r) := by rw [lys, ← nm_len τ r, List.take_length]
      rw [e9] at dxs
      refine ⟨_, rfl, nh, xs, rfl, .inl ⟨SqL.of hnh, fun t' nt' => ?_⟩⟩
      have g2 := same_new nt' (.tup xs)
      refine q t' _ (g1.trans g2) ?_
      rw [dR_eq, nm_word]
      exact .tup (sqT_hid (hM.same (g1.trans g2)) (SqT.of upd_same)) (dpAll_same ((hid_same g2).trans hid_tl) dxs)
end
end Tw

set_option Elab.async false
set_option maxRecDepth 100000
set_option maxHeartbeats 4000000
/-! F11: the law's lines. -/
namespace Tw
open PySem PySem.Spec L2 TL PyProof.Rows
theorem fits_strs {W F : List Str} {cs : List Nat} {as : List Atom} (h : Fits W F cs as) : 100 ∉ cs → ∃ xs : List Str, as = xs.map Atom.s := by
  induction h with
  | nil => exact fun _ => ⟨[], rfl⟩
  | @cons c a cs as g _ ih =>
    intro n
    simp only [List.mem_cons, not_or] at n
    obtain ⟨xs, rfl⟩ := ih n.2
    cases g with
    | @v x _ => exact ⟨x :: xs, rfl⟩
    | @r x _ => exact ⟨x :: xs, rfl⟩
    | @f x _ => exact ⟨x :: xs, rfl⟩
    | @k x _ => exact ⟨x :: xs, rfl⟩
    | d _ => exact absurd rfl n.1
theorem fits_snoc {W F : List Str} : ∀ {cs : List Nat} {as : List Atom}, Fits W F (cs ++ [100]) as → 100 ∉ cs → ∃ (xs : List Str) (n : Nat), as = xs.map Atom.s ++ [.n n] ∧ n < 5
  | [], as, h, _ => by
    cases h with
    | cons g t =>
      cases t
      cases g with
      | @d n h => exact ⟨[], n, rfl, h⟩
  | c :: cs, as, h, n => by
    simp only [List.mem_cons, not_or] at n
    cases h with
    | cons g t =>
      obtain ⟨xs, m, rfl, hm⟩ := fits_snoc t n.2
      cases g with
      | @v x _ => exact ⟨x :: xs, m, rfl, hm⟩
      | @r x _ => exact ⟨x :: xs, m, rfl, hm⟩
      | @f x _ => exact ⟨x :: xs, m, rfl, hm⟩
      | @k x _ => exact ⟨x :: xs, m, rfl, hm⟩
      | d _ => exact absurd rfl n.1
theorem leaf_num : ∀ q ∈ leafL, (q.1 = Str.ofString "copy" ∨ q.1 = Str.ofString "watch") → q.2.cps.toList = q.2.cps.toList.dropLast ++ [100] ∧ 100 ∉ q.2.cps.toList.dropLast := by decide +kernel
theorem leaf_str : ∀ q ∈ leafL, ¬ (q.1 = Str.ofString "copy" ∨ q.1 = Str.ofString "watch") → 100 ∉ q.2.cps.toList := by decide +kernel
theorem joinL_snoc (S y : List Nat) : ∀ {xs : List (List Nat)}, xs ≠ [] → joinL S (xs ++ [y]) = joinL S xs ++ (S ++ y)
  | [], h => absurd rfl h
  | [p], _ => rfl
  | p :: q :: r, _ => by
    have ih := joinL_snoc S y (xs := q :: r) (by simp)
    show p ++ (S ++ joinL S ((q :: r) ++ [y])) = (p ++ (S ++ joinL S (q :: r))) ++ (S ++ y)
    rw [ih]
    simp only [List.append_assoc]
theorem join_snoc {xs : List Str} (h : xs ≠ []) (y : Str) : Txt.join sp1 (xs ++ [y]) = Txt.join sp1 xs ++ sp1 ++ y := ext_tl (by
  rw [tl_append, tl_append, tl_txt, tl_txt, List.map_append, List.map_cons, List.map_nil, joinL_snoc _ _ (fun e => h (List.map_eq_nil_iff.mp e)), List.append_assoc])
theorem strs_v (xs : List Str) : (xs.map Atom.s).map Atom.v = xs.map V.str := by rw [List.map_map] <;> rfl
theorem strs_t (xs : List Str) : (xs.map Atom.s).map Atom.t = xs := by
  rw [List.map_map]
  exact List.map_id' xs
theorem dig_at {n : Nat} (h : n < 5) : atI (Str.ofString "01234").cps.toList ((n : Nat) : Int) = some (48 + n) := by
  refine atI_nat ?_
  have : ∀ n, n < 5 → (Str.ofString "01234").cps.toList[n]? = some (48 + n) := by decide +kernel
  exact this n h
theorem init_cut1 (n : Nat) (h : 1 ≤ n) : ¬ (HT.sIx n 0 none = 0 ∧ HT.sIx n n (some (-1)) = n) := fun e => by
  have e2 := e.2
  rw [show (-1 : Int) = -((1 : Nat) : Int) from rfl, sIx_neg n 1 h (by decide)] at e2
  omega
theorem pre_cut (n k : Nat) (h : k < n) : ¬ (HT.sIx n 0 none = 0 ∧ HT.sIx n n (some (k : Int)) = n) := fun e => by
  have e2 := e.2
  rw [HT.sIx_nat] at e2
  omega
section
variable {P : Program} {w : World} {K : PySem.W.Frag} {mg : Str → Option Value} {base : Heap}
def sp_law_lines (K : PySem.W.Frag) (n : Nat) : Sp := fun vs H Q _ => ∃ (l : Addr) (ind : Str) (rs : List Row) (W F : List Str), vs = [.ref l, .str ind] ∧ Dp K H (.ref l) (.list (dL rs)) ∧ okL W F rs ∧ (∀ x ∈ W, isW x) ∧ (∀ x ∈ F, isW x) ∧ htL rs ≤ n ∧ szL rs ≤ 100 ∧ ind.length + 2 * htL rs ≤ 900 ∧
  ∀ (p : Addr) (H' : Hp), Same H H' → H p = none → H' p = some (.lst ((lnL ind rs).map V.str)) → Q (.ref p) H'
theorem sc_law_lines : FnScope ["_law_rows_here", "_law_indent", "_law_lines_here", "_law_row_here"] ["_law_rows_here", "_law_indent"] (defScope s_law_lines) := ⟨rfl, rfl, rfl, by decide +kernel, rfl, by decide +kernel, by decide +kernel⟩
theorem bd_law_lines : BindOk "_law_lines" "_law_lines" s_law_lines ["_law_rows_here", "_law_indent"] := fun _ _ _ _ _ _ us hl => match us, hl with | [_, _], _ => rfl
theorem c_law_lines (T : Txt w K mg) : ∀ n : Nat, Cal P w K mg base "_law_lines" n ["_law_rows_here", "_law_indent"] (sp_law_lines K n)
  | 0 => T.d_law_lines.cal0 bd_law_lines fun vs H Q E h => by
    obtain ⟨l, ind, rs, W, F, _, _, _, _, _, h, _⟩ := h
    have := htL_pos rs
    omega
  | n + 1 => by
    have rec_ := c_law_lines T n
    refine T.d_law_lines.cal sc_law_lines bd_law_lines (fun vs H Q E h => by obtain ⟨l, ind, rs, W, F, rfl, _⟩ := h; rfl) (fun f cdv A outer s H vs Q E hr h => ?_)
    obtain ⟨l, ind, rs, W, F, rfl, hd, ok, hW, hF, hht, hsz, hin, q⟩ := h
    have nd := sc_law_lines.nd
    refine ⟨_, pss_cons (ps_set (i := 2) nd rfl (Or.inl rfl) (pe_lst pa_nil))
      (pss_cons (ps_for PassesOwn.never rfl (pi_list (pv 0)) (pg_name (i := 3) nd rfl (Or.inl rfl))
        (pss_one (ps_if (pt_cmpR op_in_seq (pe_ix (r := rIxT K) ix_tup (pv 3) pe_int (fun _ _ => rfl)) (pe_lst (pa_cons pe_str (pa_cons pe_str pa_nil))) (by rfl))
          (pss_cons (ps_expr (pe_bm PySem.F.plainAttrs_list PySem.F.slot_list_append PySem.F.type_list_append mt_append (pv 2) (pa_cons (pe_op op_add_str (pv 1) (pe_join pe_str (pe_callTy call_list_of (by rfl) T.b_list boot_list (pa_cons (pe_slice sl_tup (pv 3) po_none (po_some (pe_op op_sub (pe_callB call_len_seq (by rfl) T.b_len PySem.boot_len (pa_cons (pv 3) pa_nil)) pe_int))) pa_nil)))) pa_nil)))
          (pss_cons (ps_set (i := 2) nd rfl (Or.inl rfl) (pe_op op_cat (pe_op op_cat (pv 2) (pe_c rec_ hr (pa_cons (pe_ix ix_tup (pv 3) (pe_op op_sub (pe_callB call_len_seq (by rfl) T.b_len PySem.boot_len (pa_cons (pv 3) pa_nil)) pe_int) (fun _ _ => rfl)) (pa_cons (pe_op op_add_str (pv 1) pe_str) pa_nil)))) (pe_lst (pa_cons (pe_op op_add_str (pv 1) pe_str) pa_nil))))
          (pss_one (ps_set (i := 2) nd rfl (Or.inl rfl) (pe_op op_cat (pv 2) (pe_c rec_ hr (pa_cons (pe_ix ix_tup (pv 3) (pe_op op_sub (pe_callB call_len_seq (by rfl) T.b_len PySem.boot_len (pa_cons (pv 3) pa_nil)) pe_int) (fun _ _ => rfl)) (pa_cons (pe_op op_add_str (pv 1) pe_str) pa_nil))))))))
          (pss_one (ps_if (pt_cmpR op_in_seq (pe_ix (r := rIxT K) ix_tup (pv 3) pe_int (fun _ _ => rfl)) (pe_lst (pa_cons pe_str (pa_cons pe_str pa_nil))) (by rfl))
            (pss_one (ps_expr (pe_bm PySem.F.plainAttrs_list PySem.F.slot_list_append PySem.F.type_list_append mt_append (pv 2) (pa_cons (pe_op op_add_str (pe_op op_add_str (pe_op op_add_str (pv 1) (pe_join pe_str (pe_callTy call_list_of (by rfl) T.b_list boot_list (pa_cons (pe_slice sl_tup (pv 3) po_none (po_some (pe_un un_neg pe_int))) pa_nil)))) pe_str) (pe_ix ix_str pe_str (pe_ix ix_tup (pv 3) (pe_un un_neg pe_int) (fun _ _ => rfl)) (fun _ _ => rfl))) pa_nil))))
            (pss_one (ps_expr (pe_bm PySem.F.plainAttrs_list PySem.F.slot_list_append PySem.F.type_list_append mt_append (pv 2) (pa_cons (pe_op op_add_str (pv 1) (pe_join pe_str (pe_callTy call_list_of (by rfl) T.b_list boot_list (pa_cons (pv 3) pa_nil)))) pa_nil)))))))))
      (pss_one (ps_ret (pv 2)))), ?_⟩
    obtain ⟨xs, hl, hall⟩ : ∃ xs, SqL K H l xs ∧ DpAll K H xs (dL rs) := by
      cases hd with
      | lst a b => exact ⟨_, a, b⟩
    have lx : xs.length = rs.length := by rw [dA_len hall, dL_length]
    refine ⟨Nat.zero_le _, fun p0 np0 => ?_⟩
    refine ⟨_, rfl, l, rfl, ⟨_, sqL_same (same_new np0 _) hl⟩, for_list (K := K) (a := l) (xs := xs) (fun i σ H' => ∃ (p : Addr) (v3 : Option V), σ = [some (.ref l), some (.str ind), some (.ref p), v3] ∧ Same H H' ∧ H p = none ∧ H' p = some (.lst ((lnL ind (rs.take i)).map V.str)))
      ⟨p0, _, rfl, same_new np0 _, np0, by rw [List.take_zero, lnL]; exact upd_same⟩ (fun i σ H' _ z => by obtain ⟨p, v3, _, g, _⟩ := z; exact sqL_same g hl) ?_ ?_⟩
    · rintro i y σ H1 hx ⟨p, v3, rfl, g, np, hp⟩
      obtain ⟨r, hr0, hdr⟩ := dA_row hall hx
      have okr := okL_at ok hr0
      have hhr : htR r + 1 ≤ htL rs := htR_mem hr0
      have hsr := szR_mem hr0
      have hln := ln_row hW hF okr
      obtain ⟨hw1, hw2, hw5⟩ := hdR_ok hW hF okr
      have hcount := lnL_len ind (rs.take i)
      have hsplit := congrArg szL (List.take_append_drop i rs)
      rw [szL_app] at hsplit
      obtain ⟨t, ys, rfl, hs⟩ := word_at hdr okr
      have hs1 := sqT_same g hs
      refine ⟨_, rfl, t, _, 0, _, rfl, rfl, hs1, at_0 _ _, (by show 2 ≤ sizeLine; decide), fun l4 n4 => ⟨l4, _, rfl, .inl (SqL.of upd_same), rfl, rfl, _, rfl, ?_⟩⟩
      have g4 := same_new n4 (.lst [.str (Str.ofString "same"), .str (Str.ofString "empty")])
      have einv : inV (.str r.word) [V.str (Str.ofString "same"), V.str (Str.ofString "empty")] = decide (r.word ∈ [Str.ofString "same", Str.ofString "empty"]) := inV_str r.word [Str.ofString "same", Str.ofString "empty"]
      show if inV (.str r.word) [V.str (Str.ofString "same"), V.str (Str.ofString "empty")] = true then _ else _
      rw [einv]
      have g5 := g.trans g4
      have hp5 := g4 _ _ hp
      have hs5 := sqT_same g5 hs
      revert g5 hp5 hs5
      generalize (upd H1 l4 (.lst [.str (Str.ofString "same"), .str (Str.ofString "empty")])) = J1
      intro g5 hp5 hs5
      have lhead : (Txt.join sp1 (hdR r)).length ≤ 45 := hln.len
      have fin : ∀ (J : Hp) (z : Str), Same H J → J p = some (.lst ((lnL ind (rs.take i)).map V.str)) → lnR ind r = [z] → ∃ (p' : Addr) (v3 : Option V), ([some (.ref l), some (.str ind), some (.ref p), some (.ref t)] : L2.St) = [some (.ref l), some (.str ind), some (.ref p'), v3] ∧ Same H (upd J p (.lst ((lnL ind (rs.take i)).map V.str ++ [.str z]))) ∧ H p' = none ∧ (upd J p (.lst ((lnL ind (rs.take i)).map V.str ++ [.str z]))) p' = some (.lst ((lnL ind (rs.take (i + 1))).map V.str)) := fun J z gJ hJ e => by
        refine ⟨p, _, rfl, same_upd gJ np _, np, ?_⟩
        rw [upd_same, lnL_take ind hr0, e, List.map_append] <;> rfl
      cases r with
      | leaf x ps =>
        have okr' := okr
        rw [okR] at okr'
        obtain ⟨sh, k1, k2⟩ := okr'
        have n1 : x ≠ Str.ofString "same" := (by decide +kernel : ∀ q ∈ leafL, q.1 ≠ Str.ofString "same") _ k1
        have n2 : x ≠ Str.ofString "empty" := (by decide +kernel : ∀ q ∈ leafL, q.1 ≠ Str.ofString "empty") _ k1
        rw [decide_eq_false (show (Row.leaf x ps).word ∉ [Str.ofString "same", Str.ofString "empty"] by simp only [List.mem_cons, List.not_mem_nil, or_false, not_or]; exact ⟨n1, n2⟩)]
        obtain ⟨t', e', hs'⟩ := leaf_at hdr
        cases e'
        refine iteF ⟨_, rfl, t, _, 0, _, rfl, rfl, hs5, at_0 _ _, (by show 2 ≤ sizeLine; decide), fun l5 n5 => ⟨l5, _, rfl, .inl (SqL.of upd_same), rfl, rfl, _, rfl, ?_⟩⟩
        have g6 := same_new n5 (.lst [.str (Str.ofString "copy"), .str (Str.ofString "watch")])
        have einv : inV (.str (Row.leaf x ps).word) [V.str (Str.ofString "copy"), V.str (Str.ofString "watch")] = decide ((Row.leaf x ps).word ∈ [Str.ofString "copy", Str.ofString "watch"]) := inV_str (Row.leaf x ps).word [Str.ofString "copy", Str.ofString "watch"]
        show if inV (.str (Row.leaf x ps).word) [V.str (Str.ofString "copy"), V.str (Str.ofString "watch")] = true then _ else _
        rw [einv]
        have g7 := g5.trans g6
        have hp7 := g6 _ _ hp5
        have hs7 := sqT_same g7 hs'
        refine ite2 (fun e => ?_) (fun e => ?_)
        · have e' : x = Str.ofString "copy" ∨ x = Str.ofString "watch" := by
            have h : x ∈ [Str.ofString "copy", Str.ofString "watch"] := of_decide_eq_true e
            simpa using h
          obtain ⟨k3, k4⟩ := leaf_num _ k1 e'
          rw [show sh.cps.toList = _ from k3] at k2
          obtain ⟨us, m, rfl, hm⟩ := fits_snoc k2 k4
          have hs8 : SqT K (upd J1 l5 (.lst [.str (Str.ofString "copy"), .str (Str.ofString "watch")])) t ((x :: us).map V.str ++ [.int (m : Nat)]) := by
            rw [List.map_append, strs_v] at hs7
            exact hs7
          have ehd : hdR (.leaf x (us.map Atom.s ++ [.n m])) = (x :: us) ++ [Str.ofString (toString ((m : Nat) : Int))] := by
            show x :: (us.map Atom.s ++ [Atom.n m]).map Atom.t = _
            rw [List.map_append, strs_t] <;> rfl
          have hw1' : ∀ z ∈ x :: us, Wd z := fun z hz => hw1 z (by rw [ehd]; exact List.mem_append.mpr (.inl hz))
          have l5' : (x :: us).length ≤ 5 := by
            rw [ehd, List.length_append] at hw5
            omega
          have etx : txR (.leaf x (us.map Atom.s ++ [.n m])) = Txt.join sp1 (x :: us) ++ sp1 ++ ⟨#[48 + m]⟩ := by
            show Txt.join sp1 (hdR _) = _
            rw [ehd, join_snoc (List.cons_ne_nil _ _), dig_eq m hm]
          have lj : (Txt.join sp1 (x :: us)).length ≤ 45 := by
            have := lhead
            rw [show Txt.join sp1 (hdR (.leaf x (us.map Atom.s ++ [.n m]))) = _ from etx, len_app, len_app] at this
            omega
          have lj2 : (Txt.join (Str.ofString " ") (x :: us)).length ≤ 45 := lj
          refine ⟨_, rfl, .inl ⟨rfl, _, SqL.of hp7⟩, _, rfl, ⟨_, rfl⟩, _, rfl, 1, rfl, _, rfl, t, _, rfl, hs8, init_cut1 _ (by rw [List.length_append]; show 1 ≤ _ + 1; omega), fun t1 nt1 => ?_⟩
          rw [cut_init1]
          have g9 := same_new nt1 (.tup ((x :: us).map V.str))
          refine ⟨t1, _, rfl, .inr (SqT.of upd_same), fun l6 n6 => ?_⟩
          have g10 := g9.trans (same_new n6 (.lst ((x :: us).map V.str)))
          refine ⟨_, l6, x :: us, rfl, rfl, .inl (SqL.of upd_same), join_small hw1' l5', ind, _, rfl, rfl, small_line (by omega), _, sp1, rfl, rfl, ?_, _, rfl, 1, rfl, t, _, _, _, rfl, rfl, sqT_same g10 hs8, at_neg1 _ _, _, _, 48 + m, rfl, rfl, (by show 5 ≤ sizeLine; decide), dig_at hm, _, _, rfl, rfl, ?_, p, _, _, rfl, rfl, g10 _ _ hp7, ?_, ?_⟩
          · refine small_line ?_
            rw [len_app]
            have e2 : sp1.length = 1 := by decide +kernel
            have := lj
            omega
          · refine small_line ?_
            rw [len_app, len_app]
            have e2 : sp1.length = 1 := by decide +kernel
            have := lj
            show _ + 1 ≤ 1000
            omega
          · rw [List.length_map]
            exact small1000 (by omega)
          · have ez : ind ++ Txt.join sp1 (x :: us) ++ sp1 ++ ⟨#[48 + m]⟩ = ind ++ (Txt.join sp1 (x :: us) ++ sp1 ++ ⟨#[48 + m]⟩) := ext_tl (by simp only [tl_append, List.append_assoc])
            exact fin _ _ (g7.trans g10) (g10 _ _ hp7) (by rw [lnR, etx, ← ez])
        · have e' : ¬ (x = Str.ofString "copy" ∨ x = Str.ofString "watch") := fun z => e (decide_eq_true (show x ∈ [Str.ofString "copy", Str.ofString "watch"] by simpa using z))
          obtain ⟨us, rfl⟩ := fits_strs k2 (leaf_str _ k1 e')
          have ehd : hdR (.leaf x (us.map Atom.s)) = x :: us := by
            show x :: (us.map Atom.s).map Atom.t = _
            rw [strs_t]
          rw [strs_v] at hs7
          rw [ehd] at hw1 hw5 lhead
          have lj2 : (Txt.join (Str.ofString " ") (x :: us)).length ≤ 45 := lhead
          refine ⟨_, rfl, .inl ⟨rfl, _, SqL.of hp7⟩, _, rfl, ⟨_, rfl⟩, _, rfl, t, _, rfl, .inr hs7, fun l6 n6 => ?_⟩
          have g10 := same_new n6 (.lst (.str x :: us.map V.str))
          refine ⟨_, l6, x :: us, rfl, rfl, .inl (SqL.of upd_same), join_small hw1 hw5, ind, _, rfl, rfl, small_line (by omega), p, _, _, rfl, rfl, g10 _ _ hp7, by rw [List.length_map]; exact small1000 (by omega), ?_⟩
          exact fin _ _ (g7.trans g10) (g10 _ _ hp7) (by rw [lnR]; show [ind ++ Txt.join sp1 (hdR _)] = _; rw [ehd])
      | node x us a b =>
        have okr' := okr
        rw [okR] at okr'
        obtain ⟨k1, k2, k3, k4⟩ := okr'
        rw [htR] at hhr
        rw [szR] at hsr
        have w2 : x = Str.ofString "same" ∨ x = Str.ofString "empty" := (by decide +kernel : ∀ q ∈ nodeL, q.1 = Str.ofString "same" ∨ q.1 = Str.ofString "empty") _ k1
        rw [decide_eq_true (show (Row.node x us a b).word ∈ [Str.ofString "same", Str.ofString "empty"] from by show x ∈ _; simpa using w2)]
        obtain ⟨t', c1, c2, xa, xb, e', hs', h3, h4, h5, h6⟩ := node_at hdr
        cases e'
        have fewus : us.length ≤ 4 := (node_few _ k1).1
        have hL : (V.str x :: (us.map V.str ++ [.ref c1, .ref c2])).length = us.length + 3 := by rw [List.length_cons, List.length_append, List.length_map] <;> rfl
        have hsJ := sqT_same g5 hs'
        have lj2 : (Txt.join (Str.ofString " ") (hdR (.node x us a b))).length ≤ 45 := lhead
        have em2 : ((V.str x :: (us.map V.str ++ [.ref c1, .ref c2])).length : Int) - 2 = ((us.length + 1 : Nat) : Int) := by rw [hL]; omega
        have em1 : ((V.str x :: (us.map V.str ++ [.ref c1, .ref c2])).length : Int) - 1 = ((us.length + 2 : Nat) : Int) := by rw [hL]; omega
        refine iteT ⟨_, rfl, .inl ⟨rfl, _, SqL.of hp5⟩, _, rfl, ⟨_, rfl⟩, _, rfl, _, rfl, t, _, rfl, .inr hsJ, _, 2, rfl, rfl, _, rfl, t, _, rfl, hsJ, by rw [em2]; exact pre_cut _ _ (by rw [hL]; omega), fun t1 nt1 => ?_⟩
        rw [em2, cut_pre]
        have etk : (V.str x :: (us.map V.str ++ [.ref c1, .ref c2])).take (us.length + 1) = (hdR (.node x us a b)).map V.str := by
          show (V.str x :: (us.map V.str ++ [V.ref c1, V.ref c2])).take (us.length + 1) = (x :: us).map V.str
          rw [List.take_succ_cons, List.take_append_of_le_length (by rw [List.length_map]; exact Nat.le_refl _), List.take_of_length_le (by rw [List.length_map]; exact Nat.le_refl _), List.map_cons]
        rw [etk]
        have g9 := same_new nt1 (.tup ((hdR (.node x us a b)).map V.str))
        refine ⟨t1, _, rfl, .inr (SqT.of upd_same), fun l6 n6 => ?_⟩
        have g10 := g9.trans (same_new n6 (.lst ((hdR (.node x us a b)).map V.str)))
        refine ⟨_, l6, hdR (.node x us a b), rfl, rfl, .inl (SqL.of upd_same), join_small hw1 hw5, ind, _, rfl, rfl, small_line (by omega), p, _, _, rfl, rfl, g10 _ _ hp5, by rw [List.length_map]; exact small1000 (by omega), ?_⟩
        have hp11 : ∀ J : Hp, (upd J p (.lst ((lnL ind (rs.take i)).map V.str ++ [.str (ind ++ txR (.node x us a b))]))) p = some (.lst ((lnL ind (rs.take i) ++ [ind ++ txR (.node x us a b)]).map V.str)) := fun J => by rw [upd_same, List.map_append] <;> rfl
        have g11 := same_upd (g5.trans g10) np (.lst ((lnL ind (rs.take i)).map V.str ++ [.str (ind ++ txR (.node x us a b))]))
        have hp12 := hp11 (upd (upd J1 t1 (.tup ((hdR (.node x us a b)).map V.str))) l6 (.lst ((hdR (.node x us a b)).map V.str)))
        show tSeq _ _ _ _ (upd (upd (upd J1 t1 (.tup ((hdR (.node x us a b)).map V.str))) l6 (.lst ((hdR (.node x us a b)).map V.str))) p (.lst ((lnL ind (rs.take i)).map V.str ++ [.str (ind ++ txR (.node x us a b))])))
        revert g11 hp12
        generalize (upd (upd (upd J1 t1 (.tup ((hdR (.node x us a b)).map V.str))) l6 (.lst ((hdR (.node x us a b)).map V.str))) p (.lst ((lnL ind (rs.take i)).map V.str ++ [.str (ind ++ txR (.node x us a b))]))) = J3
        intro g11 hp12
        have li : (ind ++ Str.ofString "  ").length = ind.length + 2 := by rw [len_app] <;> rfl
        have la := lnL_len (ind ++ Str.ofString "  ") a
        have lb := lnL_len (ind ++ Str.ofString "  ") b
        have da : Dp K H (.ref c1) (.list (dL a)) := .lst h3 h4
        have db : Dp K H (.ref c2) (.list (dL b)) := .lst h5 h6
        have hat2 : atI (V.str x :: (us.map V.str ++ [.ref c1, .ref c2])) ((us.length + 1 : Nat) : Int) = some (.ref c1) := atI_nat (j := us.length + 1) (by rw [List.getElem?_cons_succ, List.getElem?_append_right (by rw [List.length_map]; exact Nat.le_refl _), List.length_map, Nat.sub_self] <;> rfl)
        have hat1 : atI (V.str x :: (us.map V.str ++ [.ref c1, .ref c2])) ((us.length + 2 : Nat) : Int) = some (.ref c2) := atI_nat (j := us.length + 2) (by rw [List.getElem?_cons_succ, List.getElem?_append_right (by rw [List.length_map]; omega), List.length_map, show us.length + 1 - us.length = 1 by omega] <;> rfl)
        refine ⟨_, rfl, _, rfl, _, rfl, t, _, rfl, .inr (sqT_same g11 hs'), _, 2, rfl, rfl, t, _, _, _, rfl, rfl, sqT_same g11 hs', by rw [em2]; exact hat2, _, rfl, ind, _, rfl, rfl, small_line (by show ind.length + 2 ≤ 1000; omega), c1, ind ++ Str.ofString "  ", a, W, F, rfl, dp_same g11 da, k3, hW, hF, by omega, by omega, by rw [li]; omega, fun q1 J4 g12 nq1 hq1 => ?_⟩
        refine ⟨p, q1, _, _, rfl, rfl, g12 _ _ hp12, hq1, ?_, fun p2 np2 => ?_⟩
        · simp only [List.length_map, List.length_append, List.length_cons, List.length_nil]
          exact small_line (by omega)
        have g13 := g12.trans (same_new np2 (.lst ((lnL ind (rs.take i) ++ [ind ++ txR (.node x us a b)]).map V.str ++ (lnL (ind ++ Str.ofString "  ") a).map V.str)))
        refine ⟨_, rfl, ind, _, rfl, rfl, small_line (by show ind.length + 4 ≤ 1000; omega), (by show 1 ≤ sizeLine; decide), fun l7 n7 => ⟨p2, l7, _, _, rfl, rfl, same_new n7 _ _ _ upd_same, upd_same, ?_, fun p3 np3 => ?_⟩⟩
        · simp only [List.length_map, List.length_append, List.length_cons, List.length_nil]
          exact small_line (by omega)
        have g14 := g13.trans ((same_new n7 (.lst [.str (ind ++ Str.ofString "else")])).trans (same_new np3 (.lst ((lnL ind (rs.take i) ++ [ind ++ txR (.node x us a b)]).map V.str ++ (lnL (ind ++ Str.ofString "  ") a).map V.str ++ [.str (ind ++ Str.ofString "else")]))))
        have g15 := g11.trans g14
        refine ⟨_, rfl, _, rfl, _, rfl, t, _, rfl, .inr (sqT_same g15 hs'), _, 1, rfl, rfl, t, _, _, _, rfl, rfl, sqT_same g15 hs', by rw [em1]; exact hat1, _, rfl, ind, _, rfl, rfl, small_line (by show ind.length + 2 ≤ 1000; omega), c2, ind ++ Str.ofString "  ", b, W, F, rfl, dp_same g15 db, k4, hW, hF, by omega, by omega, by rw [li]; omega, fun q2 J5 g16 nq2 hq2 => ?_⟩
        refine ⟨p3, q2, _, _, rfl, rfl, g16 _ _ upd_same, hq2, ?_, fun p4 np4 => ?_⟩
        · simp only [List.length_map, List.length_append, List.length_cons, List.length_nil]
          exact small_line (by omega)
        refine ⟨p4, _, rfl, (g15.trans g16).trans (same_new np4 _), (g15.trans g16).free np4, ?_⟩
        rw [upd_same, lnL_take ind hr0, lnR]
        simp only [List.map_append, List.map_cons, List.map_nil, List.append_assoc, List.cons_append, List.nil_append]
    · rintro σ H1 ⟨p, v3, rfl, g, np, hp⟩
      rw [lx, List.take_length] at hp
      exact ⟨_, rfl, q p H1 g np hp⟩
end
end Tw

set_option Elab.async false
set_option maxRecDepth 100000
set_option maxHeartbeats 4000000
/-! F12: the law's text. -/
namespace Tw
open PySem PySem.Spec L2 TL PyProof.Rows
/-- the plan in the end -/
structure FinAt (K : PySem.W.Frag) (H : Hp) (d : Addr) (ins fs outs : List Str) (rs : List Row) : Prop where
  ex : ∃ L n fl il ol bl ll, Bd H d L n ∧ L[3]? = some (some (.ref fl)) ∧ L[11]? = some (some (.ref il)) ∧ L[12]? = some (some (.ref ol)) ∧ L[13]? = some (some (.ref bl)) ∧ L[14]? = some (some (.ref ll)) ∧
    H fl = some (.lst (fs.map V.str)) ∧ H il = some (.lst (ins.map V.str)) ∧ H ol = some (.lst (outs.map V.str)) ∧ Dp K H (.ref bl) (.list (dL rs)) ∧ H ll = some (.lst ((allL ins fs outs rs).map V.str))
theorem FinAt.same {K : PySem.W.Frag} {H H' : Hp} {d : Addr} {ins fs outs : List Str} {rs : List Row} (h : FinAt K H d ins fs outs rs) (g : Same H H') : FinAt K H' d ins fs outs rs := by
  obtain ⟨L, n, fl, il, ol, bl, ll, bd, l3, l11, l12, l13, l14, h1, h2, h3, h4, h5⟩ := h.ex
  exact ⟨L, n, fl, il, ol, bl, ll, bd.same g, l3, l11, l12, l13, l14, g _ _ h1, g _ _ h2, g _ _ h3, dp_same g h4, g _ _ h5⟩
theorem nd_map {α β : Type} {f : α → β} : ∀ {xs : List α}, xs.Nodup → (∀ x ∈ xs, ∀ y ∈ xs, f x = f y → x = y) → (xs.map f).Nodup
  | [], _, _ => .nil
  | x :: xs, h, inj => by
    have h1 := List.nodup_cons.mp h
    rw [List.map_cons]
    refine List.nodup_cons.mpr ⟨fun hm => ?_, nd_map h1.2 fun a ha b hb => inj a (List.mem_cons_of_mem _ ha) b (List.mem_cons_of_mem _ hb)⟩
    obtain ⟨y, hy, e⟩ := List.mem_map.mp hm
    have := inj y (List.mem_cons_of_mem _ hy) x (List.mem_cons_self ..) e
    rw [this] at hy
    exact h1.1 hy
theorem Prg.named {W ins fs outs : List Str} {rs : List Row} {τ : Str → Str} (G : Prg W ins fs outs rs) (T : Tau W τ) : Prg (W.map τ) (ins.map τ) fs (outs.map τ) (nmL τ rs) := by
  obtain ⟨a1, a2, a3, a4, a5⟩ := nmL_ok (τ := τ) rs G.ok
  refine ⟨a1, by rw [a5]; exact G.ht, by rw [a2]; exact G.sz, by rw [a3]; exact G.cp, by rw [a4]; exact G.rd, by rw [a4]; exact G.rdn, ?_, by rw [List.length_map]; exact G.wl, ?_, by rw [List.length_map]; exact G.i1, by rw [List.length_map]; exact G.i3, ?_, G.f, G.f1, G.f2, G.fnd, ?_, by rw [List.length_map]; exact G.o3, ?_⟩
  · intro x hx
    obtain ⟨y, hy, rfl⟩ := List.mem_map.mp hx
    exact T.w y hy
  · intro x hx
    obtain ⟨y, hy, rfl⟩ := List.mem_map.mp hx
    exact List.mem_map_of_mem (G.i y hy)
  · exact nd_map G.ind fun x hx y hy => T.inj x (G.i x hx) y (G.i y hy)
  · intro x hx
    obtain ⟨y, hy, rfl⟩ := List.mem_map.mp hx
    exact List.mem_map_of_mem (G.o y hy)
  · exact nd_map G.ond fun x hx y hy => T.inj x (G.o x hx) y (G.o y hy)
section
variable {P : Program} {w : World} {K : PySem.W.Frag} {mg : Str → Option Value} {base : Heap}
def sp_law_texted (K : PySem.W.Frag) : Sp := fun vs H Q _ => ∃ (sc sz : Addr) (ns : List Int), vs = [.ref sc, .int 0, .ref sz] ∧ SqL K H sc (ns.map V.int) ∧ H sz = some (.lst sizesV) ∧
  ∀ (d : Addr) (W ins fs outs : List Str) (rs : List Row) (H' : Hp), Same H H' → Prg W ins fs outs rs → FinAt K H' d ins fs outs rs → Q (.ref d) H'
theorem sc_law_texted : FnScope ["_law_script", "_law_k", "_law_sizes", "_law_plan", "_law_table", "_law_lines_here", "_law_row_here", "_law_word"] ["_law_script", "_law_k", "_law_sizes"] (defScope s_law_texted) := ⟨rfl, rfl, rfl, by decide +kernel, rfl, by decide +kernel, by decide +kernel⟩
theorem c_law_texted (T : Txt w K mg) : Cal P w K mg base "_law_texted" 13 ["_law_script", "_law_k", "_law_sizes"] (sp_law_texted K) := by
  refine T.d_law_texted.cal sc_law_texted (fun _ _ _ _ _ _ us hl => match us, hl with | [_, _, _], _ => rfl) (fun vs H Q E h => by obtain ⟨sc, sz, ns, rfl, _⟩ := h; rfl) (fun f cdv A outer s H vs Q E hr h => ?_)
  obtain ⟨sc, sz, ns, rfl, hsc, hsz, q⟩ := h
  have nd := sc_law_texted.nd
  have hu := hu_of hr
  have hr1 : Room 1 _ := hr.mono (by decide)
  have hr2 : Room 2 _ := hr.mono (by decide)
  have hr4 : Room 4 _ := hr.mono (by decide)
  have hr5 : Room 5 _ := hr.mono (by decide)
  refine ⟨_, pss_cons (ps_set (i := 3) nd rfl (Or.inl rfl) (pe_c (c_law_program T) hr (pa_cons (pv 0) (pa_cons (pv 1) (pa_cons (pv 2) pa_nil)))))
    (pss_cons (ps_set (i := 4) nd rfl (Or.inr rfl) (pe_c (c_law_special T) hr2 (pa_cons (pe_c (c_law_state T) hr1 (pa_cons (pv 0) (pa_cons (pe_op op_add (pv 1) pe_int) pa_nil))) (pa_cons (pv 3) pa_nil))))
    (pss_cons (ps_dput hu (pv 3) pe_str (pe_lc (own := [("_law_row_here", 6)]) (g := gName 6) (by rfl) nd (pi_list (pe_dget hu (pv 3) pe_str (fun _ _ => rfl)))
          (blkOk_by (own := [("_law_row_here", 6)]) (N := ["_law_script", "_law_k", "_law_sizes", "_law_plan", "_law_table", "_law_lines_here", "_law_row_here", "_law_word"]) (sc := defScope s_law_texted) (by decide +kernel))
          (fun _ _ _ _ _ => pg_name (i := 6) nd rfl (Or.inl rfl)) (fun _ _ _ _ _ => pts_nil) (fun _ _ _ _ _ => pe_c (c_named T 4) hr5 (pa_cons (pv 6) (pa_cons (pv 4) pa_nil)))) rfl)
    (pss_cons (ps_dput hu (pv 3) pe_str (pe_lc (own := [("_law_word", 7)]) (g := gName 7) (by rfl) nd (pi_list (pe_dget hu (pv 3) pe_str (fun _ _ => rfl)))
          (blkOk_by (own := [("_law_word", 7)]) (N := ["_law_script", "_law_k", "_law_sizes", "_law_plan", "_law_table", "_law_lines_here", "_law_row_here", "_law_word"]) (sc := defScope s_law_texted) (by decide +kernel))
          (fun _ _ _ _ _ => pg_name (i := 7) nd rfl (Or.inl rfl)) (fun _ _ _ _ _ => pts_nil) (fun _ _ _ _ _ => pe_dget2 hu (pv 4) (pv 7) (pv 7) ⟨rfl, rfl, rfl, rfl⟩)) rfl)
    (pss_cons (ps_dput hu (pv 3) pe_str (pe_lc (own := [("_law_word", 7)]) (g := gName 7) (by rfl) nd (pi_list (pe_dget hu (pv 3) pe_str (fun _ _ => rfl)))
          (blkOk_by (own := [("_law_word", 7)]) (N := ["_law_script", "_law_k", "_law_sizes", "_law_plan", "_law_table", "_law_lines_here", "_law_row_here", "_law_word"]) (sc := defScope s_law_texted) (by decide +kernel))
          (fun _ _ _ _ _ => pg_name (i := 7) nd rfl (Or.inl rfl)) (fun _ _ _ _ _ => pts_nil) (fun _ _ _ _ _ => pe_dget2 hu (pv 4) (pv 7) (pv 7) ⟨rfl, rfl, rfl, rfl⟩)) rfl)
    (pss_cons (ps_set (i := 5) nd rfl (Or.inl rfl) (pe_lst (pa_cons (pe_join pe_str (pe_op op_cat (pe_lst (pa_cons pe_str pa_nil)) (pe_dget hu (pv 3) pe_str (fun _ _ => rfl)))) (pa_cons (pe_join pe_str (pe_op op_cat (pe_lst (pa_cons pe_str pa_nil)) (pe_dget hu (pv 3) pe_str (fun _ _ => rfl)))) pa_nil))))
    (pss_cons (ps_expr (pe_bm PySem.F.plainAttrs_list PySem.F.slot_list_append PySem.F.type_list_append mt_append (pv 5) (pa_cons (pe_join pe_str (pe_op op_cat (pe_lst (pa_cons pe_str pa_nil)) (pe_dget hu (pv 3) pe_str (fun _ _ => rfl)))) pa_nil)))
    (pss_cons (ps_dput hu (pv 3) pe_str (pe_op op_cat (pv 5) (pe_c (c_law_lines T 4) hr4 (pa_cons (pe_dget hu (pv 3) pe_str (fun _ _ => rfl)) (pa_cons pe_str pa_nil)))) rfl)
    (pss_one (ps_ret (pv 3)))))))))), ?_⟩
  refine ⟨_, rfl, _, rfl, _, rfl, sc, sz, ns, rfl, hsc, hsz, fun d words ins fs outs rs H1 g1 G hP ndd => ?_⟩
  refine ⟨_, rfl, _, rfl, 0, 13, rfl, rfl, sc, ns, 13, rfl, sqL_same g1 hsc, by decide, fun st H2 g2 nst hst => ?_⟩
  have hP2 : PlnAt K H2 d words fs ins outs rs := by
    obtain ⟨L, n, wl, fl, il, ol, bl, bd, hn, hL, l0, l3, l11, l12, l13, hwl, hfl, hil, hol, hbl⟩ := hP.ex
    exact ⟨⟨L, n, wl, fl, il, ol, bl, bd.same g2, hn, hL, l0, l3, l11, l12, l13, g2 _ _ hwl, g2 _ _ hfl, g2 _ _ hil, g2 _ _ hol, dp_same g2 hbl⟩, hP.w5, hP.wn⟩
  refine ⟨_, rfl, st, d, words, fs, ins, outs, rs, rfl, hst, hP2, G.w, fun tb τ H3 k3 ntb hT hτ => ?_⟩
  have g3 : Same H1 H3 := fun b o e => k3 b o (g2 _ _ e) (fun hm => by rw [List.mem_singleton.mp hm, nst] at e; cases e)
  obtain ⟨L, n, wl, fl, il, ol, bl, bd, hn, hL, l0, l3, l11, l12, l13, hwl, hfl, hil, hol, hbl⟩ := hP.ex
  have bd3 := bd.same g3
  have fl3 := g3 _ _ hfl
  have il3 := g3 _ _ hil
  have ol3 := g3 _ _ hol
  have bl3 := dp_same g3 hbl
  have g03 : Same H H3 := g1.trans g3
  have ntd : tb ≠ d := fun z => by
    obtain ⟨kvs, h0, _⟩ := bd.ex
    have := g2 _ _ h0
    rw [← z, ntb] at this
    cases this
  clear bd hwl hfl hil hol hbl hP2 hP k3 g2 hst
  obtain ⟨bx, hbx, dbx⟩ : ∃ xs, SqL K H3 bl xs ∧ DpAll K H3 xs (dL rs) := by
    cases bl3 with
    | lst a b => exact ⟨_, a, b⟩
  have lbx : bx.length = rs.length := by rw [dA_len dbx, dL_length]
  have few : szL rs ≤ 20 := G.sz
  -- body
  refine ⟨_, rfl, d, _, rfl, bd3.get (i := 13) l13, bl, rfl, ⟨_, hbx⟩, fun D nD => ?_⟩
  refine lc_it (walk_list (K := K) (a := bl) (xs := bx)) (fun j H' => Same H3 H' ∧ ∃ us, H' D = some (.lst us) ∧ DpAll K (hid [D] H') us (dL (nmL τ (rs.take j)))) ⟨same_new nD _, [], upd_same, by rw [List.take_zero, nmL, dL]; exact .nil⟩ (fun j H' _ z => sqL_same z.1 hbx) ?_ ?_
  · rintro j y J0 J hj ⟨gJ, us, hD, dus⟩ ⟨rfl, hx⟩
    obtain ⟨r, hr0, hdr⟩ := dA_row dbx hx
    have okr := okL_at G.ok hr0
    obtain ⟨t2, _, rfl, _⟩ := word_at hdr okr
    have hh2 : htR r + 1 ≤ htL rs := htR_mem hr0
    have hs2 := szR_mem hr0
    have ght := G.ht
    have sg := hid_cons (M := []) nD gJ
    rw [hid_nil] at sg
    have lus : us.length = (nmL τ (rs.take j)).length := by rw [dA_len dus, dL_length]
    refine ⟨rfl, _, rfl, _, rfl, t2, tb, r, words, fs, τ, [D], rfl, (fun b hb => by rw [List.mem_singleton.mp hb]; exact ⟨_, hD⟩), dp_same sg hdr, okr, hT.same gJ, by omega, by omega, fun t' J2 gJ2 dt => ⟨us, gJ2 _ _ hD, ?_, same_upd (gJ.trans gJ2) nD _, us ++ [.ref t'], upd_same, ?_⟩⟩
    · rw [lus, nmL_map, List.length_map, List.length_take]
      have := len_le_szL rs
      exact small1000 (by omega)
    · rw [hid_upd (List.mem_cons_self ..), take_get hr0, nmL_map, List.map_append, ← nmL_map, dL_append]
      exact dA_app (by rw [List.map_cons, List.map_nil, dL, dL]; exact .cons dt .nil) (dpAll_same (hid_same gJ2) dus)
  rintro J ⟨gJ, us, hD, dus⟩
  rw [lbx, List.take_length] at dus
  have bdJ := bd3.same gJ
  obtain ⟨o1, p1, bd4⟩ := bdJ.put 13 (.ref D) (by rw [hL]; decide) (by rw [hL]; decide) (by omega)
  refine ⟨_, rfl, d, _, rfl, p1, ?_⟩
  have dJ : Dp K J (.ref D) (.list (dL (nmL τ rs))) := .lst (SqL.of hD) (dpAll_same (hid_le _ _) dus)
  obtain ⟨kvJ, eJ, _⟩ := bdJ.ex
  have ne4 : ∀ {a : Addr} {xs : List V}, J a = some (.lst xs) → upd J d o1 a = some (.lst xs) := fun e => by rw [upd_ne fun z => by rw [z, eJ] at e; cases e]; exact e
  have D4 : Dp K (upd J d o1) (.ref D) (.list (dL (nmL τ rs))) := dp_keeps (keepsD eJ (Kept.upd (List.mem_singleton.mpr rfl))) _ _ dJ
  have fl4 := ne4 (gJ _ _ fl3)
  have il4 := ne4 (gJ _ _ il3)
  have ol4 := ne4 (gJ _ _ ol3)
  have hT4 : TabAt (upd J d o1) tb τ := by
    obtain ⟨kvs, h0, h1⟩ := hT.ex
    exact ⟨kvs, by rw [upd_ne ntd]; exact gJ _ _ h0, h1⟩
  have g04 : Same H (upd J d o1) := same_upd (g03.trans gJ) (ndd) _
  revert bd4 D4 fl4 il4 ol4 hT4 g04
  generalize upd J d o1 = H4
  intro bd4 D4 fl4 il4 ol4 hT4 g04
  clear p1 ne4 dJ eJ bdJ hD dus gJ hbx dbx bl3 bd3 fl3 il3 ol3 hT g3
  have li3 := G.i3
  have lo3 := G.o3
  have m3 : (L.set 13 (some (.ref D)))[3]? = some (some (.ref fl)) := by rw [List.getElem?_set_ne (by decide)]; exact l3
  have m11 : (L.set 13 (some (.ref D)))[11]? = some (some (.ref il)) := by rw [List.getElem?_set_ne (by decide)]; exact l11
  have m12 : (L.set 13 (some (.ref D)))[12]? = some (some (.ref ol)) := by rw [List.getElem?_set_ne (by decide)]; exact l12
  have m13 : (L.set 13 (some (.ref D)))[13]? = some (some (.ref D)) := List.getElem?_set_self (by rw [hL]; decide)
  have mL : (L.set 13 (some (.ref D))).length = 15 := by rw [List.length_set, hL]
  revert bd4 m3 m11 m12 m13 mL
  generalize L.set 13 (some (.ref D)) = L4
  intro bd4 m3 m11 m12 m13 mL
  -- inputs
  refine ⟨_, rfl, d, _, rfl, bd4.get (i := 11) m11, il, rfl, ⟨_, SqL.of il4⟩, fun D2 nD2 => ?_⟩
  refine lc_it (walk_list (K := K) (a := il) (xs := ins.map V.str)) (fun j H' => Same H4 H' ∧ H' D2 = some (.lst (((ins.take j).map τ).map V.str))) ⟨same_new nD2 _, upd_same⟩ (fun j H' _ z => SqL.of (z.1 _ _ il4)) ?_ ?_
  · rintro j y J0 J hj ⟨gJ, hD⟩ ⟨rfl, hx⟩
    obtain ⟨x, hx0, rfl⟩ := map_get hx
    rw [List.length_map] at hj
    obtain ⟨kvs, htb, hmap⟩ := (hT4.same gJ).ex
    refine ⟨rfl, _, rfl, tb, rfl, .inl ⟨kvs, .inl htb⟩, _, rfl, _, rfl, _, DGet.k (k := .inr x) htb, ?_⟩
    rw [hmap x]
    refine ⟨_, hD, by rw [List.length_map, List.length_map, List.length_take]; exact small1000 (by omega), same_upd gJ nD2 _, ?_⟩
    rw [upd_same, take_get hx0, List.map_append, List.map_append] <;> rfl
  rintro J ⟨gJ, hD⟩
  rw [List.length_map, List.take_length] at hD
  have bdJ := bd4.same gJ
  obtain ⟨o2, p2, bd5⟩ := bdJ.put 11 (.ref D2) (by rw [mL]; decide) (by rw [mL]; decide) (by omega)
  refine ⟨_, rfl, d, _, rfl, p2, ?_⟩
  obtain ⟨kvJ, eJ, _⟩ := bdJ.ex
  have ne5 : ∀ {a : Addr} {xs : List V}, J a = some (.lst xs) → upd J d o2 a = some (.lst xs) := fun e => by rw [upd_ne fun z => by rw [z, eJ] at e; cases e]; exact e
  have D5 : Dp K (upd J d o2) (.ref D) (.list (dL (nmL τ rs))) := dp_keeps (keepsD eJ (Kept.upd (List.mem_singleton.mpr rfl))) _ _ (dp_same gJ D4)
  have fl5 := ne5 (gJ _ _ fl4)
  have il5 := ne5 hD
  have ol5 := ne5 (gJ _ _ ol4)
  have hT5 : TabAt (upd J d o2) tb τ := by
    obtain ⟨kvs, h0, h1⟩ := hT4.ex
    exact ⟨kvs, by rw [upd_ne ntd]; exact gJ _ _ h0, h1⟩
  have g05 : Same H (upd J d o2) := same_upd (g04.trans gJ) ndd _
  revert bd5 D5 fl5 il5 ol5 hT5 g05
  generalize upd J d o2 = H5
  intro bd5 D5 fl5 il5 ol5 hT5 g05
  clear p2 ne5 eJ bdJ hD gJ bd4 D4 fl4 il4 ol4 hT4 g04
  have q3 : (L4.set 11 (some (.ref D2)))[3]? = some (some (.ref fl)) := by rw [List.getElem?_set_ne (by decide)]; exact m3
  have q11 : (L4.set 11 (some (.ref D2)))[11]? = some (some (.ref D2)) := List.getElem?_set_self (by rw [mL]; decide)
  have q12 : (L4.set 11 (some (.ref D2)))[12]? = some (some (.ref ol)) := by rw [List.getElem?_set_ne (by decide)]; exact m12
  have q13 : (L4.set 11 (some (.ref D2)))[13]? = some (some (.ref D)) := by rw [List.getElem?_set_ne (by decide)]; exact m13
  have qL : (L4.set 11 (some (.ref D2))).length = 15 := by rw [List.length_set, mL]
  revert bd5 q3 q11 q12 q13 qL
  generalize L4.set 11 (some (.ref D2)) = L5
  intro bd5 q3 q11 q12 q13 qL
  -- outputs
  refine ⟨_, rfl, d, _, rfl, bd5.get (i := 12) q12, ol, rfl, ⟨_, SqL.of ol5⟩, fun D3 nD3 => ?_⟩
  refine lc_it (walk_list (K := K) (a := ol) (xs := outs.map V.str)) (fun j H' => Same H5 H' ∧ H' D3 = some (.lst (((outs.take j).map τ).map V.str))) ⟨same_new nD3 _, upd_same⟩ (fun j H' _ z => SqL.of (z.1 _ _ ol5)) ?_ ?_
  · rintro j y J0 J hj ⟨gJ, hD⟩ ⟨rfl, hx⟩
    obtain ⟨x, hx0, rfl⟩ := map_get hx
    rw [List.length_map] at hj
    obtain ⟨kvs, htb, hmap⟩ := (hT5.same gJ).ex
    refine ⟨rfl, _, rfl, tb, rfl, .inl ⟨kvs, .inl htb⟩, _, rfl, _, rfl, _, DGet.k (k := .inr x) htb, ?_⟩
    rw [hmap x]
    refine ⟨_, hD, by rw [List.length_map, List.length_map, List.length_take]; exact small1000 (by omega), same_upd gJ nD3 _, ?_⟩
    rw [upd_same, take_get hx0, List.map_append, List.map_append] <;> rfl
  rintro J ⟨gJ, hD⟩
  rw [List.length_map, List.take_length] at hD
  have bdJ := bd5.same gJ
  obtain ⟨o3, p3, bd6⟩ := bdJ.put 12 (.ref D3) (by rw [qL]; decide) (by rw [qL]; decide) (by omega)
  refine ⟨_, rfl, d, _, rfl, p3, ?_⟩
  obtain ⟨kvJ, eJ, _⟩ := bdJ.ex
  have ne6 : ∀ {a : Addr} {xs : List V}, J a = some (.lst xs) → upd J d o3 a = some (.lst xs) := fun e => by rw [upd_ne fun z => by rw [z, eJ] at e; cases e]; exact e
  have D6 : Dp K (upd J d o3) (.ref D) (.list (dL (nmL τ rs))) := dp_keeps (keepsD eJ (Kept.upd (List.mem_singleton.mpr rfl))) _ _ (dp_same gJ D5)
  have fl6 := ne6 (gJ _ _ fl5)
  have il6 := ne6 (gJ _ _ il5)
  have ol6 := ne6 hD
  have g06 : Same H (upd J d o3) := same_upd (g05.trans gJ) ndd _
  revert bd6 D6 fl6 il6 ol6 g06
  generalize upd J d o3 = H6
  intro bd6 D6 fl6 il6 ol6 g06
  clear p3 ne6 eJ bdJ hD gJ bd5 D5 fl5 il5 ol5 hT5 g05
  have w3 : (L5.set 12 (some (.ref D3)))[3]? = some (some (.ref fl)) := by rw [List.getElem?_set_ne (by decide)]; exact q3
  have w11 : (L5.set 12 (some (.ref D3)))[11]? = some (some (.ref D2)) := by rw [List.getElem?_set_ne (by decide)]; exact q11
  have w12 : (L5.set 12 (some (.ref D3)))[12]? = some (some (.ref D3)) := List.getElem?_set_self (by rw [qL]; decide)
  have w13 : (L5.set 12 (some (.ref D3)))[13]? = some (some (.ref D)) := by rw [List.getElem?_set_ne (by decide)]; exact q13
  have wL : (L5.set 12 (some (.ref D3))).length = 15 := by rw [List.length_set, qL]
  revert bd6 w3 w11 w12 w13 wL
  generalize L5.set 12 (some (.ref D3)) = L6
  intro bd6 w3 w11 w12 w13 wL
  have G' := G.named hτ
  revert G' D6 il6 ol6
  generalize nmL τ rs = rs'
  generalize ins.map τ = ins'
  generalize outs.map τ = outs'
  generalize words.map τ = W'
  intro D6 il6 ol6 G'
  have wd1 : ∀ {x : Str} {xs : List Str}, isW x → (∀ z ∈ xs, isW z) → ∀ z ∈ x :: xs, Wd z := fun hx h z hz => by
    rcases List.mem_cons.mp hz with rfl | hz
    · exact hx.wd
    · exact (h z hz).wd
  have i3' := G'.i3
  have f2' := G'.f2
  have o3' := G'.o3
  refine ⟨⟨_, rfl⟩, (by show 1 ≤ sizeLine; decide), fun a1 m1 => ⟨_, rfl, d, _, rfl, (bd6.same (same_new m1 _)).get (i := 11) w11, a1, D2, _, _, rfl, rfl, upd_same, same_new m1 _ _ _ il6, by rw [List.length_map]; exact small_line (by show 1 + _ ≤ 1000; omega), fun b1 mb1 => ⟨_, b1, Str.ofString "inputs" :: ins', rfl, rfl, .inl (SqL.of upd_same), join_small (wd1 head_isW.1 fun z hz => G'.w z (G'.i z hz)) (by rw [List.length_cons]; omega), ?_⟩⟩⟩
  have j1 := (same_new m1 (.lst [.str (Str.ofString "inputs")])).trans (same_new mb1 (.lst ([.str (Str.ofString "inputs")] ++ ins'.map V.str)))
  refine ⟨⟨_, rfl⟩, (by show 1 ≤ sizeLine; decide), fun a2 m2 => ⟨_, rfl, d, _, rfl, ((bd6.same j1).same (same_new m2 _)).get (i := 3) w3, a2, fl, _, _, rfl, rfl, upd_same, same_new m2 _ _ _ (j1 _ _ fl6), by rw [List.length_map]; exact small_line (by show 1 + _ ≤ 1000; omega), fun b2 mb2 => ⟨_, b2, Str.ofString "fields" :: fs, rfl, rfl, .inl (SqL.of upd_same), join_small (wd1 head_isW.2.1 G'.f) (by rw [List.length_cons]; omega), ?_⟩⟩⟩
  have j2 := j1.trans ((same_new m2 (.lst [.str (Str.ofString "fields")])).trans (same_new mb2 (.lst ([.str (Str.ofString "fields")] ++ fs.map V.str))))
  refine ⟨(by show 2 ≤ sizeLine; decide), fun ll nll => ?_⟩
  have j3 := j2.trans (same_new nll (.lst [.str (Txt.join sp1 (Str.ofString "inputs" :: ins')), .str (Txt.join sp1 (Str.ofString "fields" :: fs))]))
  have nll6 := j2.free nll
  have hll := @upd_same (upd (upd (upd (upd H6 a1 (.lst [.str (Str.ofString "inputs")])) b1 (.lst ([.str (Str.ofString "inputs")] ++ ins'.map V.str))) a2 (.lst [.str (Str.ofString "fields")])) b2 (.lst ([.str (Str.ofString "fields")] ++ fs.map V.str))) ll (.lst [.str (Txt.join sp1 (Str.ofString "inputs" :: ins')), .str (Txt.join sp1 (Str.ofString "fields" :: fs))])
  refine ⟨_, rfl, .inl ⟨rfl, _, SqL.of hll⟩, ⟨_, rfl⟩, (by show 1 ≤ sizeLine; decide), fun a4 m4 => ⟨_, rfl, d, _, rfl, ((bd6.same j3).same (same_new m4 _)).get (i := 12) w12, a4, D3, _, _, rfl, rfl, upd_same, same_new m4 _ _ _ (j3 _ _ ol6), by rw [List.length_map]; exact small_line (by show 1 + _ ≤ 1000; omega), fun b4 mb4 => ⟨_, b4, Str.ofString "outputs" :: outs', rfl, rfl, .inl (SqL.of upd_same), join_small (wd1 head_isW.2.2 fun z hz => G'.w z (G'.o z hz)) (by rw [List.length_cons]; omega), ?_⟩⟩⟩
  have j4 := (same_new m4 (.lst [.str (Str.ofString "outputs")])).trans (same_new mb4 (.lst ([.str (Str.ofString "outputs")] ++ outs'.map V.str)))
  refine ⟨ll, _, _, rfl, rfl, j4 _ _ hll, (by show 2 < sizeLine; decide), ?_⟩
  have g07 := same_upd (g06.trans (j3.trans j4)) (g06.free nll6) (.lst ([.str (Txt.join sp1 (Str.ofString "inputs" :: ins')), .str (Txt.join sp1 (Str.ofString "fields" :: fs))] ++ [.str (Txt.join sp1 (Str.ofString "outputs" :: outs'))]))
  have j7 := same_upd (j3.trans j4) nll6 (.lst ([.str (Txt.join sp1 (Str.ofString "inputs" :: ins')), .str (Txt.join sp1 (Str.ofString "fields" :: fs))] ++ [.str (Txt.join sp1 (Str.ofString "outputs" :: outs'))]))
  have lnb := lnL_len Str.empty rs'
  have sz' := G'.sz
  have ht' := G'.ht
  refine ⟨_, rfl, _, rfl, d, _, rfl, (bd6.same j7).get (i := 13) w13, D, Str.empty, rs', W', fs, rfl, dp_same j7 D6, G'.ok, G'.w, G'.f, ht', by omega, by show 0 + _ ≤ 900; omega, fun lp J8 g8 nlp hlp => ?_⟩
  refine ⟨ll, lp, _, _, rfl, rfl, g8 _ _ upd_same, hlp, by rw [List.length_map]; exact small_line (by show 3 + _ ≤ 1000; omega), fun p9 n9 => ?_⟩
  have j9 := (j7.trans g8).trans (same_new n9 (.lst ([.str (Txt.join sp1 (Str.ofString "inputs" :: ins')), .str (Txt.join sp1 (Str.ofString "fields" :: fs))] ++ [.str (Txt.join sp1 (Str.ofString "outputs" :: outs'))] ++ (lnL Str.empty rs').map V.str)))
  have bd9 := bd6.same j9
  obtain ⟨o4, p4, bd10⟩ := bd9.put 14 (.ref p9) (by rw [wL]; decide) (by rw [wL]; decide) (by omega)
  refine ⟨_, rfl, d, _, rfl, p4, ?_⟩
  obtain ⟨kvJ, eJ, _⟩ := bd9.ex
  have neF : ∀ {a : Addr} {xs : List V}, (upd J8 p9 (.lst ([.str (Txt.join sp1 (Str.ofString "inputs" :: ins')), .str (Txt.join sp1 (Str.ofString "fields" :: fs))] ++ [.str (Txt.join sp1 (Str.ofString "outputs" :: outs'))] ++ (lnL Str.empty rs').map V.str))) a = some (.lst xs) → upd (upd J8 p9 (.lst ([.str (Txt.join sp1 (Str.ofString "inputs" :: ins')), .str (Txt.join sp1 (Str.ofString "fields" :: fs))] ++ [.str (Txt.join sp1 (Str.ofString "outputs" :: outs'))] ++ (lnL Str.empty rs').map V.str))) d o4 a = some (.lst xs) := fun e => by
    rw [upd_ne fun z => by rw [z, eJ] at e; cases e]
    exact e
  refine ⟨_, rfl, q d W' ins' fs outs' rs' _ (same_upd (g06.trans j9) ndd _) G' ⟨_, _, fl, D2, D3, D, p9, bd10, by rw [List.getElem?_set_ne (by decide)]; exact w3, by rw [List.getElem?_set_ne (by decide)]; exact w11, by rw [List.getElem?_set_ne (by decide)]; exact w12, by rw [List.getElem?_set_ne (by decide)]; exact w13, List.getElem?_set_self (by rw [wL]; decide), neF (j9 _ _ fl6), neF (j9 _ _ il6), neF (j9 _ _ ol6), dp_keeps (keepsD eJ (Kept.upd (List.mem_singleton.mpr rfl))) _ _ (dp_same j9 D6), neF (by rw [upd_same, allL, List.map_append] <;> rfl)⟩⟩
end
end Tw

set_option Elab.async false
set_option maxRecDepth 100000
set_option maxHeartbeats 4000000
/-! G1: what repr of rows asks. -/
namespace Tw
open PySem PySem.Spec L2 TL PyProof.Rows
theorem sh_app : ∀ {a b : List PyData}, PyData.showableAll a = true → PyData.showableAll b = true → PyData.showableAll (a ++ b) = true
  | [], _, _, h => h
  | x :: a, b, h, h' => by
    rw [PyData.showableAll, Bool.and_eq_true] at h
    rw [List.cons_append, PyData.showableAll, h.1, sh_app h.2 h'] <;> rfl
theorem is_app : ∀ {a b : List PyData}, PyData.intsShortAll 13 a = true → PyData.intsShortAll 13 b = true → PyData.intsShortAll 13 (a ++ b) = true
  | [], _, _, h => h
  | x :: a, b, h, h' => by
    rw [PyData.intsShortAll, Bool.and_eq_true] at h
    rw [List.cons_append, PyData.intsShortAll, h.1, is_app h.2 h'] <;> rfl
theorem wt_app : ∀ a b : List PyData, PyData.weightAll (a ++ b) = PyData.weightAll a + PyData.weightAll b
  | [], b => by rw [List.nil_append, PyData.weightAll, Nat.zero_add]
  | x :: a, b => by rw [List.cons_append, PyData.weightAll, PyData.weightAll, wt_app a b, Nat.add_assoc, Nat.add_assoc, Nat.add_assoc]
theorem sh_strs : ∀ xs : List Str, PyData.showableAll (xs.map PyData.str) = true ∧ PyData.intsShortAll 13 (xs.map PyData.str) = true
  | [] => ⟨rfl, rfl⟩
  | x :: xs => by
    obtain ⟨h1, h2⟩ := sh_strs xs
    rw [List.map_cons, PyData.showableAll, PyData.intsShortAll, h1, h2]
    exact ⟨rfl, rfl⟩
theorem wt_strs : ∀ {xs : List Str}, (∀ x ∈ xs, isW x) → PyData.weightAll (xs.map PyData.str) ≤ 9 * xs.length
  | [], _ => Nat.le_refl _
  | x :: xs, h => by
    have h1 := wt_strs fun y hy => h y (List.mem_cons_of_mem x hy)
    have h2 : x.cps.size ≤ 8 := (h x (List.mem_cons_self ..)).2.1
    rw [List.map_cons, PyData.weightAll, PyData.weight, List.length_cons]
    omega
theorem int_few : ∀ n, n < 5 → PyData.showable (.int (n : Nat)) = true ∧ PyData.intsShort 13 (.int (n : Nat)) = true ∧ PyData.weight (.int (n : Nat)) ≤ 8 := by decide +kernel
theorem atom_few {a : Atom} (h : AtOk a) : PyData.showable a.d = true ∧ PyData.intsShort 13 a.d = true ∧ PyData.weight a.d ≤ 8 := by
  cases a with
  | s x => exact ⟨rfl, rfl, h.2.1⟩
  | n k => exact int_few k h
theorem atoms_few : ∀ {as : List Atom}, (∀ a ∈ as, AtOk a) → PyData.showableAll (as.map Atom.d) = true ∧ PyData.intsShortAll 13 (as.map Atom.d) = true ∧ PyData.weightAll (as.map Atom.d) ≤ 9 * as.length
  | [], _ => ⟨rfl, rfl, Nat.le_refl _⟩
  | a :: as, h => by
    obtain ⟨h1, h2, h3⟩ := atom_few (h a (List.mem_cons_self ..))
    obtain ⟨k1, k2, k3⟩ := atoms_few fun b hb => h b (List.mem_cons_of_mem a hb)
    rw [List.map_cons, PyData.showableAll, PyData.intsShortAll, PyData.weightAll, h1, h2, k1, k2, List.length_cons]
    exact ⟨rfl, rfl, by omega⟩
mutual
theorem fewR {W F : List Str} (hW : ∀ x ∈ W, isW x) (hF : ∀ x ∈ F, isW x) : ∀ r : Row, okR W F r → PyData.showable (dR r) = true ∧ PyData.intsShort 13 (dR r) = true ∧ PyData.weight (dR r) + 1 ≤ 61 * szR r
  | .leaf w ps, ok => by
    have hp := parts_ok hW hF ok
    rw [okR] at ok
    obtain ⟨sh, h1, h2⟩ := ok
    obtain ⟨k1, k2, k3⟩ := atoms_few (as := ps) hp.2.1
    have l4 : ps.length ≤ 4 := hp.2.2.2.2
    have hw : w.cps.size ≤ 8 := (leafW _ h1).2.1
    rw [dR, PyData.showable, PyData.showableAll, PyData.intsShort, PyData.intsShortAll, PyData.weight, PyData.weightAll, PyData.weight, k1, k2, szR]
    exact ⟨rfl, rfl, by omega⟩
  | .node w vs a b, ok => by
    rw [okR] at ok
    obtain ⟨h1, h2, h3, h4⟩ := ok
    obtain ⟨a1, a2, a3⟩ := fewL hW hF a h3
    obtain ⟨b1, b2, b3⟩ := fewL hW hF b h4
    have l4 : vs.length ≤ 4 := (node_few _ h1).1
    have hw : w.cps.size ≤ 8 := (nodeW _ h1).2.1
    have hv := wt_strs fun x hx => hW x (h2 x hx)
    obtain ⟨v1, v2⟩ := sh_strs vs
    have e1 : PyData.showableAll (vs.map PyData.str ++ [PyData.list (dL a), PyData.list (dL b)]) = true := sh_app v1 (by rw [PyData.showableAll, PyData.showableAll, PyData.showableAll, PyData.showable, PyData.showable, a1, b1] <;> rfl)
    have e2 : PyData.intsShortAll 13 (vs.map PyData.str ++ [PyData.list (dL a), PyData.list (dL b)]) = true := is_app v2 (by rw [PyData.intsShortAll, PyData.intsShortAll, PyData.intsShortAll, PyData.intsShort, PyData.intsShort, a2, b2] <;> rfl)
    have e3 : PyData.weightAll [PyData.list (dL a), PyData.list (dL b)] = PyData.weightAll (dL a) + 1 + (PyData.weightAll (dL b) + 1 + 0) := by rw [PyData.weightAll, PyData.weightAll, PyData.weightAll, PyData.weight, PyData.weight]
    rw [dR, PyData.showable, PyData.showableAll, PyData.intsShort, PyData.intsShortAll, PyData.weight, PyData.weightAll, PyData.weight, e1, e2, wt_app, e3, szR]
    exact ⟨rfl, rfl, by omega⟩
theorem fewL {W F : List Str} (hW : ∀ x ∈ W, isW x) (hF : ∀ x ∈ F, isW x) : ∀ l : List Row, okL W F l → PyData.showableAll (dL l) = true ∧ PyData.intsShortAll 13 (dL l) = true ∧ PyData.weightAll (dL l) ≤ 61 * szL l
  | [], _ => by rw [dL]; exact ⟨rfl, rfl, Nat.zero_le _⟩
  | r :: rs, ok => by
    rw [okL] at ok
    obtain ⟨a1, a2, a3⟩ := fewR hW hF r ok.1
    obtain ⟨b1, b2, b3⟩ := fewL hW hF rs ok.2
    have s1 : 1 ≤ szR r := by cases r <;> rw [szR] <;> omega
    rw [dL, PyData.showableAll, PyData.intsShortAll, PyData.weightAll, a1, a2, b1, b2, szL]
    exact ⟨rfl, rfl, by omega⟩
end
/-- what repr wants of the rows -/
theorem show_rows {W ins fs outs : List Str} {rs : List Row} (G : Prg W ins fs outs rs) : PyData.showable (.list (dL rs)) = true ∧ PyData.hasDict (.list (dL rs)) = false ∧ PyData.depth (.list (dL rs)) ≤ 64 ∧ (PyData.shown (.list (dL rs))).length ≤ sizeLine := by
  obtain ⟨h1, h2, h3⟩ := fewL G.w G.f rs G.ok
  obtain ⟨k1, k2⟩ := layL G.w G.f rs G.ok
  have ht := G.ht
  have sz := G.sz
  have c0 : PyData.canLay0 (.list (dL rs)) = true := by rw [PyData.canLay0]; exact k1
  have dp : PyData.depth (.list (dL rs)) ≤ 64 := by rw [PyData.depth]; omega
  have ly : PyData.layable0 (.list (dL rs)) = true := by
    unfold PyData.layable0
    rw [c0, decide_eq_true dp, PyData.weight, decide_eq_true (by omega)] <;> rfl
  refine ⟨by rw [PyData.showable]; exact h1, PyData.hasDict_of_canLay _ c0, dp, Nat.le_trans (shown_le13 ly (by rw [PyData.intsShort]; exact h2)) (by decide)⟩
end Tw

set_option Elab.async false
set_option maxRecDepth 100000
set_option maxHeartbeats 4000000
/-! G2: the law. -/
namespace Tw
open PySem PySem.Spec L2 TL PyProof.Rows
theorem lay_ints : ∀ xs : List Int, PyData.canLayAll0 (xs.map PyData.int) = true ∧ PyData.depthAll (xs.map PyData.int) = 0
  | [] => ⟨rfl, rfl⟩
  | x :: xs => by
    obtain ⟨h1, h2⟩ := lay_ints xs
    rw [List.map_cons, PyData.canLayAll0, PyData.depthAll, h1, h2]
    exact ⟨rfl, rfl⟩
theorem lay_places : ∀ l : List (List Int × Row), PyData.canLayAll0 (l.map fun q => PyData.tuple (q.1.map PyData.int)) = true ∧ PyData.depthAll (l.map fun q => PyData.tuple (q.1.map PyData.int)) ≤ 1
  | [] => ⟨rfl, Nat.zero_le _⟩
  | q :: l => by
    obtain ⟨h1, h2⟩ := lay_places l
    obtain ⟨k1, k2⟩ := lay_ints q.1
    rw [List.map_cons, PyData.canLayAll0, PyData.canLay0, PyData.depthAll, PyData.depth, h1, k1, k2]
    exact ⟨rfl, by omega⟩
theorem shaped_places (rs : List Row) : SeqAt.shaped (.list (plcD rs)) = true ∧ PyData.eqv (.list (plcD rs)) (.list (plcD rs)) = true := by
  obtain ⟨h1, h2⟩ := lay_places (plL [] 0 rs)
  have c0 : PyData.canLay0 (.list (plcD rs)) = true := by rw [PyData.canLay0]; exact h1
  refine ⟨?_, SeqAt.eqv_refl _ c0⟩
  unfold SeqAt.shaped
  rw [c0, PyData.depth, plcD, decide_eq_true (by omega)] <;> rfl
section
variable {P : Program} {w : World} {K : PySem.W.Frag} {mg : Str → Option Value} {base : Heap}
theorem sc_law : FnScope ["_law_script", "_law_plan", "_law_after", "_law_program_here", "_law_text", "_law_told", "_law_back"] ["_law_script"] (defScope s_law) := ⟨rfl, rfl, rfl, by decide +kernel, rfl, by decide +kernel, by decide +kernel⟩
theorem law_body (T : Txt w K mg) {f : Addr} {cdv : Value} {A : Around} {outer : List Env} {s : Shared} {H : Hp} {Q : VK} {E : XK} (hr : Room 13 (A.deeper (envOfC "law" (defScope s_law) s.heap.objs.size f cdv))) (hg : (A.deeper (envOfC "law" (defScope s_law) s.heap.objs.size f cdv)).guards = some [])
    {sc : Addr} {ns : List Int} (hsc : SqL K H sc (ns.map V.int)) (q : ∀ H', Q (.bl true) H') :
    ∃ t, PSs (cxOf CX0 P w K mg base ["_law_script", "_law_plan", "_law_after", "_law_program_here", "_law_text", "_law_told", "_law_back"] "law" (defScope s_law) f cdv A outer s H E).nox (defBody s_law) t ∧
      t { nx := fun _ H' => Q .non H', rt := Q } (start ["_law_script", "_law_plan", "_law_after", "_law_program_here", "_law_text", "_law_told", "_law_back"] [.ref sc]) H := by
  have nd := sc_law.nd
  have hu := hu_of hr
  have hu64 := hr.units
  have hu66 : (A.deeper (envOfC "law" (defScope s_law) s.heap.objs.size f cdv)).units + 66 < cLine := by have := hr.un; omega
  have hr1 : Room 1 _ := hr.mono (by decide)
  have hr6 : Room 6 _ := hr.mono (by decide)
  have hr7 : Room 7 _ := hr.mono (by decide)
  have hr10 : Room 10 _ := hr.mono (by decide)
  have hr11 : Room 11 _ := hr.mono (by decide)
  obtain ⟨f1, fd1, F1, m1, b1⟩ := (m_rows (P := P) (base := base) T).ex
  obtain ⟨f2, fd2, F2, m2, b2⟩ := (m_places (P := P) (base := base) T).ex
  obtain ⟨f3, fd3, F3, m3, b3⟩ := (m_eq (P := P) (base := base) T).ex
  obtain ⟨f5, fd5, F5, m5, e5, b5⟩ := (m_init (P := P) (base := base) T).ex
  have M5 := T.mk_Program
  rw [← e5] at M5
  have RE : RcG (cxOf CX0 P w K mg base ["_law_script", "_law_plan", "_law_after", "_law_program_here", "_law_text", "_law_told", "_law_back"] "law" (defScope s_law) f cdv A outer s H E).nox 1 (DIns (cP K) (SameP K)) := rcG_ins F3 m3.at_ m3.fn b3 pass0
  refine ⟨_, pss_cons (ps_set (i := 1) nd rfl (Or.inl rfl) (pe_c (c_law_texted T) hr (pa_cons (pv 0) (pa_cons pe_int (pa_cons (pe_lst (pa_cons pe_int (pa_cons pe_int (pa_cons pe_int (pa_cons pe_int (pa_cons pe_int (pa_cons pe_int (pa_cons pe_int pa_nil)))))))) pa_nil)))))
    (pss_cons (ps_set (i := 2) nd rfl (Or.inl rfl) (pe_dget hu (pv 1) pe_str (fun _ _ => rfl)))
    (pss_cons (ps_set (i := 3) nd rfl (Or.inl rfl) (pe_makeK M5 F5 hr10 (by rfl) T.g_Program b5 pass0 (pa_cons (pe_dget hu (pv 1) pe_str (fun _ _ => rfl)) (pa_cons (pe_dget hu (pv 1) pe_str (fun _ _ => rfl)) (pa_cons (pe_dget hu (pv 1) pe_str (fun _ _ => rfl)) pa_nil))) (pk_cons (pv 2) pk_nil)))
    (pss_cons (ps_set (i := 4) nd rfl (Or.inl rfl) (pe_join pe_str (pe_dget hu (pv 1) pe_str (fun _ _ => rfl))))
    (pss_cons (ps_set (i := 5) nd rfl (Or.inl rfl) (pe_c (c_program_text T) hr7 (pa_cons (pv 3) pa_nil)))
    (pss_cons (ps_if (PW.pt (pw_or (pt_not (pt_val (pe_isi (pv 5) T.b_isinstance T.b_str boot_str))) (pw_or1 (pt_cmpR op_ne (pv 5) (pv 4) (nomark _))))) (pss_one ps_never) pss_nil)
    (pss_cons (ps_set (i := 6) nd rfl (Or.inl rfl) (pe_c (c_read_program T) hr11 (pa_cons (pv 4) pa_nil)))
    (pss_cons (ps_if (PW.pt (pw_or (pt_not (pt_val (pe_callB call_isi (by rfl) T.b_isinstance boot_isinstance (pa_cons (pv 6) (pa_cons (pe_gR T.g_Program) pa_nil))))) (pw_or (pt_not (pt_cmpR (op_eqG RE hr1) (pv 6) (pv 3) (nomark _))) (pw_or1 (pt_not (pt_cmpR (op_eqG RE hr1) (pv 3) (pv 6) (nomark _))))))) (pss_one ps_never) pss_nil)
    (pss_cons (ps_if (PW.pt (pw_or (pt_cmpR op_ne (pe_callB (call_reprD hg hu66) (by rfl) T.b_repr boot_repr (pa_cons (pe_meth0 (pv 6) T.cl_Program m1 F1 hr6 b1 .nil pass0) pa_nil)) (pe_callB (call_reprD hg hu66) (by rfl) T.b_repr boot_repr (pa_cons (pe_dget hu (pv 1) pe_str (fun _ _ => rfl)) pa_nil)) (nomark _))
        (pw_or1 (pt_cmpR op_ne (pe_c (c_program_text T) hr7 (pa_cons (pv 6) pa_nil)) (pv 4) (nomark _))))) (pss_one ps_never) pss_nil)
    (pss_cons (ps_if (PW.pt (pw_or (pt_cmpR (op_neD hu64) (pe_fld (pv 6) rfl) (pe_callTy call_tuple_of (by rfl) T.b_tuple boot_tuple (pa_cons (pe_dget hu (pv 1) pe_str (fun _ _ => rfl)) pa_nil)) (nomark _)) (pw_or1 (pt_cmpR (op_neD hu64) (pe_fld (pv 6) rfl) (pe_callTy call_tuple_of (by rfl) T.b_tuple boot_tuple (pa_cons (pe_dget hu (pv 1) pe_str (fun _ _ => rfl)) pa_nil)) (nomark _))))) (pss_one ps_never) pss_nil)
    (pss_cons (ps_if (PW.pt (pw_or (pt_cmpR (op_neD hu64) (pe_fld (pv 6) rfl) (pe_callTy call_tuple_of (by rfl) T.b_tuple boot_tuple (pa_cons (pv 2) pa_nil)) (nomark _)) (pw_or1 (pt_cmpR (op_neD hu64) (pe_meth0 (pv 6) T.cl_Program m2 F2 hr6 b2 .nil pass0) (pe_meth0 (pv 3) T.cl_Program m2 F2 hr6 b2 .nil pass0) (nomark _))))) (pss_one ps_never) pss_nil)
    (pss_cons (ps_expr (pe_bm0 PySem.F.plainAttrs_list PySem.F.slot_list_clear PySem.F.type_list_clear mt_clear (pe_meth0 (pv 6) T.cl_Program m1 F1 hr6 b1 .nil pass0)))
    (pss_one (ps_ret (pe_cmpR op_eq (pe_c (c_program_text T) hr7 (pa_cons (pv 6) pa_nil)) (pv 4) (nomark _))))))))))))))), ?_⟩
  refine ⟨_, rfl, (by show 7 ≤ sizeLine; decide), fun sz nsz => ?_⟩
  have g0 := same_new nsz (.lst sizesV)
  refine ⟨sc, sz, ns, rfl, sqL_same g0 hsc, upd_same, fun d W ins fs outs rs H1 g1 G hF => ?_⟩
  clear g0 hsc nsz g1
  obtain ⟨L, n, fl, il, ol, bl, ll, bd, l3, l11, l12, l13, l14, hfl, hil, hol, hbl, hll⟩ := hF.ex
  refine ⟨_, rfl, d, _, rfl, bd.get (i := 12) l12, ?_⟩
  refine ⟨_, rfl, d, _, rfl, bd.get (i := 11) l11, _, rfl, d, _, rfl, bd.get (i := 3) l3, _, rfl, d, _, rfl, bd.get (i := 13) l13, _, rfl, rfl, rfl, fun p dx np ndx hne => ?_⟩
  have g2 : Same H1 (upd (upd H1 dx (.own p)) p (.ins (cP K) dx [])) := (same_new ndx _).trans (same_new (by rw [upd_ne (Ne.symm hne)]; exact np) _)
  refine ⟨p, dx, il, fl, bl, ol, W, ins, fs, outs, rs, rfl, upd_same, SqL.of (g2 _ _ hil), SqL.of (g2 _ _ hfl), SqL.of (g2 _ _ hol), dp_same g2 hbl, G, fun H2 k2 PA => ⟨rfl, ?_⟩⟩
  have g3 : Same H1 H2 := fun b o e => k2 b o (g2 b o e) (fun hm => by rw [List.mem_singleton.mp hm, np] at e; cases e)
  clear k2 g2
  refine ⟨⟨_, rfl⟩, _, rfl, d, _, rfl, (bd.same g3).get (i := 14) l14, nlS, ll, allL ins fs outs rs, rfl, rfl, .inl (SqL.of (g3 _ _ hll)), allL_sum G, ?_⟩
  show tSeq _ _ _ _ H2
  refine ⟨_, rfl, p, W, ins, fs, outs, rs, rfl, PA, G, fun H3 g4 => ?_⟩
  refine ⟨_, rfl, _, _, .type "str", .type "str", true, rfl, .ty _, ty_str _, kit_ty (by decide +kernel), true, rfl, iteF ?_⟩
  refine ⟨_, rfl, _, rfl, rfl, _, rfl, ?_⟩
  rw [decide_eq_true (show V.str (prgT ins fs outs rs) = V.str (Txt.join nlS (allL ins fs outs rs)) from rfl)]
  refine iteF ?_
  refine ⟨_, rfl, W, ins, fs, outs, rs, rfl, G, fun b H4 g5 PB => ?_⟩
  have PA4 := (PA.same g4 g4).same g5 g5
  have g6 := (g3.trans g4).trans g5
  obtain ⟨dx1, a1, a2, a3, a4, h0, h1, h2, h3, h4⟩ := PA4.ex
  obtain ⟨dy, c1, c2, c3, c4, k0, k1, k2, k3, k4⟩ := PB.ex
  refine ⟨_, rfl, _, _, .ref (cP K), .ref (cP K), true, rfl, .own _, T.isP _ _ _ _ k0, T.isP1, true, rfl, iteF ?_⟩
  refine ⟨_, rfl, _, rfl, ⟨b, p, dy, dx1, _, _, rfl, rfl, k0, h0, W, ins, fs, outs, rs, PB, PA4, G⟩, fun H5 x5 => ⟨_, rfl, iteF ?_⟩⟩
  have x5 : Same H4 H5 := x5
  refine ⟨_, rfl, _, rfl, ⟨p, b, dx1, dy, _, _, rfl, rfl, x5 _ _ h0, x5 _ _ k0, W, ins, fs, outs, rs, PA4.same x5 x5, PB.same x5 x5, G⟩, fun H6 x6 => ⟨_, rfl, iteF ?_⟩⟩
  have x6 : Same H4 H6 := x5.trans x6
  have PB6 := PB.same x6 x6
  have PA6 := PA4.same x6 x6
  have g7 := g6.trans x6
  clear PA4 PB x5 g4 g5 g3 g6
  obtain ⟨s1, s2, s3, s4⟩ := show_rows G
  -- repr
  refine ⟨_, rfl, b, dy, _, rfl, x6 _ _ k0, pF_m7 _ _ _ _, [], b, W, ins, fs, outs, rs, rfl, (fun b hb => by cases hb), by rw [hid_nil]; exact PB6, G, fun r1 xs1 H7 g8 nr1 hr1' d7 => ?_⟩
  refine ⟨r1, .list (dL rs), rfl, .lst (SqL.of hr1') (dpAll_same (hid_le _ _) d7), s1, s2, s3, s4, _, rfl, d, _, rfl, ((bd.same g7).same g8).get (i := 13) l13, bl, .list (dL rs), rfl, dp_same (g7.trans g8) hbl, s1, s2, s3, s4, rfl, _, rfl, ?_⟩
  rw [decide_eq_true rfl]
  refine iteF ?_
  refine ⟨_, rfl, b, W, ins, fs, outs, rs, rfl, PB6.same g8 g8, G, fun H8 g9 => ⟨_, rfl, rfl, _, rfl, ?_⟩⟩
  rw [decide_eq_true (show V.str (prgT ins fs outs rs) = V.str (Txt.join nlS (allL ins fs outs rs)) from rfl)]
  refine iteF ?_
  have x8 := (x6.trans g8).trans g9
  have g10 := (g7.trans g8).trans g9
  clear d7 hr1' nr1
  have wi : ∀ x ∈ ins, isW x := fun x hx => G.w x (G.i x hx)
  have wo : ∀ x ∈ outs, isW x := fun x hx => G.w x (G.o x hx)
  -- the fields
  refine ⟨_, rfl, b, _, dy, _, _, rfl, x8 _ _ k0, T.cl_Program, T.n_inputs, pF_inputs _ _ _ _, _, rfl, d, _, rfl, (bd.same g10).get (i := 11) l11, il, _, rfl, .inl ⟨SqL.of (g10 _ _ hil), fun t1 nt1 => ⟨_, _, dp_strs (sqT_same (x8.trans (same_new nt1 _)) k1), dp_strs (SqT.of upd_same), shaped_strs wi, shaped_strs wi, _, rfl, ?_⟩⟩⟩
  rw [eqv_strs wi]
  refine iteF ?_
  have y1 := same_new nt1 (.tup (ins.map V.str))
  have x9 := x8.trans y1
  have g11 := g10.trans y1
  refine ⟨_, rfl, b, _, dy, _, _, rfl, x9 _ _ k0, T.cl_Program, T.n_fields, pF_fields _ _ _ _, _, rfl, d, _, rfl, (bd.same g11).get (i := 3) l3, fl, _, rfl, .inl ⟨SqL.of (g11 _ _ hfl), fun t2 nt2 => ⟨_, _, dp_strs (sqT_same (x9.trans (same_new nt2 _)) k2), dp_strs (SqT.of upd_same), shaped_strs G.f, shaped_strs G.f, _, rfl, ?_⟩⟩⟩
  rw [eqv_strs G.f]
  refine iteF ?_
  have y2 := same_new nt2 (.tup (fs.map V.str))
  have x10 := x9.trans y2
  have g12 := g11.trans y2
  refine ⟨_, rfl, b, _, dy, _, _, rfl, x10 _ _ k0, T.cl_Program, T.n_outputs, pF_outputs _ _ _ _, _, rfl, ol, _, rfl, .inl ⟨SqL.of (g12 _ _ hol), fun t3 nt3 => ⟨_, _, dp_strs (sqT_same (x10.trans (same_new nt3 _)) k3), dp_strs (SqT.of upd_same), shaped_strs wo, shaped_strs wo, _, rfl, ?_⟩⟩⟩
  rw [eqv_strs wo]
  refine iteF ?_
  have y3 := same_new nt3 (.tup (outs.map V.str))
  have x11 := x10.trans y3
  have g13 := g12.trans y3
  -- the places
  obtain ⟨z1, z2⟩ := shaped_places rs
  have up : ∀ {H9 : Hp}, Same H8 H9 → ProgAt K H9 H9 b ins fs outs rs ∧ ProgAt K H9 H9 p ins fs outs rs := fun e => ⟨(PB6.same (g8.trans (g9.trans e)) (g8.trans (g9.trans e))), (PA6.same (g8.trans (g9.trans e)) (g8.trans (g9.trans e)))⟩
  have e11 := (y1.trans y2).trans y3
  refine ⟨_, rfl, b, dy, _, rfl, x11 _ _ k0, pF_m2 _ _ _ _, b, W, ins, fs, outs, rs, rfl, (up e11).1, G, fun q1 xq1 H9 g14 hq1 dq1 => ?_⟩
  refine ⟨_, rfl, p, dx1, _, rfl, g14 _ _ (x11 _ _ h0), pF_m2 _ _ _ _, p, W, ins, fs, outs, rs, rfl, (up (e11.trans g14)).2, G, fun q2 xq2 HA g15 hq2 dq2 => ⟨.list (plcD rs), .list (plcD rs), .lst (sqL_same g15 hq1) (dpAll_same g15 dq1), .lst hq2 dq2, z1, z1, _, rfl, ?_⟩⟩
  rw [z2]
  refine iteF ?_
  have eA := (e11.trans g14).trans g15
  have PBA := (up eA).1
  have k0A := g15 _ _ (g14 _ _ (x11 _ _ k0))
  -- clear
  refine ⟨_, rfl, b, dy, _, rfl, k0A, pF_m7 _ _ _ _, [], b, W, ins, fs, outs, rs, rfl, (fun b hb => by cases hb), by rw [hid_nil]; exact PBA, G, fun r2 xs2 HB g16 nr2 hr2 d8 => ⟨.inl ⟨rfl, _, SqL.of hr2⟩, r2, xs2, rfl, rfl, hr2, ?_⟩⟩
  have gC := same_upd g16 nr2 (.lst [])
  refine ⟨_, rfl, b, W, ins, fs, outs, rs, rfl, PBA.same gC gC, G, fun HC g17 => ⟨_, rfl, rfl, ?_⟩⟩
  rw [decide_eq_true (show V.str (prgT ins fs outs rs) = V.str (Txt.join nlS (allL ins fs outs rs)) from rfl)]
  exact q HC
end
end Tw

set_option Elab.async false
set_option maxRecDepth 100000
set_option maxHeartbeats 4000000
/-! G3: the law, called by the claim's caller. -/
namespace Tw
open PySem PySem.Spec L2 TL PyProof.Rows
section
variable {P : Program} {w : World} {K : PySem.W.Frag} {mg : Str → Option Value} {base : Heap}
theorem room14 : Room 14 callerA := ⟨rfl, by decide, by decide⟩
/-- the law's run under one surrounding -/
theorem law_at (T : Txt w K mg) {f : Addr} {fd : FuncData} (D : Fun K "law" "law" s_law f fd) {s : Shared} {H : Hp} {args : Args} {u : Value} {Q : VK} {E : XK} (e0 : Env0 P w K mg base callerA [] s H) (hb : BindsTo s fd args [("_law_script", u)])
    {sc : Addr} {ns : List Int} (ru : RelV (.ref sc) u) (hsc : SqL K H sc (ns.map V.int)) (q : ∀ H', Q (.bl true) H') : codeAny (model P w) callerA (.call (.ref f) args) (CR CX0 [] P w H s Q E) s := by
  obtain ⟨c1, c2, c3, c4, c5, c6, c7, c8, c9, rfl, look, code⟩ := D.ex
  have grown : K.In s.heap := e0.mod.kin.keeps fun a o h => (e0.bs a o h).1
  have free : s.heap.NoLimit := e0.mod.nolimit.keeps fun a o h => (e0.bs a o h).1
  have one : Vals [V.ref sc] [u] := .cons ru .nil
  have kinds : ∀ y ∈ (["_law_script"] : List Str).zip [u], (defScope s_law).names.lookup y.1 = some .local ∨ ((defScope s_law).names.lookup y.1 = some .cell ∧ ((cellsFrom (s.heap.objs.size + 1) (defScope s_law).names []).lookup y.1).isSome = true) := fun ⟨x, v⟩ hy => (sc_law.par x (List.of_mem_zip hy).1).elim .inl fun z => .inr ⟨z, PySem.W.cellsFrom_some _ _ _ (.inl z)⟩
  refine codeAny_call_function room14.depth (grown _ _ look) rfl sc_law.co sc_law.gen rfl (PySem.W.codeRec_of grown code) (hb _ _ _ _ ?_)
  refine wpAny_newFunctionEnv_cells sc_law.kind kinds fun env here s1 into => ?_
  subst here
  refine ⟨free.keeps into.toInCall.keep, codeAny_func ?_⟩
  have room13 : Room 13 (callerA.deeper (envOfC "law" (defScope s_law) s.heap.objs.size f c7)) := room14.deeper _
  obtain ⟨t, walk, reading⟩ := law_body (P := P) (base := base) (outer := []) (E := E) T (s := s) (Q := Q) room13 rfl hsc q
  have begins : Inv (cxOf CX0 P w K mg base ["_law_script", "_law_plan", "_law_after", "_law_program_here", "_law_text", "_law_told", "_law_back"] "law" (defScope s_law) f c7 callerA [] s H E) [] (start ["_law_script", "_law_plan", "_law_after", "_law_program_here", "_law_text", "_law_told", "_law_back"] [.ref sc]) H s1 := inv_start sc_law room14.hd e0 rfl one into
  refine wpAny_mono (walk.nox.run [] s1 _ H _ begins reading) (fun fl s2 done => ?_) fun _ _ done => done
  cases fl with
  | ret v =>
    obtain ⟨x, σ2, H2, J, rel, want⟩ := done
    exact ⟨x, H2, J.os, J.bare, J.base, J.hok, rel, want⟩
  | next =>
    obtain ⟨σ2, H2, J, want⟩ := done
    exact ⟨V.non, H2, J.os, J.bare, J.base, J.hok, rfl, want⟩
  | brk =>
    obtain ⟨_, _, _, no⟩ := done
    exact no.elim
  | cont =>
    obtain ⟨_, _, _, no⟩ := done
    exact no.elim
end
end Tw

set_option Elab.async false
set_option maxRecDepth 100000
set_option maxHeartbeats 4000000
/-! G4: from the claim's caller to the law's answer. -/
namespace Tw
open PySem PySem.Spec L2 TL PyProof.Rows
/-- what the end of the law must look like -/
abbrev Told (s₁ : Shared) : Result → Shared → Prop := fun r s' => r = .ok (.ret (.bool true)) ∧ OldK s₁.heap s'.heap ∧ s'.os = s₁.os ∧ AllBare s'.gens
section
variable {P : Program} {w : World} {K : PySem.W.Frag} {mg mb : Str → Option Value} {fa a : Addr} {fd : FuncData} {s₁ : Shared} {vs : List Value} {ns : List Int}
/-- the script alone may be held, frozen -/
structure Start (P : Program) (w : World) (K : PySem.W.Frag) (s₁ : Shared) (a : Addr) (ns : List Int) (H : Hp) : Prop where
  only : ∀ b, H b = none ∨ ∃ o xs, H b = some (.frz o (.lst xs))
  here : ∀ b, H b ≠ none → b = a
  apart : H a ≠ none → K.lookup a = none
  laid : HOk P w H s₁.heap
  nums : SqL K H a (ns.map V.int)
theorem law_from (T : Txt w K mg) (D : Fun K "law" "law" s_law fa fd) (bind : ∀ (s : Shared) (u : Value), BindsTo s fd ⟨[u], []⟩ [("_law_script", u)]) (inK : K.In s₁.heap) (glob : s₁.heap.Ns mainGlobals mg) (blt : s₁.heap.Ns builtinsNs mb)
    (boot : ∀ x : Str, x ≠ "__name__" → mb x = bootBuiltins x) (lim : s₁.heap.NoLimit) (gens : s₁.gens = #[]) (list : s₁.heap.get? a = some { cls := .type "list", data := .seq vs.toArray }) {H : Hp} (S : Start P w K s₁ a ns H) :
    codeAny (model P w) callerA (.call (.ref fa) ⟨[.ref a], []⟩) (Told s₁) s₁ := by
  have away : ∀ {b : Addr}, b ≠ a → H b = none := fun {b} n => Classical.byContradiction fun z => n (S.here b z)
  have keepNs : ∀ {b : Addr} {m : Str → Option Value}, s₁.heap.Ns b m → (hidT s₁.heap H).Ns b m := fun {b m} ⟨o, es, ep, at_, dict, rest⟩ => by
    refine ⟨o, es, ep, hidT_get at_ (away ?_), dict, rest⟩
    rintro rfl
    rw [list] at at_
    cases at_
    have z : Data.seq vs.toArray _ = Data.dict es ep := dict
    cases z
  have hidK : K.In (hidT s₁.heap H) := fun b o e => hidT_get (inK b o e) (Classical.byContradiction fun z => by
    have ab := S.here b z
    subst ab
    have := S.apart z
    rw [e] at this
    cases this)
  have modl : Mod K mg (hidT s₁.heap H) := by
    obtain ⟨m1, l1, l2⟩ := lim
    exact ⟨hidK, keepNs glob, ⟨mb, keepNs blt, boot⟩, ⟨m1, keepNs l1, l2⟩⟩
  have none_in : ∀ {b : Addr}, b ∉ ([] : List Addr) := fun {b} h => by cases h
  have here0 : Env0 P w K mg (hidT s₁.heap H) callerA [] s₁ H := ⟨rfl, modl, fun _ _ => of_hidT, Nat.le_of_eq (hidT_size _ _), trivial, fun _ h => (none_in h).elim, S.laid, .of_eq gens⟩
  refine codeAny_mono (law_at (Q := fun v _ => v = .bl true) (E := fun _ _ _ => False) T D here0 (bind s₁ (.ref a)) rfl S.nums fun _ => rfl) fun r s' got => ?_
  match r, got with
  | .error _, got => exact got.elim
  | .ok .next, got => exact got.elim
  | .ok .brk, got => exact got.elim
  | .ok .cont, got => exact got.elim
  | .ok (.ret u), ⟨v, H', os, bare, un, laid, rel, yes⟩ =>
    have yes : v = .bl true := yes
    subst yes
    have eu : u = Value.bool true := rel
    subst eu
    refine ⟨rfl, OldK.of_keep fun b o e => ?_, os, bare⟩
    rcases S.only b with free | ⟨ob, xs, held⟩
    · exact un.keep b o e free none_in none_in
    · have same := (S.laid b _ held).1
      rw [e] at same
      cases same
      exact (laid b _ (un.frzs b _ _ held)).1
theorem law_told (T : Txt w K mg) (D : Fun K "law" "law" s_law fa fd) (bind : ∀ (s : Shared) (u : Value), BindsTo s fd ⟨[u], []⟩ [("_law_script", u)]) (inK : K.In s₁.heap) (glob : s₁.heap.Ns mainGlobals mg) (blt : s₁.heap.Ns builtinsNs mb)
    (boot : ∀ x : Str, x ≠ "__name__" → mb x = bootBuiltins x) (lim : s₁.heap.NoLimit) (gens : s₁.gens = #[]) (list : s₁.heap.get? a = some { cls := .type "list", data := .seq vs.toArray }) (nums : IntsAre vs ns) (few : ns.length ≤ sizeLine) :
    codeAny (model P w) callerA (.call (.ref fa) ⟨[.ref a], []⟩) (Told s₁) s₁ := by
  have rel := vals_ints nums
  by_cases own : ∃ o, K.lookup a = some o
  · obtain ⟨o, look⟩ := own
    have at_ := inK a o look
    rw [list] at at_
    cases at_
    refine law_from (H := fun _ => none) T D bind inK glob blt boot lim gens list ⟨fun _ => .inl rfl, fun _ z => (z rfl).elim, fun z => (z rfl).elim, fun _ _ z => (by cases z), .inr ⟨_, vs.toArray, _, look, rfl, rfl, rfl, ?_, by simpa using rel⟩⟩
    rw [List.size_toArray, nums.length]
    exact few
  · have apart : K.lookup a = none := by
      cases q : K.lookup a with
      | none => rfl
      | some o => exact (own ⟨o, q⟩).elim
    refine law_from (H := fun b => if b = a then some (.frz { cls := .type "list", data := .seq vs.toArray } (.lst (ns.map V.int))) else none) T D bind inK glob blt boot lim gens list ⟨fun b => ?_, fun b z => ?_, fun _ => apart, fun b u z => ?_, .inl (.inr ⟨_, if_pos rfl⟩)⟩
    · by_cases e : b = a
      · exact .inr ⟨_, _, if_pos e⟩
      · exact .inl (if_neg e)
    · exact Classical.byContradiction fun e => z (if_neg e)
    · by_cases e : b = a
      · subst e
        rw [if_pos rfl] at z
        cases z
        exact ⟨list, by rw [List.length_map]; exact few, vs, _, rel, list⟩
      · rw [if_neg e] at z
        cases z
end
end Tw

set_option Elab.async false
set_option maxRecDepth 100000
set_option maxHeartbeats 0
namespace Tw
open PySem PySem.Spec PyProof.Rows L2
def fnL : List He.DefD := [
  ⟨("is_integer", none), "is_integer", "is_integer", defArgs s_is_integer, defBody s_is_integer, defScope s_is_integer, [], []⟩,
  ⟨("is_word", none), "is_word", "is_word", defArgs s_is_word, defBody s_is_word, defScope s_is_word, [], []⟩,
  ⟨("is_word_list", none), "is_word_list", "is_word_list", defArgs s_is_word_list, defBody s_is_word_list, defScope s_is_word_list, [], []⟩,
  ⟨("is_number_below", none), "is_number_below", "is_number_below", defArgs s_is_number_below, defBody s_is_number_below, defScope s_is_number_below, [], []⟩,
  ⟨("shape_of", none), "shape_of", "shape_of", defArgs s_shape_of, defBody s_shape_of, defScope s_shape_of, [], []⟩,
  ⟨("branches", none), "branches", "branches", defArgs s_branches, defBody s_branches, defScope s_branches, [], []⟩,
  ⟨("is_good_part", none), "is_good_part", "is_good_part", defArgs s_is_good_part, defBody s_is_good_part, defScope s_is_good_part, [], []⟩,
  ⟨("row_fault", none), "row_fault", "row_fault", defArgs s_row_fault, defBody s_row_fault, defScope s_row_fault, [], []⟩,
  ⟨("checked_readers", none), "checked_readers", "checked_readers", defArgs s_checked_readers, defBody s_checked_readers, defScope s_checked_readers, [], []⟩,
  ⟨("copied_rows", none), "copied_rows", "copied_rows", defArgs s_copied_rows, defBody s_copied_rows, defScope s_copied_rows, [], []⟩,
  ⟨("placed_rows", none), "placed_rows", "placed_rows", defArgs s_placed_rows, defBody s_placed_rows, defScope s_placed_rows, [], []⟩,
  ⟨("row_variables", none), "row_variables", "row_variables", defArgs s_row_variables, defBody s_row_variables, defScope s_row_variables, [], []⟩,
  ⟨("Program", some "__init__"), "__init__", "Program.__init__", defArgs s_P_init__, defBody s_P_init__, defScope s_P_init__, [], []⟩,
  ⟨("Program", some "check_counts"), "check_counts", "Program.check_counts", defArgs s_P_check_counts, defBody s_P_check_counts, defScope s_P_check_counts, [], []⟩,
  ⟨("Program", some "__eq__"), "__eq__", "Program.__eq__", defArgs s_P_eq__, defBody s_P_eq__, defScope s_P_eq__, [], []⟩,
  ⟨("Program", some "rows"), "rows", "Program.rows", defArgs s_P_rows, defBody s_P_rows, defScope s_P_rows, [], []⟩,
  ⟨("Program", some "places_of"), "places_of", "Program.places_of", defArgs s_P_places_of, defBody s_P_places_of, defScope s_P_places_of, [], []⟩,
  ⟨("Program", some "places"), "places", "Program.places", defArgs s_P_places, defBody s_P_places, defScope s_P_places, [], []⟩,
  ⟨("Program", some "copies"), "copies", "Program.copies", defArgs s_P_copies, defBody s_P_copies, defScope s_P_copies, [], []⟩,
  ⟨("Program", some "readers"), "readers", "Program.readers", defArgs s_P_readers, defBody s_P_readers, defScope s_P_readers, [], []⟩,
  ⟨("Program", some "variables"), "variables", "Program.variables", defArgs s_P_variables, defBody s_P_variables, defScope s_P_variables, [], []⟩,
  ⟨("row_lines", none), "row_lines", "row_lines", defArgs s_row_lines, defBody s_row_lines, defScope s_row_lines, [], []⟩,
  ⟨("program_text", none), "program_text", "program_text", defArgs s_program_text, defBody s_program_text, defScope s_program_text, [], []⟩,
  ⟨("number_of", none), "number_of", "number_of", defArgs s_number_of, defBody s_number_of, defScope s_number_of, [], []⟩,
  ⟨("head_words", none), "head_words", "head_words", defArgs s_head_words, defBody s_head_words, defScope s_head_words, [], []⟩,
  ⟨("plain_row", none), "plain_row", "plain_row", defArgs s_plain_row, defBody s_plain_row, defScope s_plain_row, [], []⟩,
  ⟨("RowReader", some "__init__"), "__init__", "RowReader.__init__", defArgs s_R_init__, defBody s_R_init__, defScope s_R_init__, [], []⟩,
  ⟨("RowReader", some "level_allowed"), "level_allowed", "RowReader.level_allowed", defArgs s_R_level_allowed, defBody s_R_level_allowed, defScope s_R_level_allowed, [], []⟩,
  ⟨("RowReader", some "close_to"), "close_to", "RowReader.close_to", defArgs s_R_close_to, defBody s_R_close_to, defScope s_R_close_to, [], []⟩,
  ⟨("RowReader", some "take"), "take", "RowReader.take", defArgs s_R_take, defBody s_R_take, defScope s_R_take, [], []⟩,
  ⟨("RowReader", some "is_complete"), "is_complete", "RowReader.is_complete", defArgs s_R_is_complete, defBody s_R_is_complete, defScope s_R_is_complete, [], []⟩,
  ⟨("read_program", none), "read_program", "read_program", defArgs s_read_program, defBody s_read_program, defScope s_read_program, [], []⟩,
  ⟨("_law_state", none), "_law_state", "_law_state", defArgs s_law_state, defBody s_law_state, defScope s_law_state, [], []⟩,
  ⟨("_law_draw", none), "_law_draw", "_law_draw", defArgs s_law_draw, defBody s_law_draw, defScope s_law_draw, [], []⟩,
  ⟨("_law_words", none), "_law_words", "_law_words", defArgs s_law_words, defBody s_law_words, defScope s_law_words, [], []⟩,
  ⟨("_law_choose", none), "_law_choose", "_law_choose", defArgs s_law_choose, defBody s_law_choose, defScope s_law_choose, [], []⟩,
  ⟨("_law_plain", none), "_law_plain", "_law_plain", defArgs s_law_plain, defBody s_law_plain, defScope s_law_plain, [], []⟩,
  ⟨("_law_row", none), "_law_row", "_law_row", defArgs s_law_row, defBody s_law_row, defScope s_law_row, [], []⟩,
  ⟨("_law_rows", none), "_law_rows", "_law_rows", defArgs s_law_rows, defBody s_law_rows, defScope s_law_rows, [], []⟩,
  ⟨("_law_program", none), "_law_program", "_law_program", defArgs s_law_program, defBody s_law_program, defScope s_law_program, [], []⟩,
  ⟨("_law_special", none), "_law_special", "_law_special", defArgs s_law_special, defBody s_law_special, defScope s_law_special, [], []⟩,
  ⟨("_law_named", none), "_law_named", "_law_named", defArgs s_law_named, defBody s_law_named, defScope s_law_named, [], []⟩,
  ⟨("_law_lines", none), "_law_lines", "_law_lines", defArgs s_law_lines, defBody s_law_lines, defScope s_law_lines, [], []⟩,
  ⟨("_law_texted", none), "_law_texted", "_law_texted", defArgs s_law_texted, defBody s_law_texted, defScope s_law_texted, [], []⟩,
  ⟨("law", none), "law", "law", defArgs s_law, defBody s_law, defScope s_law, [], []⟩]
def faL : List He.Fa := [
  .cls "Program",
  .mkr "Program",
  .cls "RowReader",
  .mkr "RowReader",
  .noat "Program" "inputs",
  .noat "Program" "fields",
  .noat "Program" "outputs",
  .noat "Program" "body",
  .noat "RowReader" "blocks",
  .noat "RowReader" "unfinished",
  .glo "is_integer",
  .glo "is_word",
  .glo "is_word_list",
  .glo "is_number_below",
  .glo "shape_of",
  .glo "branches",
  .glo "is_good_part",
  .glo "row_fault",
  .glo "checked_readers",
  .glo "copied_rows",
  .glo "placed_rows",
  .glo "row_variables",
  .meth "Program" "__init__",
  .meth "Program" "check_counts",
  .meth "Program" "__eq__",
  .meth "Program" "rows",
  .meth "Program" "places_of",
  .meth "Program" "places",
  .meth "Program" "copies",
  .meth "Program" "readers",
  .meth "Program" "variables",
  .glo "row_lines",
  .glo "program_text",
  .glo "number_of",
  .glo "head_words",
  .glo "plain_row",
  .meth "RowReader" "__init__",
  .meth "RowReader" "level_allowed",
  .meth "RowReader" "close_to",
  .meth "RowReader" "take",
  .meth "RowReader" "is_complete",
  .glo "read_program",
  .glo "_law_state",
  .glo "_law_draw",
  .glo "_law_words",
  .glo "_law_choose",
  .glo "_law_plain",
  .glo "_law_row",
  .glo "_law_rows",
  .glo "_law_program",
  .glo "_law_special",
  .glo "_law_named",
  .glo "_law_lines",
  .glo "_law_texted",
  .glo "law",
  .glo "Program",
  .glo "RowReader",
  .glo "SHAPES",
  .glo "PARTS",
  .glo "KINDS",
  .glo "HEADS",
  .int "LONGEST" 8,
  .int "DEPTHS" 5,
  .int "MOST_NESTED" 4,
  .int "MOST_ROWS" 20,
  .int "MOST_VARIABLES" 6,
  .int "MOST_COPIES" 4,
  .int "MOST_READERS" 3,
  .int "MOST_LEVEL" 3,
  .str "LETTERS" "abcdefghijklmnopqrstuvwxyz",
  .free "isinstance",
  .free "len",
  .free "zip",
  .free "enumerate",
  .free "range",
  .free "str",
  .free "int",
  .free "bool",
  .free "list",
  .free "tuple",
  .free "all",
  .free "max",
  .free "repr"]
def looseA : List Str := ["_wall", "ThawError", "InvalidProgram", "InvalidArgument", "InvalidText", "LETTERS", "LONGEST", "is_integer", "is_word", "is_word_list", "is_number_below", "SHAPES", "KINDS", "DEPTHS", "MOST_NESTED", "MOST_ROWS", "MOST_VARIABLES", "MOST_COPIES", "MOST_READERS", "shape_of", "branches", "is_good_part", "row_fault", "checked_readers", "copied_rows", "placed_rows", "row_variables", "Program", "is_same_place", "MOST_LEVEL"]
def looseB : List Str := ["HEADS", "PARTS", "row_lines", "program_text", "number_of", "head_words", "plain_row", "RowReader", "read_program", "_law_state", "_law_draw", "_law_words", "_law_choose", "_law_plain", "_law_row", "_law_rows", "_law_program", "_law_special", "_law_named", "_law_lines", "_law_texted"]
def LAWPLACE : Nat := 56
def tsL : List He.Tab := [(fun K => He.ga K "SHAPES", shapesL.map (·.1)), (fun K => He.ga K "PARTS", partsL.map (·.1))]
def exP (K : PySem.W.Frag) : Bool := He.eqO (PySem.W.findIn K (.ref (He.ga K "Program")) "__class__") (some (some (.builtin "object.__class__"))) && (He.eqO (PySem.W.specialIn K (.builtin "object.__class__") "__get__") (some (some (.builtin "getset_descriptor.__get__"))) &&
  (decide (PySem.W.takesIn K (.builtin "object.__class__") = some true) && (decide (PySem.W.kitOne K (.ref (He.ga K "Program")) (.ref (He.ga K "Program")) = some true) && decide (PySem.W.mroIn K (He.ga K "Program") (.type "object") = some true))))
def exF (K : PySem.W.Frag) : Bool := He.tupB K "KINDS" [.str "freeze", .str "thaw"] && (He.tupB K "HEADS" [.str "inputs", .str "fields", .str "outputs"] &&
  (He.valsB K (He.ga K "SHAPES") (shapesL.map fun q => (q.1, He.Dv.str q.2)) && (He.valsB K (He.ga K "PARTS") (partsL.map fun q => (q.1, He.Dv.str q.2)) && exP K)))
abbrev RR : PySem.W.OpenRow := PySem.W.OpenLaw.row PySem.Challenge.rw_thawedwrites_k70_whole_program_text
abbrev hkX : PySem.W.Hook := He.hookX 6 faL fnL tsL [] exF
def obA (s : PySem.W.SharedT) : He.AlX := He.obsX 6 faL fnL tsL [] exF (HandSHeadRun.getT s)
theorem obA_eq (s : PySem.W.SharedT) : obA s = hkX.obs s.abs := He.obsX_eq (HandSHeadRun.getT_eq s)
def looseAB : List Str := looseA ++ looseB

theorem runF (w : World) : HandSHeadRun.RunEq RR (PySem.W.view RR.prog [LAWPLACE]) hkX obA 5000 looseAB (w.withFollow "special-get-raises" false) := by
  intro os
  kernel_rfl
theorem runT (w : World) : HandSHeadRun.RunEq RR (PySem.W.view RR.prog [LAWPLACE]) hkX obA 5000 looseAB (w.withFollow "special-get-raises" true) := by
  intro os
  kernel_rfl
theorem runA (w : World) : HandSHeadRun.RunEq RR (PySem.W.view RR.prog [LAWPLACE]) hkX obA 5000 looseAB w :=
  PySem.W.byRow2 "special-get-raises" (P := fun w => HandSHeadRun.RunEq RR (PySem.W.view RR.prog [LAWPLACE]) hkX obA 5000 looseAB w) runF runT w
end Tw

set_option Elab.async false
set_option maxRecDepth 100000
set_option maxHeartbeats 4000000
/-! G5: Txt from the head's facts (printed by gen_g5.py). -/
namespace Tw
open PySem PySem.Spec L2 TL PyProof.Rows
section
variable {w : World} {K : PySem.W.Frag} {mg : Str → Option Value} {h : Heap}
theorem dfn_of {x : Str} {st : Stmt} {f : Addr} {kws : List (Str × V)} (g : mg x = some (.ref f)) (F : ∃ fd, FunD K x x (defArgs st) (defBody st) (defScope st) [] kws f fd) : Dfn K mg x st := by
  obtain ⟨fd, F⟩ := F
  exact ⟨_, fd, He5.fun_of F, g⟩
theorem mdf_of {C m q : Str} {st : Stmt} {f : Addr} {kws : List (Str × V)} (g : Meth K (He.ga K C) m f) (F : ∃ fd, FunD K m q (defArgs st) (defBody st) (defScope st) [] kws f fd) : Mdf K C m q st := by
  obtain ⟨fd, F⟩ := F
  exact ⟨_, fd, He5.fun_of F, g⟩
theorem kdct_of {a : Addr} {es : Array DictEntry} {n : Nat} {kvs : List (Str × Str)} (kd : KDict K w a es n) (e : He.valsB K a (kvs.map fun q => (q.1, He.Dv.str q.2)) = true) : ∀ q ∈ kvs, KDct K w a q.1 (.str q.2) := fun q hq => by
  obtain ⟨u, h1, h2⟩ := He.valsB_ok e (q := (q.1, He.Dv.str q.2)) (List.mem_map_of_mem hq)
  exact ⟨es, n, u, kd.at_, kd.lit, h1, h2⟩
theorem txt_of (X : K.In h) (G : h.Ns mainGlobals mg) (told : He.SaysX faL fnL tsL [] exF w h K) : Txt w K mg := by
  have c : He.SaysD faL fnL K := told.t.d
  obtain ⟨z1, z2⟩ := He.ba told.more
  obtain ⟨z2, z3⟩ := He.ba z2
  obtain ⟨z3, z4⟩ := He.ba z3
  obtain ⟨z4, z5⟩ := He.ba z4
  obtain ⟨x1, z5⟩ := He.ba z5
  obtain ⟨x2, z5⟩ := He.ba z5
  obtain ⟨x3, z5⟩ := He.ba z5
  obtain ⟨x4, x5⟩ := He.ba z5
  obtain ⟨es1, n1, k1⟩ := told.t.tab 0 rfl
  obtain ⟨es2, n2, k2⟩ := told.t.tab 1 rfl
  exact {
    b_isinstance := He.free_ok X G (c.fact 70 (f := .free "isinstance") rfl)
    b_len := He.free_ok X G (c.fact 71 (f := .free "len") rfl)
    b_zip := He.free_ok X G (c.fact 72 (f := .free "zip") rfl)
    b_enumerate := He.free_ok X G (c.fact 73 (f := .free "enumerate") rfl)
    b_range := He.free_ok X G (c.fact 74 (f := .free "range") rfl)
    b_str := He.free_ok X G (c.fact 75 (f := .free "str") rfl)
    b_int := He.free_ok X G (c.fact 76 (f := .free "int") rfl)
    b_bool := He.free_ok X G (c.fact 77 (f := .free "bool") rfl)
    b_list := He.free_ok X G (c.fact 78 (f := .free "list") rfl)
    b_tuple := He.free_ok X G (c.fact 79 (f := .free "tuple") rfl)
    b_all := He.free_ok X G (c.fact 80 (f := .free "all") rfl)
    b_max := He.free_ok X G (c.fact 81 (f := .free "max") rfl)
    b_repr := He.free_ok X G (c.fact 82 (f := .free "repr") rfl)
    c_LONGEST := He.int_ok X G (c.fact 61 (f := .int "LONGEST" 8) rfl)
    c_DEPTHS := He.int_ok X G (c.fact 62 (f := .int "DEPTHS" 5) rfl)
    c_MOST_NESTED := He.int_ok X G (c.fact 63 (f := .int "MOST_NESTED" 4) rfl)
    c_MOST_ROWS := He.int_ok X G (c.fact 64 (f := .int "MOST_ROWS" 20) rfl)
    c_MOST_VARIABLES := He.int_ok X G (c.fact 65 (f := .int "MOST_VARIABLES" 6) rfl)
    c_MOST_COPIES := He.int_ok X G (c.fact 66 (f := .int "MOST_COPIES" 4) rfl)
    c_MOST_READERS := He.int_ok X G (c.fact 67 (f := .int "MOST_READERS" 3) rfl)
    c_MOST_LEVEL := He.int_ok X G (c.fact 68 (f := .int "MOST_LEVEL" 3) rfl)
    c_LETTERS := He.str_ok X G (c.fact 69 (f := .str "LETTERS" "abcdefghijklmnopqrstuvwxyz") rfl)
    g_SHAPES := He.glo_ok X G (c.fact 57 (f := .glo "SHAPES") rfl)
    g_PARTS := He.glo_ok X G (c.fact 58 (f := .glo "PARTS") rfl)
    g_KINDS := He.glo_ok X G (c.fact 59 (f := .glo "KINDS") rfl)
    g_HEADS := He.glo_ok X G (c.fact 60 (f := .glo "HEADS") rfl)
    g_Program := He.glo_ok X G (c.fact 55 (f := .glo "Program") rfl)
    g_RowReader := He.glo_ok X G (c.fact 56 (f := .glo "RowReader") rfl)
    kinds := fun H => He.tupB_ok z1 H
    heads := fun H => He.tupB_ok z2 H
    kdS := ⟨es1, n1, k1⟩
    kdP := ⟨es2, n2, k2⟩
    shapes := kdct_of k1 z3
    parts := kdct_of k2 z4
    cl_Program := He.cls_ok (c.fact 0 (f := .cls "Program") rfl)
    mk_Program := He.mkr_ok (c.fact 1 (f := .mkr "Program") rfl)
    cl_RowReader := He.cls_ok (c.fact 2 (f := .cls "RowReader") rfl)
    mk_RowReader := He.mkr_ok (c.fact 3 (f := .mkr "RowReader") rfl)
    isP := fun H a dx fs e => .base (.ins e (He.cls_ok (c.fact 0 (f := .cls "Program") rfl)) (He.eqO_ok x1) (He.eqO_ok x2) (of_decide_eq_true x3) (of_decide_eq_true x5))
    isP1 := of_decide_eq_true x4
    n_inputs := He.noat_ok (c.fact 4 (f := .noat "Program" "inputs") rfl)
    n_fields := He.noat_ok (c.fact 5 (f := .noat "Program" "fields") rfl)
    n_outputs := He.noat_ok (c.fact 6 (f := .noat "Program" "outputs") rfl)
    n_body := He.noat_ok (c.fact 7 (f := .noat "Program" "body") rfl)
    n_blocks := He.noat_ok (c.fact 8 (f := .noat "RowReader" "blocks") rfl)
    n_unfinished := He.noat_ok (c.fact 9 (f := .noat "RowReader" "unfinished") rfl)
    d_is_integer := dfn_of (He.glo_ok X G (c.fact 10 (f := .glo "is_integer") rfl)) (c.def_ 0 (d := fnL[0]) rfl)
    d_is_word := dfn_of (He.glo_ok X G (c.fact 11 (f := .glo "is_word") rfl)) (c.def_ 1 (d := fnL[1]) rfl)
    d_is_word_list := dfn_of (He.glo_ok X G (c.fact 12 (f := .glo "is_word_list") rfl)) (c.def_ 2 (d := fnL[2]) rfl)
    d_is_number_below := dfn_of (He.glo_ok X G (c.fact 13 (f := .glo "is_number_below") rfl)) (c.def_ 3 (d := fnL[3]) rfl)
    d_shape_of := dfn_of (He.glo_ok X G (c.fact 14 (f := .glo "shape_of") rfl)) (c.def_ 4 (d := fnL[4]) rfl)
    d_branches := dfn_of (He.glo_ok X G (c.fact 15 (f := .glo "branches") rfl)) (c.def_ 5 (d := fnL[5]) rfl)
    d_is_good_part := dfn_of (He.glo_ok X G (c.fact 16 (f := .glo "is_good_part") rfl)) (c.def_ 6 (d := fnL[6]) rfl)
    d_row_fault := dfn_of (He.glo_ok X G (c.fact 17 (f := .glo "row_fault") rfl)) (c.def_ 7 (d := fnL[7]) rfl)
    d_checked_readers := dfn_of (He.glo_ok X G (c.fact 18 (f := .glo "checked_readers") rfl)) (c.def_ 8 (d := fnL[8]) rfl)
    d_copied_rows := dfn_of (He.glo_ok X G (c.fact 19 (f := .glo "copied_rows") rfl)) (c.def_ 9 (d := fnL[9]) rfl)
    d_placed_rows := dfn_of (He.glo_ok X G (c.fact 20 (f := .glo "placed_rows") rfl)) (c.def_ 10 (d := fnL[10]) rfl)
    d_row_variables := dfn_of (He.glo_ok X G (c.fact 21 (f := .glo "row_variables") rfl)) (c.def_ 11 (d := fnL[11]) rfl)
    d_P_init__ := mdf_of (He.meth_ok (c.fact 22 (f := .meth "Program" "__init__") rfl)) (c.def_ 12 (d := fnL[12]) rfl)
    d_P_check_counts := mdf_of (He.meth_ok (c.fact 23 (f := .meth "Program" "check_counts") rfl)) (c.def_ 13 (d := fnL[13]) rfl)
    d_P_eq__ := mdf_of (He.meth_ok (c.fact 24 (f := .meth "Program" "__eq__") rfl)) (c.def_ 14 (d := fnL[14]) rfl)
    d_P_rows := mdf_of (He.meth_ok (c.fact 25 (f := .meth "Program" "rows") rfl)) (c.def_ 15 (d := fnL[15]) rfl)
    d_P_places_of := mdf_of (He.meth_ok (c.fact 26 (f := .meth "Program" "places_of") rfl)) (c.def_ 16 (d := fnL[16]) rfl)
    d_P_places := mdf_of (He.meth_ok (c.fact 27 (f := .meth "Program" "places") rfl)) (c.def_ 17 (d := fnL[17]) rfl)
    d_P_copies := mdf_of (He.meth_ok (c.fact 28 (f := .meth "Program" "copies") rfl)) (c.def_ 18 (d := fnL[18]) rfl)
    d_P_readers := mdf_of (He.meth_ok (c.fact 29 (f := .meth "Program" "readers") rfl)) (c.def_ 19 (d := fnL[19]) rfl)
    d_P_variables := mdf_of (He.meth_ok (c.fact 30 (f := .meth "Program" "variables") rfl)) (c.def_ 20 (d := fnL[20]) rfl)
    d_row_lines := dfn_of (He.glo_ok X G (c.fact 31 (f := .glo "row_lines") rfl)) (c.def_ 21 (d := fnL[21]) rfl)
    d_program_text := dfn_of (He.glo_ok X G (c.fact 32 (f := .glo "program_text") rfl)) (c.def_ 22 (d := fnL[22]) rfl)
    d_number_of := dfn_of (He.glo_ok X G (c.fact 33 (f := .glo "number_of") rfl)) (c.def_ 23 (d := fnL[23]) rfl)
    d_head_words := dfn_of (He.glo_ok X G (c.fact 34 (f := .glo "head_words") rfl)) (c.def_ 24 (d := fnL[24]) rfl)
    d_plain_row := dfn_of (He.glo_ok X G (c.fact 35 (f := .glo "plain_row") rfl)) (c.def_ 25 (d := fnL[25]) rfl)
    d_R_init__ := mdf_of (He.meth_ok (c.fact 36 (f := .meth "RowReader" "__init__") rfl)) (c.def_ 26 (d := fnL[26]) rfl)
    d_R_level_allowed := mdf_of (He.meth_ok (c.fact 37 (f := .meth "RowReader" "level_allowed") rfl)) (c.def_ 27 (d := fnL[27]) rfl)
    d_R_close_to := mdf_of (He.meth_ok (c.fact 38 (f := .meth "RowReader" "close_to") rfl)) (c.def_ 28 (d := fnL[28]) rfl)
    d_R_take := mdf_of (He.meth_ok (c.fact 39 (f := .meth "RowReader" "take") rfl)) (c.def_ 29 (d := fnL[29]) rfl)
    d_R_is_complete := mdf_of (He.meth_ok (c.fact 40 (f := .meth "RowReader" "is_complete") rfl)) (c.def_ 30 (d := fnL[30]) rfl)
    d_read_program := dfn_of (He.glo_ok X G (c.fact 41 (f := .glo "read_program") rfl)) (c.def_ 31 (d := fnL[31]) rfl)
    d_law_state := dfn_of (He.glo_ok X G (c.fact 42 (f := .glo "_law_state") rfl)) (c.def_ 32 (d := fnL[32]) rfl)
    d_law_draw := dfn_of (He.glo_ok X G (c.fact 43 (f := .glo "_law_draw") rfl)) (c.def_ 33 (d := fnL[33]) rfl)
    d_law_words := dfn_of (He.glo_ok X G (c.fact 44 (f := .glo "_law_words") rfl)) (c.def_ 34 (d := fnL[34]) rfl)
    d_law_choose := dfn_of (He.glo_ok X G (c.fact 45 (f := .glo "_law_choose") rfl)) (c.def_ 35 (d := fnL[35]) rfl)
    d_law_plain := dfn_of (He.glo_ok X G (c.fact 46 (f := .glo "_law_plain") rfl)) (c.def_ 36 (d := fnL[36]) rfl)
    d_law_row := dfn_of (He.glo_ok X G (c.fact 47 (f := .glo "_law_row") rfl)) (c.def_ 37 (d := fnL[37]) rfl)
    d_law_rows := dfn_of (He.glo_ok X G (c.fact 48 (f := .glo "_law_rows") rfl)) (c.def_ 38 (d := fnL[38]) rfl)
    d_law_program := dfn_of (He.glo_ok X G (c.fact 49 (f := .glo "_law_program") rfl)) (c.def_ 39 (d := fnL[39]) rfl)
    d_law_special := dfn_of (He.glo_ok X G (c.fact 50 (f := .glo "_law_special") rfl)) (c.def_ 40 (d := fnL[40]) rfl)
    d_law_named := dfn_of (He.glo_ok X G (c.fact 51 (f := .glo "_law_named") rfl)) (c.def_ 41 (d := fnL[41]) rfl)
    d_law_lines := dfn_of (He.glo_ok X G (c.fact 52 (f := .glo "_law_lines") rfl)) (c.def_ 42 (d := fnL[42]) rfl)
    d_law_texted := dfn_of (He.glo_ok X G (c.fact 53 (f := .glo "_law_texted") rfl)) (c.def_ 43 (d := fnL[43]) rfl)
    d_law := dfn_of (He.glo_ok X G (c.fact 54 (f := .glo "law") rfl)) (c.def_ 44 (d := fnL[44]) rfl)
  }
theorem law_of (X : K.In h) (told : He.SaysX faL fnL tsL [] exF w h K) : ∃ fd, Fun K "law" "law" s_law (He.ga K "law") fd ∧ ∀ (s : Shared) (u : Value), BindsTo s fd ⟨[u], []⟩ [("_law_script", u)] := by
  have c : He.SaysD faL fnL K := told.t.d
  obtain ⟨fd, F⟩ := c.def_ 44 rfl
  have b := FunD.bindsA (ps := ["_law_script"]) F fun _ _ _ _ _ _ us hl => match us, hl with | [_], _ => rfl
  exact ⟨fd, He5.fun_of F, fun s u => b s [u] rfl⟩
end
end Tw

set_option Elab.async false
set_option maxRecDepth 100000
set_option maxHeartbeats 0
/-! G6: the statement. -/
open PySem PySem.W PySem.Calls PyProof.Rows
theorem PySem.Challenge.cw_thawedwrites_k70_whole_program_text_holds : PySem.Challenge.rw_thawedwrites_k70_whole_program_text.Holds := by
  w_on; o_law
  refine HandSHeadRun.head_any (r := OpenLaw.row PySem.Challenge.rw_thawedwrites_k70_whole_program_text) (q := view (OpenLaw.row PySem.Challenge.rw_thawedwrites_k70_whole_program_text).prog [56]) (H := Tw.hkX) (ob := Tw.obA) (M := 5000) (loose := Tw.looseAB) (d := HandSHeadRun.topDef (OpenLaw.row PySem.Challenge.rw_thawedwrites_k70_whole_program_text).prog 56) (kwd := []) Tw.obA_eq
    (by kernel_rfl) (fun s => by kernel_rfl) Tw.runA (by kernel_rfl) (by kernel_rfl) (by kernel_rfl) (by rfl) (by first | assumption | decide +kernel) (by decide +kernel) ⟨rfl, rfl, rfl, rfl, rfl, by decide +kernel⟩ ?hw ?hc
  case hw => w_witness2
  case hc =>
    refine Att.attach_call (l := PySem.Challenge.rw_thawedwrites_k70_whole_program_text) (n := 63) rfl (by kernel_rfl) fun w s₀ s₁ mg mb fa o pm cd doc a vs ns G Y ho hd hcd hmg hobj hints hlen hg => ?_
    obtain ⟨K, KX, c⟩ := Y
    have hmg1 : mg ("law" : PySem.Str) = some (.ref fa) := by
      have e : (HandSHeadRun.topDef (OpenLaw.row PySem.Challenge.rw_thawedwrites_k70_whole_program_text).prog 56).name = ("law" : PySem.Str) := by kernel_rfl
      rw [← e]
      exact hmg
    have T := Tw.txt_of KX G.T.g c
    obtain ⟨fd, F, b⟩ := Tw.law_of KX c
    obtain ⟨f, fd2, F2, g2⟩ := T.d_law.ex
    have e2 := hmg1.symm.trans (He.glo_ok KX G.T.g (c.t.d.fact 54 (f := .glo "law") rfl))
    cases e2
    exact Tw.law_told T F b KX G.T.g G.T.b G.T.builtins G.T.nolimit hg hobj hints (Nat.le_trans hlen (by decide))

