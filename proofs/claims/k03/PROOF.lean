import PyProof.Rows.All
import Wide.All
import OpenK.AllK
import Wide.FinOn
import HandS.ForMost
import HandS.IsInst
import HandS.Deep
import HandS.SetFor
import HandS.Rev
import HandS.SortInts
import HandS.Evl
import HandS.IsInst
import HandS.RevTup
import PySem.Challenge.RW_stuckbell_k03_what_shows
set_option Elab.async false
set_option linter.all false
set_option maxRecDepth 100000
set_option maxHeartbeats 4000000
/-! the steps that need no word -/
set_option hygiene false in
local macro_rules | `(tactic| walk_at "rd1") => `(tactic| first
  | (with_reducible refine SB.r_seq ?_)
  | ((with_reducible refine' SB.r_var ?k1 ?_); (case k1 => rfl))
  | (with_reducible refine SB.r_c ?_)
  | (with_reducible refine SB.r_op ?_)
  | ((with_reducible refine' SB.r_mul ?k1 ?_); (case k1 => first | exact Or.inr ⟨by decide, by decide⟩ | exact Or.inl ⟨by decide, by decide⟩ | exact Or.inr ⟨by omega, by omega⟩ | exact Or.inl ⟨by omega, by omega⟩))
  | ((with_reducible refine' SB.r_mod ?k1 ?_); (case k1 => first | decide | omega))
  | ((with_reducible refine' SB.r_div ?k1 ?_); (case k1 => first | exact ⟨by decide, by decide⟩ | exact ⟨by omega, by omega⟩))
  | (with_reducible refine SB.r_I0 ?_)
  | ((with_reducible refine SB.r_gname ?_); try dsimp only [List.set_cons_succ, List.set_cons_zero])
  | (with_reducible refine SB.r_asg ?_)
  | (with_reducible refine SB.r_cons ?_)
  | (with_reducible refine SB.r_nil ?_)
  | (with_reducible refine SB.r_call ?_)
  | (with_reducible refine SB.r_sp1 ?_)
  | (with_reducible refine SB.r_sp2 ?_)
  | (with_reducible refine SB.r_sp3 ?_)
  | (with_reducible refine SB.r_sp4 ?_)
  | (with_reducible refine SB.r_cb ?_)
  | (with_reducible refine SB.r_ifS ?_)
  | (with_reducible refine SB.r_test ?_)
  | (with_reducible refine SB.r_tB ?_)
  | (with_reducible refine SB.r_bl ?_)
  | (with_reducible refine SB.r_eqI ?_)
  | (with_reducible refine SB.r_eqS ?_)
  | (with_reducible refine SB.r_neI ?_)
  | (with_reducible refine SB.r_neS ?_)
  | (with_reducible refine SB.r_next ?_)
  | (with_reducible refine SB.r_ret ?_)
  | (with_reducible refine SB.r_drop ?_)
  | (with_reducible refine SB.r_not ?_)
  | (with_reducible refine SB.r_notV ?_)
  | (with_reducible refine SB.r_and ?_)
  | (with_reducible refine SB.r_or ?_)
  | (with_reducible refine SB.r_andV ?_)
  | (with_reducible refine SB.r_orV ?_)
  | (with_reducible refine SB.r_yes ?_)
  | (with_reducible refine SB.r_lst ?_)
  | (with_reducible refine SB.r_tup ?_)
  | (with_reducible refine SB.r_qIsN ?_)
  | (with_reducible refine SB.r_qNotN ?_)
  | (with_reducible refine SB.r_bm ?_)
  | (with_reducible refine SB.r_bm0 ?_)
  | (with_reducible refine SB.r_chain ?_)
  | (with_reducible refine SB.r_sl ?_)
  | (with_reducible refine SB.r_nopart ?_)
  | (with_reducible refine SB.r_part ?_)
  | (with_reducible refine SB.r_some ?_)
  | (with_reducible refine SB.r_gsub ?_)
  | (with_reducible refine SB.r_forR1 ?_)
  | (with_reducible refine SB.r_forR2 ?_)
  | (with_reducible refine SB.r_forL ?_)
  | (with_reducible refine SB.r_forT ?_)
  | (with_reducible refine SB.r_forE ?_)
  | (with_reducible refine SB.r_lcR1 ?_)
  | (with_reducible refine SB.r_lcL ?_)
  | (with_reducible refine SB.r_lcT ?_)
  | (with_reducible refine SB.r_lcE ?_)
  | (with_reducible refine SB.r_listRev0 ?_)
  | (with_reducible refine SB.r_retN ?_))
local macro_rules | `(tactic| walk_at "rd") => `(tactic| repeat (walk_at "rd1"))
/-! The state kit: a frozen part F of the heap H, a ledger L of the cells that may still change, and data over F. -/
namespace SB
open PySem L2

/-! ### the state -/
structure Zs (F0 H0 F H : Hp) (L : List (Addr × HO)) : Prop where
  ff : Same F0 F
  hh : Same H0 H
  fh : Same F H
  sep : ∀ a, F0 a = none → H0 a ≠ none → F a = none
  led : ∀ q ∈ L, H q.1 = some q.2 ∧ F q.1 = none ∧ H0 q.1 = none
  nd : (L.map (·.1)).Nodup

theorem same_none {H H' : Hp} (s : Same H H') {a : Addr} (h : H' a = none) : H a = none := s.free h
theorem some_ne {H : Hp} {a : Addr} {o : HO} (h : H a = some o) : H a ≠ none := by rw [h]; exact fun q => nomatch q
theorem same_some {H H' : Hp} (s : Same H H') {a : Addr} (h : H a ≠ none) : H' a ≠ none := by
  cases e : H a with
  | none => exact absurd e h
  | some o => rw [s a o e]; exact fun q => nomatch q
theorem same_new {H : Hp} {p : Addr} {o : HO} (h : H p = none) : Same H (upd H p o) := fun a u e => by
  rw [upd_ne (ne_of_none e h)]; exact e
theorem same_mut {H H' : Hp} {p : Addr} {o : HO} (s : Same H H') (h : H p = none) : Same H (upd H' p o) := fun a u e => by
  rw [upd_ne (ne_of_none e h)]; exact s a u e

section
variable {F0 H0 F H F' H' : Hp} {L L1 L2 : List (Addr × HO)} {p : Addr} {o o' : HO}
theorem Zs.start (h : Same F H) : Zs F H F H [] := ⟨Same.refl _, Same.refl _, h, fun _ a _ => a, fun _ q => (nomatch q), List.nodup_nil⟩
theorem Zs.get (Z : Zs F0 H0 F H L) {i : Nat} (h : L[i]? = some (p, o)) : H p = some o := (Z.led (p, o) (List.mem_of_getElem? h)).1
theorem Zs.getF (Z : Zs F0 H0 F H L) {i : Nat} (h : L[i]? = some (p, o)) : F p = none := (Z.led (p, o) (List.mem_of_getElem? h)).2.1
theorem Zs.get0 (Z : Zs F0 H0 F H L) {i : Nat} (h : L[i]? = some (p, o)) : H0 p = none := (Z.led (p, o) (List.mem_of_getElem? h)).2.2
theorem Zs.fix (Z : Zs F0 H0 F H L) {a : Addr} {u : HO} (h : F a = some u) : H a = some u := Z.fh a u h
theorem Zs.alloc (Z : Zs F0 H0 F H L) (h : H p = none) : Zs F0 H0 F (upd H p o) ((p, o) :: L) where
  ff := Z.ff
  hh := same_mut Z.hh (same_none Z.hh h)
  fh := same_mut Z.fh (same_none Z.fh h)
  sep := Z.sep
  led := fun q hq => by
    rcases List.mem_cons.mp hq with rfl | hq
    · exact ⟨upd_same, same_none Z.fh h, same_none Z.hh h⟩
    · obtain ⟨a, b, c⟩ := Z.led q hq
      exact ⟨by rw [upd_ne (ne_of_none a h)]; exact a, b, c⟩
  nd := by
    rw [List.map_cons, List.nodup_cons]
    refine ⟨fun hm => ?_, Z.nd⟩
    obtain ⟨q, hq, e⟩ := List.mem_map.mp hm
    obtain ⟨a, _, _⟩ := Z.led q hq
    have e' : q.1 = p := e
    rw [e', h] at a
    cases a
theorem Zs.sub (Z : Zs F0 H0 F H L) (h : List.Sublist L1 L) : Zs F0 H0 F H L1 where
  ff := Z.ff
  hh := Z.hh
  fh := Z.fh
  sep := Z.sep
  led := fun q hq => Z.led q (h.subset hq)
  nd := (h.map _).nodup Z.nd
theorem Zs.drop (Z : Zs F0 H0 F H (q :: L)) : Zs F0 H0 F H L := Z.sub (List.sublist_cons_self _ _)
theorem Zs.dropAt (Z : Zs F0 H0 F H L) (i : Nat) : Zs F0 H0 F H (L.eraseIdx i) := Z.sub (List.eraseIdx_sublist _ _)
theorem Zs.nil (Z : Zs F0 H0 F H L) : Zs F0 H0 F H [] := Z.sub (List.nil_sublist _)
/-- what was frozen since is forgotten -/
theorem Zs.back (Z : Zs F0 H0 F H L) (h : Same F0 H0) : Zs F0 H0 F0 H [] := ⟨Same.refl _, Z.hh, h.trans Z.hh, fun _ a _ => a, fun _ q => (nomatch q), List.nodup_nil⟩
/-- two places of the ledger are two addresses -/
theorem Zs.ne (Z : Zs F0 H0 F H L) {i j : Nat} {p q : Addr} {o u : HO} (hi : L[i]? = some (p, o)) (hj : L[j]? = some (q, u)) (n : i ≠ j) : p ≠ q := fun e => by
  have a : (L.map (·.1))[i]? = some p := by rw [List.getElem?_map, hi] <;> rfl
  have b : (L.map (·.1))[j]? = some p := by rw [List.getElem?_map, hj, e] <;> rfl
  exact n (nd_ix Z.nd a b)
theorem Zs.setAt (Z : Zs F0 H0 F H L) (i : Nat) (h : L[i]? = some (p, o)) : Zs F0 H0 F (upd H p o') (L.set i (p, o')) where
  ff := Z.ff
  hh := same_mut Z.hh (Z.get0 h)
  fh := same_mut Z.fh (Z.getF h)
  sep := Z.sep
  led := fun q hq => by
    obtain ⟨j, hj⟩ := List.mem_iff_getElem?.mp hq
    rw [List.getElem?_set] at hj
    by_cases e : i = j
    · rw [if_pos e] at hj
      split at hj
      · have e2 := Option.some.inj hj
        subst e2
        exact ⟨upd_same, Z.getF h, Z.get0 h⟩
      · cases hj
    · rw [if_neg e] at hj
      obtain ⟨a, b, c⟩ := Z.led q (List.mem_of_getElem? hj)
      have n : p ≠ q.1 := Z.ne (i := i) (j := j) (q := q.1) (u := q.2) h hj e
      exact ⟨by rw [upd_ne n.symm]; exact a, b, c⟩
  nd := by
    have e : (L.set i (p, o')).map (·.1) = L.map (·.1) := by
      rw [List.map_set]
      refine List.ext_getElem? fun j => ?_
      rw [List.getElem?_set]
      by_cases q : i = j
      · subst q
        rw [if_pos rfl, List.getElem?_map, h]
        split
        · rfl
        · rename_i z
          have := (List.getElem?_eq_some_iff.mp h).1
          rw [List.length_map] at z
          exact absurd this z
      · rw [if_neg q]
    rw [e]
    exact Z.nd
/-- a cell that does not change any more -/
theorem Zs.frzAt (Z : Zs F0 H0 F H L) (i : Nat) (h : L[i]? = some (p, o)) : ∃ F', Zs F0 H0 F' H (L.eraseIdx i) ∧ Same F F' ∧ F' p = some o := by
  have hi := (List.getElem?_eq_some_iff.mp h).1
  have hni : ∀ q ∈ L.eraseIdx i, q.1 ≠ p := fun q hq e => by
    obtain ⟨j, hj⟩ := List.mem_iff_getElem?.mp hq
    rw [List.getElem?_eraseIdx] at hj
    split at hj
    · rename_i lt
      exact Z.ne (i := i) (j := j) (q := q.1) (u := q.2) h hj (by omega) e.symm
    · rename_i lt
      exact Z.ne (i := i) (j := j + 1) (q := q.1) (u := q.2) h hj (by omega) e.symm
  refine ⟨upd F p o, ⟨fun a u e => ?_, Z.hh, fun a u e => ?_, fun a e n => ?_, fun q hq => ?_, ?_⟩, same_new (Z.getF h), upd_same⟩
  · exact same_new (Z.getF h) a u (Z.ff a u e)
  · by_cases q : a = p
    · subst q
      rw [upd_same] at e
      rw [← e]
      exact Z.get h
    · rw [upd_ne q] at e
      exact Z.fh a u e
  · by_cases q : a = p
    · subst q
      exact absurd (Z.get0 h) n
    · rw [upd_ne q]
      exact Z.sep a e n
  · obtain ⟨a, b, c⟩ := Z.led q (List.eraseIdx_subset hq)
    exact ⟨a, by rw [upd_ne (hni q hq)]; exact b, c⟩
  · exact ((List.eraseIdx_sublist _ _).map _).nodup Z.nd
/-- behind a call that changes nothing that stood -/
theorem Zs.call (Z : Zs F0 H0 F H L) (W : Zs F H F' H' []) : Zs F0 H0 F' H' L where
  ff := Z.ff.trans W.ff
  hh := Z.hh.trans W.hh
  fh := W.fh
  sep := fun a e n => W.sep a (Z.sep a e n) (same_some Z.hh n)
  led := fun q hq => by
    obtain ⟨a, b, c⟩ := Z.led q hq
    exact ⟨W.hh _ _ a, W.sep _ b (some_ne a), c⟩
  nd := Z.nd
theorem Zs.ext (Z : Zs F0 H0 F H L) (s : Same H H') : Zs F0 H0 F H' L :=
  Z.call ⟨Same.refl _, s, Z.fh.trans s, fun _ a _ => a, fun _ q => (nomatch q), List.nodup_nil⟩
theorem Zs.trans {F1 H1 : Hp} (Z : Zs F0 H0 F1 H1 []) (W : Zs F1 H1 F H L) : Zs F0 H0 F H L where
  ff := Z.ff.trans W.ff
  hh := Z.hh.trans W.hh
  fh := W.fh
  sep := fun a e n => W.sep a (Z.sep a e n) (same_some Z.hh n)
  led := fun q hq => by
    obtain ⟨a, b, c⟩ := W.led q hq
    exact ⟨a, b, same_none Z.hh c⟩
  nd := W.nd
end

/-! ### data -/
mutual
inductive Td (F : Hp) : V → PyData → Prop
  | non : Td F .non .none
  | bl (b : Bool) : Td F (.bl b) (.bool b)
  | int (i : Int) : Td F (.int i) (.int i)
  | str (x : Str) : Td F (.str x) (.str x)
  | lst {a : Addr} {xs : List V} {ds : List PyData} : F a = some (.lst xs) → TdA F xs ds → Td F (.ref a) (.list ds)
  | tup {a : Addr} {xs : List V} {ds : List PyData} : F a = some (.tup xs) → TdA F xs ds → Td F (.ref a) (.tuple ds)
inductive TdA (F : Hp) : List V → List PyData → Prop
  | nil : TdA F [] []
  | cons {v : V} {vs : List V} {d : PyData} {ds : List PyData} : Td F v d → TdA F vs ds → TdA F (v :: vs) (d :: ds)
end
mutual
theorem Td.mono {F F' : Hp} (s : Same F F') : ∀ (d : PyData) (v : V), Td F v d → Td F' v d
  | .none, _, h => by cases h; exact .non
  | .bool b, _, h => by cases h; exact .bl b
  | .int i, _, h => by cases h; exact .int i
  | .str x, _, h => by cases h; exact .str x
  | .list ds, _, h => by
    cases h with
    | lst hs ha => exact .lst (s _ _ hs) (TdA.mono s ds _ ha)
  | .tuple ds, _, h => by
    cases h with
    | tup hs ha => exact .tup (s _ _ hs) (TdA.mono s ds _ ha)
  | .dict _, _, h => by cases h
theorem TdA.mono {F F' : Hp} (s : Same F F') : ∀ (ds : List PyData) (vs : List V), TdA F vs ds → TdA F' vs ds
  | [], _, h => by cases h; exact .nil
  | d :: ds, _, h => by
    cases h with
    | cons h1 h2 => exact .cons (Td.mono s d _ h1) (TdA.mono s ds _ h2)
end
mutual
theorem Td.dp {K : PySem.W.Frag} {F : Hp} : ∀ (d : PyData) (v : V), Td F v d → Dp K F v d
  | .none, _, h => by cases h; exact .non
  | .bool b, _, h => by cases h; exact .bl b
  | .int i, _, h => by cases h; exact .int i
  | .str x, _, h => by cases h; exact .str x
  | .list ds, _, h => by
    cases h with
    | lst hs ha => exact .lst (SqL.of hs) (TdA.dp ds _ ha)
  | .tuple ds, _, h => by
    cases h with
    | tup hs ha => exact .tup (SqT.of hs) (TdA.dp ds _ ha)
  | .dict _, _, h => by cases h
theorem TdA.dp {K : PySem.W.Frag} {F : Hp} : ∀ (ds : List PyData) (vs : List V), TdA F vs ds → DpAll K F vs ds
  | [], _, h => by cases h; exact .nil
  | d :: ds, _, h => by
    cases h with
    | cons h1 h2 => exact .cons (Td.dp d _ h1) (TdA.dp ds _ h2)
end
section
variable {F F' H : Hp} {v : V} {vs ws : List V} {d : PyData} {ds es : List PyData}
theorem Td.up (h : Td F v d) (s : Same F F') : Td F' v d := Td.mono s d v h
theorem TdA.up (h : TdA F vs ds) (s : Same F F') : TdA F' vs ds := TdA.mono s ds vs h
theorem TdA.len : ∀ {vs : List V} {ds : List PyData}, TdA F vs ds → vs.length = ds.length
  | _, _, .nil => rfl
  | _, _, .cons _ h => by rw [List.length_cons, List.length_cons, TdA.len h]
theorem TdA.append : ∀ {vs ws : List V} {ds es : List PyData}, TdA F vs ds → TdA F ws es → TdA F (vs ++ ws) (ds ++ es)
  | _, _, _, _, .nil, h => h
  | _, _, _, _, .cons h1 h2, h => .cons h1 (TdA.append h2 h)
theorem TdA.snoc (h : TdA F vs ds) (k : Td F v d) : TdA F (vs ++ [v]) (ds ++ [d]) := h.append (.cons k .nil)
theorem TdA.get : ∀ {vs : List V} {ds : List PyData} {i : Nat} {d : PyData}, TdA F vs ds → ds[i]? = some d → ∃ v, vs[i]? = some v ∧ Td F v d
  | _, _, _, _, .nil, h => by simp at h
  | _, _, 0, _, .cons h1 _, h => by simp at h; subst h; exact ⟨_, rfl, h1⟩
  | _, _, i + 1, _, .cons _ h2, h => by
    obtain ⟨v, a, b⟩ := TdA.get (i := i) h2 (by simpa using h)
    exact ⟨v, by simpa using a, b⟩
theorem TdA.at : ∀ {vs : List V} {ds : List PyData} {i : Nat} {v : V}, TdA F vs ds → vs[i]? = some v → ∃ d, ds[i]? = some d ∧ Td F v d
  | _, _, _, _, .nil, h => by simp at h
  | _, _, 0, _, .cons h1 _, h => by simp at h; subst h; exact ⟨_, rfl, h1⟩
  | _, _, i + 1, _, .cons _ h2, h => by
    obtain ⟨v, a, b⟩ := TdA.at (i := i) h2 (by simpa using h)
    exact ⟨v, by simpa using a, b⟩
theorem TdA.set : ∀ {vs : List V} {ds : List PyData} (i : Nat), TdA F vs ds → Td F v d → TdA F (vs.set i v) (ds.set i d)
  | _, _, _, .nil, _ => .nil
  | _, _, 0, .cons _ h2, k => .cons k h2
  | _, _, i + 1, .cons h1 h2, k => .cons h1 (TdA.set i h2 k)
theorem TdA.take : ∀ {vs : List V} {ds : List PyData} (i : Nat), TdA F vs ds → TdA F (vs.take i) (ds.take i)
  | _, _, 0, _ => .nil
  | _, _, _ + 1, .nil => .nil
  | _, _, i + 1, .cons h1 h2 => .cons h1 (TdA.take i h2)
theorem TdA.drop : ∀ {vs : List V} {ds : List PyData} (i : Nat), TdA F vs ds → TdA F (vs.drop i) (ds.drop i)
  | _, _, 0, h => h
  | _, _, _ + 1, .nil => .nil
  | _, _, i + 1, .cons _ h2 => TdA.drop i h2
theorem TdA.of_map {α : Type} {f : α → V} {g : α → PyData} (h : ∀ a, Td F (f a) (g a)) : ∀ l : List α, TdA F (l.map f) (l.map g)
  | [] => .nil
  | a :: l => .cons (h a) (TdA.of_map h l)
theorem TdA.ints (l : List Int) : TdA F (l.map V.int) (l.map PyData.int) := TdA.of_map (fun a => .int a) l
theorem TdA.bools (l : List Bool) : TdA F (l.map V.bl) (l.map PyData.bool) := TdA.of_map (fun a => .bl a) l
theorem TdA.of_ints : ∀ {vs : List V} {l : List Int}, TdA F vs (l.map PyData.int) → vs = l.map V.int
  | _, [], .nil => rfl
  | _, _ :: l, .cons (.int _) h => by rw [List.map_cons, TdA.of_ints h]
theorem TdA.of_bools : ∀ {vs : List V} {l : List Bool}, TdA F vs (l.map PyData.bool) → vs = l.map V.bl
  | _, [], .nil => rfl
  | _, _ :: l, .cons (.bl _) h => by rw [List.map_cons, TdA.of_bools h]
theorem Td.ints_lst {a : Addr} {l : List Int} (h : F a = some (.lst (l.map V.int))) : Td F (.ref a) (.list (l.map PyData.int)) := .lst h (TdA.ints l)
theorem Td.inv_lst (h : Td F v (.list ds)) : ∃ a xs, v = .ref a ∧ F a = some (.lst xs) ∧ TdA F xs ds := by
  cases h with
  | lst a b => exact ⟨_, _, rfl, a, b⟩
theorem Td.inv_tup (h : Td F v (.tuple ds)) : ∃ a xs, v = .ref a ∧ F a = some (.tup xs) ∧ TdA F xs ds := by
  cases h with
  | tup a b => exact ⟨_, _, rfl, a, b⟩
theorem Td.inv_ints {l : List Int} (h : Td F v (.list (l.map PyData.int))) : ∃ a, v = .ref a ∧ F a = some (.lst (l.map V.int)) := by
  obtain ⟨a, xs, rfl, h1, h2⟩ := h.inv_lst
  rw [h2.of_ints] at h1
  exact ⟨a, rfl, h1⟩
theorem Td.inv_int {n : Int} (h : Td F v (.int n)) : v = .int n := by cases h; rfl
theorem Td.inv_bl {n : Bool} (h : Td F v (.bool n)) : v = .bl n := by cases h; rfl
theorem Td.inv_str {n : Str} (h : Td F v (.str n)) : v = .str n := by cases h; rfl
theorem Td.inv_non (h : Td F v .none) : v = .non := by cases h; rfl
end

/-! ### readings, one construct a row -/
section
variable {K : PySem.W.Frag} {σ : St} {H : Hp} {Q : VK} {D : Ends} {t u : TS} {ta tb tc : TE} {tt tu : TT} {v x y : V} {r : R2} {i j : Int} {n : Nat} {b c : Bool}
theorem r_seq (h : t { D with nx := u D } σ H) : tSeq t u D σ H := h
theorem r_next (h : D.nx σ H) : tNext D σ H := h
theorem r_ret (h : ta σ H D.rt) : tRet ta D σ H := h
theorem r_retN (h : D.rt .non H) : tRetN D σ H := h
theorem r_drop (h : ta σ H fun _ H1 => D.nx σ H1) : tDrop ta D σ H := h
theorem r_asg {g : TG} (h : ta σ H fun x H1 => g x σ H1 D.nx) : tAsg ta g D σ H := h
theorem r_gname {Q : St → Hp → Prop} (h : Q (σ.set n (some v)) H) : gName n v σ H Q := h
theorem r_ifS (h : tt σ H fun b H1 => if b = true then t D σ H1 else u D σ H1) : tIfS tt t u D σ H := h
theorem r_var (h : σ[n]? = some (some v)) (k : Q v H) : tVar n σ H Q := ⟨v, h, k⟩
theorem r_c (k : Q v H) : tC v σ H Q := k
theorem r_op (h : ta σ H fun x H1 => tb σ H1 fun y H2 => r x y H2 Q) : tOp r ta tb σ H Q := h
theorem r_I0 {g : Int → Int → V} (k : Q (g i j) H) : rI0 g (.int i) (.int j) H Q := ⟨i, j, rfl, rfl, k⟩
theorem r_I {C : Int → Int → Prop} {g : Int → Int → V} (hc : C i j) (k : Q (g i j) H) : rI C g (.int i) (.int j) H Q := ⟨i, j, rfl, rfl, hc, k⟩
theorem r_mul {g : Int → Int → V} (hc : CMul i j) (k : Q (g i j) H) : rI CMul g (.int i) (.int j) H Q := ⟨i, j, rfl, rfl, hc, k⟩
theorem r_div {g : Int → Int → V} (hc : CDiv i j) (k : Q (g i j) H) : rI CDiv g (.int i) (.int j) H Q := ⟨i, j, rfl, rfl, hc, k⟩
theorem r_mod {g : Int → Int → V} (hc : 0 < j) (k : Q (g i j) H) : rI (fun _ j => 0 < j) g (.int i) (.int j) H Q := ⟨i, j, rfl, rfl, hc, k⟩
theorem dec_vi {i j : Int} : decide (V.int i = V.int j) = decide (i = j) := by
  by_cases e : i = j
  · rw [decide_eq_true e, decide_eq_true (by rw [e])]
  · rw [decide_eq_false e, decide_eq_false (fun q => e (V.int.inj q))]
theorem dec_vs {i j : Str} : decide (V.str i = V.str j) = decide (i = j) := by
  by_cases e : i = j
  · rw [decide_eq_true e, decide_eq_true (by rw [e])]
  · rw [decide_eq_false e, decide_eq_false (fun q => e (V.str.inj q))]
theorem dec_vb {i j : Bool} : decide (V.bl i = V.bl j) = (i == j) := by
  cases i <;> cases j <;> rfl
theorem r_eqI (k : Q (.bl (decide (i = j))) H) : rEq (.int i) (.int j) H Q := ⟨rfl, by rw [dec_vi]; exact k⟩
theorem r_eqS {i j : Str} (k : Q (.bl (decide (i = j))) H) : rEq (.str i) (.str j) H Q := ⟨rfl, by rw [dec_vs]; exact k⟩
theorem r_eqB {i j : Bool} (k : Q (.bl (i == j)) H) : rEq (.bl i) (.bl j) H Q := ⟨rfl, by rw [dec_vb]; exact k⟩
theorem r_neI (k : Q (.bl (!decide (i = j))) H) : rNe (.int i) (.int j) H Q := ⟨rfl, by rw [dec_vi]; exact k⟩
theorem r_neS {i j : Str} (k : Q (.bl (!decide (i = j))) H) : rNe (.str i) (.str j) H Q := ⟨rfl, by rw [dec_vs]; exact k⟩
theorem r_neB {i j : Bool} (k : Q (.bl (!(i == j))) H) : rNe (.bl i) (.bl j) H Q := ⟨rfl, by rw [dec_vb]; exact k⟩
theorem r_bl {P : Bool → Prop} (k : P b) : ∃ k, V.bl b = V.bl k ∧ P k := ⟨b, rfl, k⟩
theorem r_test {Q : Bool → Hp → Prop} (h : ta σ H fun x H' => ∃ k, x = .bl k ∧ Q k H') : tTest ta σ H Q := h
theorem r_tB {Q : Bool → Hp → Prop} (h : ta σ H fun x H' => ∃ k, x = .bl k ∧ Q k H') : tB ta σ H Q := h
theorem r_not {Q : Bool → Hp → Prop} (h : tt σ H fun c H1 => Q (!c) H1) : tNot tt σ H Q := h
theorem r_notV (h : ta σ H fun x H1 => ∃ c, x = .bl c ∧ Q (.bl (!c)) H1) : tNotV ta σ H Q := h
theorem r_and {Q : Bool → Hp → Prop} (h : tt σ H fun c H1 => if c = true then tu σ H1 Q else Q false H1) : tAnd tt tu σ H Q := h
theorem r_or {Q : Bool → Hp → Prop} (h : tt σ H fun c H1 => if c = true then Q true H1 else tu σ H1 Q) : tOr tt tu σ H Q := h
theorem r_andV (h : ta σ H fun x H1 => ∃ c, x = .bl c ∧ if c = true then tb σ H1 Q else Q (.bl false) H1) : tAndV ta tb σ H Q := h
theorem r_orV (h : ta σ H fun x H1 => ∃ c, x = .bl c ∧ if c = true then Q (.bl true) H1 else tb σ H1 Q) : tOrV ta tb σ H Q := h
theorem r_yes {Q : Bool → Hp → Prop} (h : Q true H) : tYes σ H Q := h
theorem r_if {tA : TT} (h : tA σ H fun c H1 => if c = true then ta σ H1 Q else tb σ H1 Q) : tIf tA ta tb σ H Q := h
theorem r_nil {Q : List V → Hp → Prop} (h : Q [] H) : tNil σ H Q := h
theorem r_cons {tr : TA} {Q : List V → Hp → Prop} (h : ta σ H fun x H1 => tr σ H1 fun xs H2 => Q (x :: xs) H2) : tCons ta tr σ H Q := h
/-- a new object is laid -/
def NewO (o : HO) (H : Hp) (Q : VK) : Prop := ∀ p, H p = none → Q (.ref p) (upd H p o)
theorem r_tup {t : TA} (h : t σ H fun xs H1 => xs.length ≤ sizeLine ∧ NewO (.tup xs) H1 Q) : tTup t σ H Q := h
theorem r_lst {t : TA} (h : t σ H fun xs H1 => xs.length ≤ sizeLine ∧ NewO (.lst xs) H1 Q) : tLst t σ H Q := h
theorem r_call {sp : Sp} {dvs : List V} {E : XK} {t : TA} (h : t σ H fun vs H1 => sp (vs ++ dvs) H1 Q E) : tCall sp dvs E t σ H Q := h
theorem r_cb {r : List V → Hp → VK → Prop} {t : TA} (h : t σ H fun vs H1 => r vs H1 Q) : tCB r t σ H Q := h
theorem r_bm {T : String} {r : V → List V → Hp → VK → Prop} {t : TA} (h : ta σ H fun x H1 => tyV K T x H1 ∧ t σ H1 fun xs H2 => r x xs H2 Q) : tBM K T r ta t σ H Q := h
theorem r_bm0 {T : String} {r : V → List V → Hp → VK → Prop} (h : ta σ H fun x H1 => tyV K T x H1 ∧ r x [] H1 Q) : tBM0 K T r ta σ H Q := h
theorem r_isN (k : Q (.bl (decide (x = .non))) H) : (fun x y H Q => y = V.non ∧ Q (.bl (decide (x = .non))) H : R2) x .non H Q := ⟨rfl, k⟩
theorem sz_of {n : Nat} (h : n ≤ 100000) : n ≤ sizeLine := Nat.le_trans h (by decide)
theorem sz0 : ([] : List V).length ≤ sizeLine := Nat.zero_le _
theorem sz1 {a : V} : [a].length ≤ sizeLine := by show 1 ≤ sizeLine; decide
theorem sz2 {a b : V} : [a, b].length ≤ sizeLine := by show 2 ≤ sizeLine; decide
theorem sz3 {a b c : V} : [a, b, c].length ≤ sizeLine := by show 3 ≤ sizeLine; decide
theorem sz5 {a b c d e : V} : [a, b, c, d, e].length ≤ sizeLine := by show 5 ≤ sizeLine; decide
theorem sz_lt {n : Nat} (h : n < 100000) : n < sizeLine := Nat.lt_of_lt_of_le h (by decide)
/-- an if over a decided test -/
theorem ifd {p A B : Prop} [Decidable p] (h1 : p → A) (h2 : ¬ p → B) : if decide p = true then A else B := by
  by_cases h : p
  · rw [if_pos (decide_eq_true h)]; exact h1 h
  · rw [if_neg (by rw [decide_eq_false h]; decide)]; exact h2 h
theorem ifn {p A B : Prop} [Decidable p] (h1 : ¬ p → A) (h2 : p → B) : if (!decide p) = true then A else B := by
  by_cases h : p
  · rw [if_neg (by rw [decide_eq_true h]; decide)]; exact h2 h
  · rw [if_pos (by rw [decide_eq_false h]; rfl)]; exact h1 h
theorem ifb {A B : Prop} (h1 : b = true → A) (h2 : b = false → B) : if b = true then A else B := by
  cases b with
  | true => exact h1 rfl
  | false => exact h2 rfl
theorem ifnb {A B : Prop} (h1 : b = false → A) (h2 : b = true → B) : if (!b) = true then A else B := by
  cases b with
  | true => exact h2 rfl
  | false => exact h1 rfl
theorem ifT {A B : Prop} (h : b = true) (k : A) : if b = true then A else B := by rw [if_pos h]; exact k
theorem ifF {A B : Prop} (h : b = false) (k : B) : if b = true then A else B := by rw [if_neg (by rw [h]; decide)]; exact k
/-- items of a list, a tuple -/
theorem r_ixL {p : Addr} {xs : List V} (hs : SqL K H p xs) (ha : atI xs i = some v) (k : Q v H) : rIxL K (.ref p) (.int i) H Q := ⟨p, xs, i, v, rfl, rfl, hs, ha, k⟩
theorem r_ixT {p : Addr} {xs : List V} (hs : SqT K H p xs) (ha : atI xs i = some v) (k : Q v H) : rIxT K (.ref p) (.int i) H Q := ⟨p, xs, i, v, rfl, rfl, hs, ha, k⟩
theorem at_i {α : Type} {xs : List α} {i : Int} {v : α} (h0 : 0 ≤ i) (h : xs[i.toNat]? = some v) : atI xs i = some v := by
  obtain ⟨k, rfl⟩ := Int.eq_ofNat_of_zero_le h0
  exact atI_nat h
theorem r_inL {neg : Bool} {p : Addr} {xs : List V} (hs : SqL K H p xs) (hx : flatV x = true) (ha : xs.all flatV = true) (k : Q (.bl (if neg then !inV x xs else inV x xs)) H) : rIn K neg x (.ref p) H Q := ⟨p, xs, rfl, .inl hs, hx, ha, k⟩
theorem r_inT {neg : Bool} {p : Addr} {xs : List V} (hs : SqT K H p xs) (hx : flatV x = true) (ha : xs.all flatV = true) (k : Q (.bl (if neg then !inV x xs else inV x xs)) H) : rIn K neg x (.ref p) H Q := ⟨p, xs, rfl, .inr hs, hx, ha, k⟩
/-- data compared -/
theorem r_eqD {d e : PyData} (h1 : Td H x d) (h2 : Td H y e) (s1 : SeqAt.shaped d = true) (s2 : SeqAt.shaped e = true) (k : Q (.bl (PyData.eqv d e)) H) : rEqD K x y H Q := ⟨d, e, Td.dp d x h1, Td.dp e y h2, s1, s2, k⟩
theorem r_neD {d e : PyData} (h1 : Td H x d) (h2 : Td H y e) (s1 : SeqAt.shaped d = true) (s2 : SeqAt.shaped e = true) (k : Q (.bl (!PyData.eqv d e)) H) : rNeD K x y H Q := ⟨d, e, Td.dp d x h1, Td.dp e y h2, s1, s2, k⟩
end
section
variable {F0 H0 F H : Hp} {L : List (Addr × HO)} {Q : VK}
/-- a new object -/
theorem r_mk {o : HO} {A : Prop} (a : A) (Z : Zs F0 H0 F H L) (k : ∀ p H', Zs F0 H0 F H' ((p, o) :: L) → Q (.ref p) H') : A ∧ NewO o H Q := ⟨a, fun p hp => k p _ (Z.alloc hp)⟩
end
end SB
/-! Loops and comprehensions over the state kit; named operators. -/
namespace SB
open PySem L2

/-! ### operators by short names -/
abbrev qAdd : R2 := rI0 fun i j => .int (i + j)
abbrev qSub : R2 := rI0 fun i j => .int (i - j)
abbrev qMul : R2 := rI CMul fun i j => .int (i * j)
abbrev qDiv : R2 := rI CDiv fun i j => .int (i / j)
abbrev qMod : R2 := rI (fun _ j => 0 < j) fun i j => .int (i % j)
abbrev qLt : R2 := rI0 fun i j => .bl (decide (i < j))
abbrev qLe : R2 := rI0 fun i j => .bl (decide (i ≤ j))
abbrev qGt : R2 := rI0 fun i j => .bl (decide (j < i))
abbrev qGe : R2 := rI0 fun i j => .bl (decide (j ≤ i))
def qIsN : R2 := fun x y H Q => y = .non ∧ Q (.bl (decide (x = .non))) H
def qNotN : R2 := fun x y H Q => y = .non ∧ Q (.bl (!decide (x = .non))) H
def qLen (K : PySem.W.Frag) : List V → Hp → VK → Prop := fun xs H Q => ∃ p ys, xs = [.ref p] ∧ (SqL K H p ys ∨ SqT K H p ys) ∧ Q (.int ys.length) H
def qListOf (K : PySem.W.Frag) : List V → Hp → VK → Prop := fun xs H Q => ∃ p ys, xs = [.ref p] ∧ (SqL K H p ys ∨ SqT K H p ys) ∧ ∀ l, H l = none → Q (.ref l) (upd H l (.lst ys))
def qInt1 : List V → Hp → VK → Prop := fun xs H Q => (∃ i, xs = [.int i] ∧ Q (.int i) H) ∨ ∃ k, xs = [.bl k] ∧ Q (.int (if k then 1 else 0)) H
section
variable {X : Cx}
theorem op_isNq : OpR X (compareOp .Is) qIsN := op_isN
theorem op_notNq : OpR X (compareOp .IsNot) qNotN := op_notN
theorem call_lenq : CallR X (.builtin "len") (qLen X.K) := call_len_seq
theorem call_listq : CallR X (.type "list") (qListOf X.K) := call_list_of
theorem call_int1q : CallR X (.type "int") qInt1 := call_int1
end
section
variable {K : PySem.W.Frag} {σ : St} {H : Hp} {Q : VK} {x v : V} {p : Addr} {ys : List V} {i : Int} {b : Bool}
theorem r_qIsN (k : Q (.bl (decide (x = .non))) H) : qIsN x .non H Q := ⟨rfl, k⟩
theorem r_qNotN (k : Q (.bl (!decide (x = .non))) H) : qNotN x .non H Q := ⟨rfl, k⟩
theorem r_qIsN_t (k : Q (.bl true) H) : qIsN .non .non H Q := ⟨rfl, k⟩
theorem r_lenL (h : SqL K H p ys) (k : Q (.int (ys.length : Int)) H) : qLen K [.ref p] H Q := ⟨p, ys, rfl, .inl h, k⟩
theorem r_lenT (h : SqT K H p ys) (k : Q (.int (ys.length : Int)) H) : qLen K [.ref p] H Q := ⟨p, ys, rfl, .inr h, k⟩
theorem r_listL {F0 H0 F : Hp} {L : List (Addr × HO)} (h : SqL K H p ys) (Z : Zs F0 H0 F H L) (k : ∀ l H', Zs F0 H0 F H' ((l, .lst ys) :: L) → Q (.ref l) H') : qListOf K [.ref p] H Q := ⟨p, ys, rfl, .inl h, fun l hl => k l _ (Z.alloc hl)⟩
theorem r_intB (k : Q (.int (if b then 1 else 0)) H) : qInt1 [.bl b] H Q := .inr ⟨b, rfl, k⟩
theorem r_intI (k : Q (.int i) H) : qInt1 [.int i] H Q := .inl ⟨i, rfl, k⟩
end

/-! ### a list's methods over the ledger -/
section
variable {K : PySem.W.Frag} {F0 H0 F H : Hp} {L : List (Addr × HO)} {Q : VK} {l b : Addr} {xs zs : List V} {y : V} {i : Nat}
theorem ty_l (h : SqL K H l xs) : tyV K "list" (.ref l) H := .inl ⟨rfl, _, h⟩
theorem r_append (i : Nat) (Z : Zs F0 H0 F H L) (h : L[i]? = some (l, .lst xs)) (hz : xs.length < 100000) (k : ∀ H', Zs F0 H0 F H' (L.set i (l, .lst (xs ++ [y]))) → Q .non H') : rAppend (.ref l) [y] H Q :=
  ⟨l, xs, y, rfl, rfl, Z.get h, sz_lt hz, k _ (Z.setAt i h)⟩
theorem r_extend (i : Nat) (Z : Zs F0 H0 F H L) (h : L[i]? = some (l, .lst xs)) (hb : H b = some (.lst zs)) (hz : xs.length + zs.length ≤ 100000) (k : ∀ H', Zs F0 H0 F H' (L.set i (l, .lst (xs ++ zs))) → Q .non H') : rExtend (.ref l) [.ref b] H Q :=
  ⟨l, b, xs, zs, rfl, rfl, Z.get h, hb, sz_of hz, k _ (Z.setAt i h)⟩
theorem r_setL (i : Nat) {j : Nat} {v : V} {c : Int} {Q : Hp → Prop} (Z : Zs F0 H0 F H L) (h : L[i]? = some (l, .lst xs)) (hc : c = (j : Int)) (hj : j < xs.length) (k : ∀ H', Zs F0 H0 F H' (L.set i (l, .lst (xs.set j v))) → Q H') : rSetL (.ref l) (.int c) v H Q := by
  subst hc
  refine ⟨l, xs, (j : Int), j, rfl, rfl, Z.get h, ?_, k _ (Z.setAt i h)⟩
  unfold ixN
  rw [if_pos (by omega), if_pos (by omega)]
  simp
theorem r_cat {a : Addr} (Z : Zs F0 H0 F H L) (ha : H a = some (.lst xs)) (hb : H b = some (.lst zs)) (hz : xs.length + zs.length ≤ 100000) (k : ∀ p H', Zs F0 H0 F H' ((p, .lst (xs ++ zs)) :: L) → Q (.ref p) H') : rCat (.ref a) (.ref b) H Q :=
  ⟨a, b, xs, zs, rfl, rfl, ha, hb, sz_of hz, fun p hp => k p _ (Z.alloc hp)⟩
theorem r_rep {a : Addr} {n : Int} (Z : Zs F0 H0 F H L) (ha : H a = some (.lst xs)) (h0 : 0 ≤ n) (h1 : n ≤ 100000) (hz : xs.length * n.toNat ≤ 100000) (k : ∀ p H', Zs F0 H0 F H' ((p, .lst (List.flatten (List.replicate n.toNat xs))) :: L) → Q (.ref p) H') : rRep (.ref a) (.int n) H Q := by
  refine ⟨a, n, xs, rfl, rfl, ha, by omega, by omega, sz_of hz, fun p hp => ?_⟩
  exact k p _ (Z.alloc hp)
theorem r_slL {a : Addr} {lo hi : Option Int} (Z : Zs F0 H0 F H L) (ha : SqL K H a xs) (k : ∀ p H', Zs F0 H0 F H' ((p, .lst (cutV xs lo hi)) :: L) → Q (.ref p) H') : rSlL K (.ref a) lo hi H Q := ⟨a, xs, rfl, ha, fun p hp => k p _ (Z.alloc hp)⟩
end

/-! ### for loops -/
/-- what a for over range(n) asks behind its argument -/
def FR1 (j : Nat) (tb : TS) (D : Ends) (σ : St) (vs : List V) (H1 : Hp) : Prop := ∃ n : Int, vs = [.int n] ∧ -(2 ^ 62) ≤ n ∧ n < 2 ^ 62 ∧ ∃ W : Nat → Nat → St → Hp → Prop, (∃ m, W 0 m σ H1) ∧ ∀ i m σ H, W i m σ H →
  ((Itr 0 n.toNat).stop i H ∧ D.nx σ H) ∨ ((Itr 0 n.toNat).go i H ∧ ∃ N : St → Hp → Prop, (∀ σ' H', N σ' H' → ∃ m', m' < m ∧ W (i + 1) m' σ' H') ∧ ∀ x H', (Itr 0 n.toNat).yld i H x H' → gName j x σ H' fun σ2 H2 => tb { D with nx := N, ct := N, bk := D.nx } σ2 H2)
def FR2 (j : Nat) (tb : TS) (D : Ends) (σ : St) (vs : List V) (H1 : Hp) : Prop := ∃ lo n : Int, vs = [.int lo, .int n] ∧ (-(2 ^ 62) ≤ lo ∧ lo < 2 ^ 62 ∧ -(2 ^ 62) ≤ n ∧ n < 2 ^ 62) ∧ ∃ W : Nat → Nat → St → Hp → Prop, (∃ m, W 0 m σ H1) ∧ ∀ i m σ H, W i m σ H →
  ((Itr lo (n - lo).toNat).stop i H ∧ D.nx σ H) ∨ ((Itr lo (n - lo).toNat).go i H ∧ ∃ N : St → Hp → Prop, (∀ σ' H', N σ' H' → ∃ m', m' < m ∧ W (i + 1) m' σ' H') ∧ ∀ x H', (Itr lo (n - lo).toNat).yld i H x H' → gName j x σ H' fun σ2 H2 => tb { D with nx := N, ct := N, bk := D.nx } σ2 H2)
/-- .. a for over a list -/
def FRL (K : PySem.W.Frag) (g : TG) (tb : TS) (D : Ends) (σ : St) (x : V) (H1 : Hp) : Prop := ∃ a, x = .ref a ∧ (∃ xs, SqL K H1 a xs) ∧ ∃ W : Nat → Nat → St → Hp → Prop, (∃ m, W 0 m σ H1) ∧ ∀ i m σ H, W i m σ H →
  ((Itl K a).stop i H ∧ D.nx σ H) ∨ ((Itl K a).go i H ∧ ∃ N : St → Hp → Prop, (∀ σ' H', N σ' H' → ∃ m', m' < m ∧ W (i + 1) m' σ' H') ∧ ∀ x H', (Itl K a).yld i H x H' → g x σ H' fun σ2 H2 => tb { D with nx := N, ct := N, bk := D.nx } σ2 H2)
/-- .. a for over a tuple -/
def FRT (K : PySem.W.Frag) (g : TG) (tb : TS) (D : Ends) (σ : St) (x : V) (H1 : Hp) : Prop := ∃ a, x = .ref a ∧ (∃ xs, SqT K H1 a xs) ∧ ∃ W : Nat → Nat → St → Hp → Prop, (∃ m, W 0 m σ H1) ∧ ∀ i m σ H, W i m σ H →
  ((Itt K a).stop i H ∧ D.nx σ H) ∨ ((Itt K a).go i H ∧ ∃ N : St → Hp → Prop, (∀ σ' H', N σ' H' → ∃ m', m' < m ∧ W (i + 1) m' σ' H') ∧ ∀ x H', (Itt K a).yld i H x H' → g x σ H' fun σ2 H2 => tb { D with nx := N, ct := N, bk := D.nx } σ2 H2)
/-- .. a for over enumerate(list) -/
def FRE (K : PySem.W.Frag) (g : TG) (tb : TS) (D : Ends) (σ : St) (vs : List V) (H1 : Hp) : Prop := ∃ a xs, vs = [.ref a] ∧ SqL K H1 a xs ∧ ∃ W : Nat → Nat → St → Hp → Prop, (∃ m, W 0 m σ H1) ∧ ∀ i m σ H, W i m σ H →
  ((Ite K a).stop i H ∧ D.nx σ H) ∨ ((Ite K a).go i H ∧ ∃ N : St → Hp → Prop, (∀ σ' H', N σ' H' → ∃ m', m' < m ∧ W (i + 1) m' σ' H') ∧ ∀ x H', (Ite K a).yld i H x H' → g x σ H' fun σ2 H2 => tb { D with nx := N, ct := N, bk := D.nx } σ2 H2)
section
variable {K : PySem.W.Frag} {σ : St} {H : Hp} {Q : VK} {D : Ends} {ta : TA} {te : TE} {tb : TS} {j : Nat} {g : TG} {a : Addr} {xs : List V}
theorem r_forR1 (h : ta σ H (FR1 j tb D σ)) : tFor (iRng1 ta) (gName j) tb D σ H := h
theorem r_forR2 (h : ta σ H (FR2 j tb D σ)) : tFor (iRng2 ta) (gName j) tb D σ H := h
theorem r_forL (h : te σ H (FRL K g tb D σ)) : tFor (iList K te) g tb D σ H := h
theorem r_forT (h : te σ H (FRT K g tb D σ)) : tFor (iTup K te) g tb D σ H := h
theorem r_forE (h : ta σ H (FRE K g tb D σ)) : tFor (iEnum K ta) g tb D σ H := h
theorem r_rng1 {n : Int} (hn : 0 ≤ n ∧ n ≤ 100000) (Pv : Nat → St → Hp → Prop) (h0 : Pv 0 σ H)
    (hs : ∀ (i : Nat) σ' H', (i : Int) < n → Pv i σ' H' → tb { D with nx := Pv (i + 1), ct := Pv (i + 1), bk := D.nx } (σ'.set j (some (.int (i : Int)))) H')
    (hd : ∀ σ' H', Pv n.toNat σ' H' → D.nx σ' H') : FR1 j tb D σ [.int n] H :=
  ⟨n, rfl, by omega, by omega, for_range (lo := 0) (n := n.toNat) Pv h0 (fun i σ' H' hi p => by
    have e0 : (0 : Int) + (i : Int) = (i : Int) := Int.zero_add _
    show tb { D with nx := Pv (i + 1), ct := Pv (i + 1), bk := D.nx } (σ'.set j (some (.int ((0 : Int) + (i : Int))))) H'
    rw [e0]
    exact hs i σ' H' (by omega) p) hd⟩
theorem r_rng2 {lo n : Int} (hn : 0 ≤ lo ∧ lo ≤ 100000 ∧ -100000 ≤ n ∧ n ≤ 100000) (Pv : Nat → St → Hp → Prop) (h0 : Pv 0 σ H)
    (hs : ∀ (i : Nat) σ' H', lo + (i : Int) < n → Pv i σ' H' → tb { D with nx := Pv (i + 1), ct := Pv (i + 1), bk := D.nx } (σ'.set j (some (.int (lo + (i : Int))))) H')
    (hd : ∀ σ' H', Pv (n - lo).toNat σ' H' → D.nx σ' H') : FR2 j tb D σ [.int lo, .int n] H :=
  ⟨lo, n, rfl, ⟨by omega, by omega, by omega, by omega⟩, for_range (lo := lo) (n := (n - lo).toNat) Pv h0 (fun i σ' H' hi p => hs i σ' H' (by omega) p) hd⟩
theorem r_lstI (hx : SqL K H a xs) (Pv : Nat → St → Hp → Prop) (h0 : Pv 0 σ H) (hl : ∀ i σ' H', i ≤ xs.length → Pv i σ' H' → SqL K H' a xs)
    (hs : ∀ i x σ' H', xs[i]? = some x → Pv i σ' H' → g x σ' H' fun σ2 H2 => tb { D with nx := Pv (i + 1), ct := Pv (i + 1), bk := D.nx } σ2 H2)
    (hd : ∀ σ' H', Pv xs.length σ' H' → D.nx σ' H') : FRL K g tb D σ (.ref a) H := ⟨a, rfl, ⟨xs, hx⟩, for_list Pv h0 hl hs hd⟩
theorem r_tupI (hx : SqT K H a xs) (Pv : Nat → St → Hp → Prop) (h0 : Pv 0 σ H) (hl : ∀ i σ' H', i ≤ xs.length → Pv i σ' H' → SqT K H' a xs)
    (hs : ∀ i x σ' H', xs[i]? = some x → Pv i σ' H' → g x σ' H' fun σ2 H2 => tb { D with nx := Pv (i + 1), ct := Pv (i + 1), bk := D.nx } σ2 H2)
    (hd : ∀ σ' H', Pv xs.length σ' H' → D.nx σ' H') : FRT K g tb D σ (.ref a) H := ⟨a, rfl, ⟨xs, hx⟩, for_tup Pv h0 hl hs hd⟩
theorem r_enumI (hx : SqL K H a xs) (Pv : Nat → St → Hp → Prop) (h0 : Pv 0 σ H) (hl : ∀ i σ' H', i ≤ xs.length → Pv i σ' H' → SqL K H' a xs)
    (hs : ∀ i x T σ' H', xs[i]? = some x → Pv i σ' H' → H' T = none → g (.ref T) σ' (upd H' T (.tup [.int (i : Nat), x])) fun σ2 H2 => tb { D with nx := Pv (i + 1), ct := Pv (i + 1), bk := D.nx } σ2 H2)
    (hd : ∀ σ' H', Pv xs.length σ' H' → D.nx σ' H') : FRE K g tb D σ [.ref a] H := by
  refine ⟨a, xs, rfl, hx, fun i m σ H => m = xs.length - i ∧ i ≤ xs.length ∧ Pv i σ H, ⟨xs.length, by simp, Nat.zero_le _, h0⟩, ?_⟩
  rintro i m σ H ⟨rfl, hi, p⟩
  have q := hl i σ H hi p
  by_cases hlt : i < xs.length
  · refine .inr ⟨⟨xs, xs[i], q, by simp [hlt]⟩, Pv (i + 1), fun σ' H' p' => ⟨xs.length - (i + 1), by omega, rfl, hlt, p'⟩, fun x H' y => ?_⟩
    obtain ⟨T, x', rfl, hT, rfl, hx'⟩ := y
    exact hs i x' T σ H (hx' xs q) p hT
  · have e : i = xs.length := by omega
    subst e
    exact .inl ⟨⟨xs, q, Nat.le_refl _⟩, hd σ H p⟩
/-- a while: W falls -/
theorem r_while {tc : TT} (W : Nat → St → Hp → Prop) (m0 : Nat) (h0 : W m0 σ H)
    (hs : ∀ m σ' H', W m σ' H' → tc σ' H' fun b H1 => if b = true then tb { D with nx := fun σ2 H2 => ∃ m', m' < m ∧ W m' σ2 H2, ct := fun σ2 H2 => ∃ m', m' < m ∧ W m' σ2 H2, bk := D.nx } σ' H1 else D.nx σ' H1)
    (mono : ∀ σ H Q Q', (∀ b H1, Q b H1 → Q' b H1) → tc σ H Q → tc σ H Q') : tWhile tc tb D σ H := by
  refine ⟨W, ⟨m0, h0⟩, fun m σ' H' w => ?_⟩
  refine mono σ' H' _ _ (fun b H1 q => ?_) (hs m σ' H' w)
  cases b with
  | true => exact ⟨_, fun _ _ n => n, q⟩
  | false => exact q
end

/-! ### comprehensions -/
def LR1 (j : Nat) (tt : TT) (te : TE) (vs : List Nat) (σ : St) (Q : VK) (us : List V) (H1 : Hp) : Prop := ∃ n : Int, us = [.int n] ∧ -(2 ^ 62) ≤ n ∧ n < 2 ^ 62 ∧ ∀ D, H1 D = none → ∃ W : Nat → Nat → Hp → Prop, (∃ m, W 0 m (upd H1 D (.lst []))) ∧ ∀ i m H, W i m H →
  ((Itr 0 n.toNat).stop i H ∧ Q (.ref D) H) ∨ ((Itr 0 n.toNat).go i H ∧ ∃ Nx : Hp → Prop, (∀ H', Nx H' → ∃ m', m' < m ∧ W (i + 1) m' H') ∧ ∀ x H', (Itr 0 n.toNat).yld i H x H' → gName j x (wipe σ vs) H' fun σ2 H2 => wipe σ2 vs = wipe σ vs ∧ tt σ2 H2 fun b H3 =>
    if b = true then te σ2 H3 fun y H4 => ∃ acc, H4 D = some (.lst acc) ∧ acc.length < sizeLine ∧ Nx (upd H4 D (.lst (acc ++ [y]))) else Nx H3)
def LRL (K : PySem.W.Frag) (g : TG) (tt : TT) (te : TE) (vs : List Nat) (σ : St) (Q : VK) (x : V) (H1 : Hp) : Prop := ∃ a, x = .ref a ∧ (∃ xs, SqL K H1 a xs) ∧ ∀ D, H1 D = none → ∃ W : Nat → Nat → Hp → Prop, (∃ m, W 0 m (upd H1 D (.lst []))) ∧ ∀ i m H, W i m H →
  ((Itl K a).stop i H ∧ Q (.ref D) H) ∨ ((Itl K a).go i H ∧ ∃ Nx : Hp → Prop, (∀ H', Nx H' → ∃ m', m' < m ∧ W (i + 1) m' H') ∧ ∀ x H', (Itl K a).yld i H x H' → g x (wipe σ vs) H' fun σ2 H2 => wipe σ2 vs = wipe σ vs ∧ tt σ2 H2 fun b H3 =>
    if b = true then te σ2 H3 fun y H4 => ∃ acc, H4 D = some (.lst acc) ∧ acc.length < sizeLine ∧ Nx (upd H4 D (.lst (acc ++ [y]))) else Nx H3)
def LRT (K : PySem.W.Frag) (g : TG) (tt : TT) (te : TE) (vs : List Nat) (σ : St) (Q : VK) (x : V) (H1 : Hp) : Prop := ∃ a, x = .ref a ∧ (∃ xs, SqT K H1 a xs) ∧ ∀ D, H1 D = none → ∃ W : Nat → Nat → Hp → Prop, (∃ m, W 0 m (upd H1 D (.lst []))) ∧ ∀ i m H, W i m H →
  ((Itt K a).stop i H ∧ Q (.ref D) H) ∨ ((Itt K a).go i H ∧ ∃ Nx : Hp → Prop, (∀ H', Nx H' → ∃ m', m' < m ∧ W (i + 1) m' H') ∧ ∀ x H', (Itt K a).yld i H x H' → g x (wipe σ vs) H' fun σ2 H2 => wipe σ2 vs = wipe σ vs ∧ tt σ2 H2 fun b H3 =>
    if b = true then te σ2 H3 fun y H4 => ∃ acc, H4 D = some (.lst acc) ∧ acc.length < sizeLine ∧ Nx (upd H4 D (.lst (acc ++ [y]))) else Nx H3)
def LRE (K : PySem.W.Frag) (g : TG) (tt : TT) (te : TE) (vs : List Nat) (σ : St) (Q : VK) (us : List V) (H1 : Hp) : Prop := ∃ a xs, us = [.ref a] ∧ SqL K H1 a xs ∧ ∀ D, H1 D = none → ∃ W : Nat → Nat → Hp → Prop, (∃ m, W 0 m (upd H1 D (.lst []))) ∧ ∀ i m H, W i m H →
  ((Ite K a).stop i H ∧ Q (.ref D) H) ∨ ((Ite K a).go i H ∧ ∃ Nx : Hp → Prop, (∀ H', Nx H' → ∃ m', m' < m ∧ W (i + 1) m' H') ∧ ∀ x H', (Ite K a).yld i H x H' → g x (wipe σ vs) H' fun σ2 H2 => wipe σ2 vs = wipe σ vs ∧ tt σ2 H2 fun b H3 =>
    if b = true then te σ2 H3 fun y H4 => ∃ acc, H4 D = some (.lst acc) ∧ acc.length < sizeLine ∧ Nx (upd H4 D (.lst (acc ++ [y]))) else Nx H3)
/-- what stands between the turns: the list made so far at Dl, the frozen part F', the ledger L -/
def CW (F0 H0 F : Hp) (L : List (Addr × HO)) (P : Nat → List V → Hp → Prop) (Dl : Addr) (i : Nat) (H' : Hp) : Prop := ∃ F' acc, Zs F0 H0 F' H' ((Dl, .lst acc) :: L) ∧ Same F F' ∧ acc.length ≤ i ∧ P i acc F'
/-- what the element's value is wanted for -/
def CY (F0 H0 F : Hp) (L : List (Addr × HO)) (P : Nat → List V → Hp → Prop) (Dl : Addr) (i : Nat) (y : V) (H4 : Hp) : Prop := ∃ acc, H4 Dl = some (.lst acc) ∧ acc.length < sizeLine ∧ CW F0 H0 F L P Dl (i + 1) (upd H4 Dl (.lst (acc ++ [y])))
section
variable {K : PySem.W.Frag} {σ : St} {F0 H0 F H : Hp} {L : List (Addr × HO)} {Q : VK} {ta : TA} {te tl : TE} {tt : TT} {vs : List Nat} {j : Nat} {g : TG} {a : Addr} {xs : List V} {P : Nat → List V → Hp → Prop}
theorem r_lcR1 (h : ta σ H (LR1 j tt te vs σ Q)) : tLc (iRng1 ta) (gName j) tt te vs σ H Q := h
theorem r_lcL (h : tl σ H (LRL K g tt te vs σ Q)) : tLc (iList K tl) g tt te vs σ H Q := h
theorem r_lcT (h : tl σ H (LRT K g tt te vs σ Q)) : tLc (iTup K tl) g tt te vs σ H Q := h
theorem r_lcE (h : ta σ H (LRE K g tt te vs σ Q)) : tLc (iEnum K ta) g tt te vs σ H Q := h
theorem cy {Dl : Addr} {i : Nat} {y : V} {F4 H4 : Hp} {acc : List V} (Z : Zs F0 H0 F4 H4 ((Dl, .lst acc) :: L)) (s : Same F F4) (hl : acc.length ≤ i) (hi : i < 100000) (p : P (i + 1) (acc ++ [y]) F4) : CY F0 H0 F L P Dl i y H4 :=
  ⟨acc, Z.get (i := 0) rfl, sz_lt (by omega), F4, acc ++ [y], Z.setAt 0 rfl, s, by rw [List.length_append, List.length_singleton]; omega, p⟩
theorem cn {Dl : Addr} {i : Nat} {F4 H4 : Hp} {acc : List V} (Z : Zs F0 H0 F4 H4 ((Dl, .lst acc) :: L)) (s : Same F F4) (hl : acc.length ≤ i) (p : P (i + 1) acc F4) : CW F0 H0 F L P Dl (i + 1) H4 := ⟨F4, acc, Z, s, by omega, p⟩
theorem lc_rng {n : Int} (hn : 0 ≤ n ∧ n ≤ 100000) (Z : Zs F0 H0 F H L) (P : Nat → List V → Hp → Prop) (hw : ∀ x, wipe ((wipe σ vs).set j (some x)) vs = wipe σ vs) (h0 : P 0 [] F)
    (hs : ∀ (i : Nat) Dl F' H' acc, (i : Int) < n → Zs F0 H0 F' H' ((Dl, .lst acc) :: L) → Same F F' → acc.length ≤ i → P i acc F' →
      tt ((wipe σ vs).set j (some (.int (i : Int)))) H' fun b H3 => if b = true then te ((wipe σ vs).set j (some (.int (i : Int)))) H3 (CY F0 H0 F L P Dl i) else CW F0 H0 F L P Dl (i + 1) H3)
    (hd : ∀ Dl F' H' acc, Zs F0 H0 F' H' ((Dl, .lst acc) :: L) → Same F F' → P n.toNat acc F' → Q (.ref Dl) H') : LR1 j tt te vs σ Q [.int n] H :=
  ⟨n, rfl, by omega, by omega, fun Dl hD => lc_range (lo := 0) (n := n.toNat) (CW F0 H0 F L P Dl) ⟨F, [], Z.alloc hD, Same.refl _, Nat.le_refl _, h0⟩ (fun i H' hi p => by
    obtain ⟨F', acc, Z', s', hl, p'⟩ := p
    have e0 : (0 : Int) + (i : Int) = (i : Int) := Int.zero_add _
    show wipe ((wipe σ vs).set j (some (.int ((0 : Int) + (i : Int))))) vs = wipe σ vs ∧ tt ((wipe σ vs).set j (some (.int ((0 : Int) + (i : Int))))) H' fun b H3 => if b = true then te ((wipe σ vs).set j (some (.int ((0 : Int) + (i : Int))))) H3 (CY F0 H0 F L P Dl i) else CW F0 H0 F L P Dl (i + 1) H3
    rw [e0]
    exact ⟨hw _, hs i Dl F' H' acc (by omega) Z' s' hl p'⟩) (fun H' p => by
    obtain ⟨F', acc, Z', s', hl, p'⟩ := p
    exact hd Dl F' H' acc Z' s' p')⟩
theorem lc_lst (hx : SqL K H a xs) (Z : Zs F0 H0 F H L) (P : Nat → List V → Hp → Prop) (h0 : P 0 [] F) (hsrc : ∀ F' H', Zs F0 H0 F' H' L → Same F F' → SqL K H' a xs)
    (hs : ∀ (i : Nat) x Dl F' H' acc, xs[i]? = some x → Zs F0 H0 F' H' ((Dl, .lst acc) :: L) → Same F F' → acc.length ≤ i → P i acc F' →
      g x (wipe σ vs) H' fun σ2 H2 => wipe σ2 vs = wipe σ vs ∧ tt σ2 H2 fun b H3 => if b = true then te σ2 H3 (CY F0 H0 F L P Dl i) else CW F0 H0 F L P Dl (i + 1) H3)
    (hd : ∀ Dl F' H' acc, Zs F0 H0 F' H' ((Dl, .lst acc) :: L) → Same F F' → P xs.length acc F' → Q (.ref Dl) H') : LRL K g tt te vs σ Q (.ref a) H :=
  ⟨a, rfl, ⟨xs, hx⟩, fun Dl hD => lc_list (xs := xs) (CW F0 H0 F L P Dl) ⟨F, [], Z.alloc hD, Same.refl _, Nat.le_refl _, h0⟩ (fun i H' hi p => by
    obtain ⟨F', acc, Z', s', hl, p'⟩ := p
    exact hsrc F' H' Z'.drop s') (fun i x H' hi p => by
    obtain ⟨F', acc, Z', s', hl, p'⟩ := p
    exact hs i x Dl F' H' acc hi Z' s' hl p') (fun H' p => by
    obtain ⟨F', acc, Z', s', hl, p'⟩ := p
    exact hd Dl F' H' acc Z' s' p')⟩
theorem lc_tpl (hx : SqT K H a xs) (Z : Zs F0 H0 F H L) (P : Nat → List V → Hp → Prop) (h0 : P 0 [] F) (hsrc : ∀ F' H', Zs F0 H0 F' H' L → Same F F' → SqT K H' a xs)
    (hs : ∀ (i : Nat) x Dl F' H' acc, xs[i]? = some x → Zs F0 H0 F' H' ((Dl, .lst acc) :: L) → Same F F' → acc.length ≤ i → P i acc F' →
      g x (wipe σ vs) H' fun σ2 H2 => wipe σ2 vs = wipe σ vs ∧ tt σ2 H2 fun b H3 => if b = true then te σ2 H3 (CY F0 H0 F L P Dl i) else CW F0 H0 F L P Dl (i + 1) H3)
    (hd : ∀ Dl F' H' acc, Zs F0 H0 F' H' ((Dl, .lst acc) :: L) → Same F F' → P xs.length acc F' → Q (.ref Dl) H') : LRT K g tt te vs σ Q (.ref a) H :=
  ⟨a, rfl, ⟨xs, hx⟩, fun Dl hD => lc_tup (xs := xs) (CW F0 H0 F L P Dl) ⟨F, [], Z.alloc hD, Same.refl _, Nat.le_refl _, h0⟩ (fun i H' hi p => by
    obtain ⟨F', acc, Z', s', hl, p'⟩ := p
    exact hsrc F' H' Z'.drop s') (fun i x H' hi p => by
    obtain ⟨F', acc, Z', s', hl, p'⟩ := p
    exact hs i x Dl F' H' acc hi Z' s' hl p') (fun H' p => by
    obtain ⟨F', acc, Z', s', hl, p'⟩ := p
    exact hd Dl F' H' acc Z' s' p')⟩
theorem lc_enm (hx : SqL K H a xs) (Z : Zs F0 H0 F H L) (P : Nat → List V → Hp → Prop) (h0 : P 0 [] F) (hsrc : ∀ F' H', Zs F0 H0 F' H' L → Same F F' → SqL K H' a xs)
    (hs : ∀ (i : Nat) x T Dl F' H' acc, xs[i]? = some x → Zs F0 H0 F' H' ((T, .tup [.int (i : Nat), x]) :: (Dl, .lst acc) :: L) → Same F F' → acc.length ≤ i → P i acc F' →
      g (.ref T) (wipe σ vs) H' fun σ2 H2 => wipe σ2 vs = wipe σ vs ∧ tt σ2 H2 fun b H3 => if b = true then te σ2 H3 (CY F0 H0 F L P Dl i) else CW F0 H0 F L P Dl (i + 1) H3)
    (hd : ∀ Dl F' H' acc, Zs F0 H0 F' H' ((Dl, .lst acc) :: L) → Same F F' → P xs.length acc F' → Q (.ref Dl) H') : LRE K g tt te vs σ Q [.ref a] H := by
  refine ⟨a, xs, rfl, hx, fun Dl hD => ⟨fun i m H => m = xs.length - i ∧ i ≤ xs.length ∧ CW F0 H0 F L P Dl i H, ⟨xs.length, rfl, Nat.zero_le _, F, [], Z.alloc hD, Same.refl _, Nat.le_refl _, h0⟩, ?_⟩⟩
  rintro i m H' ⟨rfl, hi, p⟩
  obtain ⟨F', acc, Z', s', hl, p'⟩ := p
  have q := hsrc F' H' Z'.drop s'
  by_cases hlt : i < xs.length
  · refine .inr ⟨⟨xs, xs[i], q, by simp [hlt]⟩, CW F0 H0 F L P Dl (i + 1), fun H'' p'' => ⟨xs.length - (i + 1), by omega, rfl, hlt, p''⟩, fun x H'' y => ?_⟩
    obtain ⟨T, x', rfl, hT, rfl, hx'⟩ := y
    exact hs i x' T Dl F' _ acc (hx' xs q) (Z'.alloc hT) s' hl p'
  · have e : i = xs.length := by omega
    subst e
    exact .inl ⟨⟨xs, q, Nat.le_refl _⟩, hd Dl F' H' acc Z' s' p'⟩
end
end SB
/-! Promises by the number of arguments; more readings; a result that is data. -/
namespace SB
open PySem L2
def sp1 (f : V → Hp → VK → XK → Prop) : Sp := fun vs H Q E => ∃ a, vs = [a] ∧ f a H Q E
def sp2 (f : V → V → Hp → VK → XK → Prop) : Sp := fun vs H Q E => ∃ a b, vs = [a, b] ∧ f a b H Q E
def sp3 (f : V → V → V → Hp → VK → XK → Prop) : Sp := fun vs H Q E => ∃ a b c, vs = [a, b, c] ∧ f a b c H Q E
def sp4 (f : V → V → V → V → Hp → VK → XK → Prop) : Sp := fun vs H Q E => ∃ a b c d, vs = [a, b, c, d] ∧ f a b c d H Q E
def sp5 (f : V → V → V → V → V → Hp → VK → XK → Prop) : Sp := fun vs H Q E => ∃ a b c d e, vs = [a, b, c, d, e] ∧ f a b c d e H Q E
def sp6 (f : V → V → V → V → V → V → Hp → VK → XK → Prop) : Sp := fun vs H Q E => ∃ a b c d e g, vs = [a, b, c, d, e, g] ∧ f a b c d e g H Q E
section
variable {K : PySem.W.Frag} {σ : St} {H : Hp} {Q : VK} {D : Ends} {ta tb tc : TE} {v x y a b c d : V} {E : XK}
theorem r_sp1 {f : V → Hp → VK → XK → Prop} (h : f a H Q E) : sp1 f ([a] ++ []) H Q E := ⟨a, rfl, h⟩
theorem r_sp2 {f : V → V → Hp → VK → XK → Prop} (h : f a b H Q E) : sp2 f ([a, b] ++ []) H Q E := ⟨a, b, rfl, h⟩
theorem r_sp3 {f : V → V → V → Hp → VK → XK → Prop} (h : f a b c H Q E) : sp3 f ([a, b, c] ++ []) H Q E := ⟨a, b, c, rfl, h⟩
theorem r_sp4 {f : V → V → V → V → Hp → VK → XK → Prop} (h : f a b c d H Q E) : sp4 f ([a, b, c, d] ++ []) H Q E := ⟨a, b, c, d, rfl, h⟩
theorem r_sp5 {f : V → V → V → V → V → Hp → VK → XK → Prop} {e : V} (h : f a b c d e H Q E) : sp5 f ([a, b, c, d, e] ++ []) H Q E := ⟨a, b, c, d, e, rfl, h⟩
theorem r_sp6 {f : V → V → V → V → V → V → Hp → VK → XK → Prop} {e g : V} (h : f a b c d e g H Q E) : sp6 f ([a, b, c, d, e, g] ++ []) H Q E := ⟨a, b, c, d, e, g, rfl, h⟩
theorem r_sp1m {f : V → Hp → VK → XK → Prop} (h : f a H Q E) : sp1 f (a :: ([] ++ [])) H Q E := ⟨a, rfl, h⟩
theorem r_sp2m {f : V → V → Hp → VK → XK → Prop} (h : f a b H Q E) : sp2 f (a :: ([b] ++ [])) H Q E := ⟨a, b, rfl, h⟩
theorem r_sp3m {f : V → V → V → Hp → VK → XK → Prop} (h : f a b c H Q E) : sp3 f (a :: ([b, c] ++ [])) H Q E := ⟨a, b, c, rfl, h⟩
theorem r_sp4m {f : V → V → V → V → Hp → VK → XK → Prop} (h : f a b c d H Q E) : sp4 f (a :: ([b, c, d] ++ [])) H Q E := ⟨a, b, c, d, rfl, h⟩
theorem r_cut {t u : TS} (Mid : St → Hp → Prop) (h : t { D with nx := Mid } σ H) (k : ∀ σ' H', Mid σ' H' → u D σ' H') : Evl.tCut t u D σ H := ⟨Mid, h, k⟩
theorem r_chain {r r' : R2} (h : ta σ H fun x H1 => tb σ H1 fun y H2 => r x y H2 fun z H3 => ∃ k, z = .bl k ∧ (if k = true then tc σ H3 fun w' H4 => r' y w' H4 Q else Q (.bl false) H3)) : tChain r r' ta tb tc σ H Q := h
theorem r_sl {r : V → Option Int → Option Int → Hp → VK → Prop} {tl th : TO} (h : ta σ H fun x H1 => tl σ H1 fun l H2 => th σ H2 fun u H3 => r x l u H3 Q) : tSl r ta tl th σ H Q := h
theorem r_nopart {Q : Option Int → Hp → Prop} (h : Q none H) : tNoPart σ H Q := h
theorem r_part {Q : Option Int → Hp → Prop} (h : ta σ H fun x H1 => ∃ i, x = .int i ∧ Q (some i) H1) : tPart ta σ H Q := h
theorem r_some {n : Int} {P : Int → Prop} (k : P n) : ∃ i, V.int n = V.int i ∧ P i := ⟨n, rfl, k⟩
theorem r_gsub {t : TSet} {Q : St → Hp → Prop} (h : ta σ H fun o H1 => tb σ H1 fun i H2 => t o i v H2 fun H3 => Q σ H3) : gSub ta tb t v σ H Q := h
end
/-- a def's value that is data: it lies in a frozen part F' that begins as F -/
def Ret (F H : Hp) (Q : VK) (d : PyData) : Prop := ∀ F' H' v, Zs F H F' H' [] → Td F' v d → Q v H'

/-! ### data compared -/
theorem eqv_refl {d : PyData} (h : SeqAt.shaped d = true) : PyData.eqv d d = true := SeqAt.eqv_refl d (SeqAt.canLay_of_shaped h)
theorem shaped_of {d : PyData} (h1 : d.canLay0 = true) (h2 : d.depth ≤ 64) : SeqAt.shaped d = true := by
  show (d.canLay0 && decide (d.depth ≤ 64)) = true
  rw [h1, decide_eq_true h2] <;> rfl
theorem lay_map {α : Type} {f : α → PyData} (h : ∀ a, (f a).canLay0 = true) : ∀ l : List α, PyData.canLayAll0 (l.map f) = true
  | [] => rfl
  | a :: l => by
    show ((f a).canLay0 && PyData.canLayAll0 (l.map f)) = true
    rw [h a, lay_map h l] <;> rfl
theorem dep_map {α : Type} {f : α → PyData} {n : Nat} (h : ∀ a, (f a).depth ≤ n) : ∀ l : List α, PyData.depthAll (l.map f) ≤ n
  | [] => Nat.zero_le _
  | a :: l => by
    show max (f a).depth (PyData.depthAll (l.map f)) ≤ n
    have h1 := h a
    have h2 := dep_map h l
    omega
theorem shaped_map {α : Type} {f : α → PyData} {n : Nat} (hn : n ≤ 60) (h : ∀ a, (f a).canLay0 = true) (h2 : ∀ a, (f a).depth ≤ n) (l : List α) : SeqAt.shaped (.list (l.map f)) = true :=
  shaped_of (lay_map h l) (by have := dep_map h2 l; show PyData.depthAll (l.map f) + 1 ≤ 64; omega)
theorem shaped_ints (l : List Int) : SeqAt.shaped (.list (l.map PyData.int)) = true := shaped_map (n := 0) (by decide) (fun _ => rfl) (fun _ => Nat.le_refl _) l
theorem eqvAll_ints : ∀ l m : List Int, PyData.eqvAll (l.map PyData.int) (m.map PyData.int) = decide (l = m)
  | [], [] => rfl
  | [], _ :: _ => rfl
  | _ :: _, [] => rfl
  | a :: l, b :: m => by
    show ((a == b) && PyData.eqvAll (l.map PyData.int) (m.map PyData.int)) = _
    rw [eqvAll_ints l m]
    by_cases h : a = b
    · subst h
      by_cases h2 : l = m
      · subst h2; simp
      · rw [decide_eq_false h2, decide_eq_false (fun q => h2 (List.cons.inj q).2), Bool.and_false]
    · rw [decide_eq_false (fun q => h (List.cons.inj q).1), beq_eq_false_iff_ne.mpr h, Bool.false_and]
theorem eqv_ints (l m : List Int) : PyData.eqv (.list (l.map PyData.int)) (.list (m.map PyData.int)) = decide (l = m) := eqvAll_ints l m
theorem inV_int {x : Int} : ∀ l : List Int, inV (.int x) (l.map V.int) = decide (x ∈ l)
  | [] => rfl
  | a :: l => by
    have ih := inV_int (x := x) l
    unfold inV at ih ⊢
    rw [List.map_cons, List.any_cons, ih]
    show ((a == x) || decide (x ∈ l)) = _
    by_cases h : a = x
    · subst h; simp
    · rw [beq_eq_false_iff_ne.mpr h, Bool.false_or]
      by_cases h2 : x ∈ l
      · rw [decide_eq_true h2, decide_eq_true (List.mem_cons_of_mem _ h2)]
      · rw [decide_eq_false h2, decide_eq_false (fun q => by rcases List.mem_cons.mp q with e | e; exact h e.symm; exact h2 e)]
theorem flat_ints (l : List Int) : (l.map V.int).all flatV = true := by
  rw [List.all_eq_true]
  intro v hv
  obtain ⟨a, _, rfl⟩ := List.mem_map.mp hv
  rfl
theorem get_ints {l : List Int} {i : Nat} (h : i < l.length) : (l.map V.int)[i]? = some (.int l[i]) := by
  rw [List.getElem?_map, List.getElem?_eq_getElem h] <;> rfl
theorem of_get_ints {l : List Int} {i : Nat} {x : V} (h : (l.map V.int)[i]? = some x) : ∃ n, l[i]? = some n ∧ x = .int n := by
  rw [List.getElem?_map] at h
  cases e : l[i]? with
  | none => rw [e] at h; cases h
  | some n => rw [e] at h; exact ⟨n, rfl, (Option.some.inj h).symm⟩
theorem take_snoc {α : Type} {l : List α} {i : Nat} {a : α} (h : l[i]? = some a) : l.take (i + 1) = l.take i ++ [a] := by
  rw [List.take_add_one, h] <;> rfl

/-! ### addresses that the top has laid -/
structure Ad where
  words : Addr
  cHand : Addr
  cNet : Addr
  cBellError : Addr
  cBadWaits : Addr
  cNoHand : Addr
  cNoLetter : Addr

/-! ### the script and its cells -/
def cellAt (ns : List Int) (k : Int) : Int := ns.getD k.toNat 0
theorem cellAt_lt {ns : List Int} {k : Int} (h0 : 0 ≤ k) (h : k < ns.length) : (ns.map V.int)[k.toNat]? = some (.int (cellAt ns k)) := by
  have hl : k.toNat < ns.length := by omega
  rw [get_ints hl]
  unfold cellAt
  rw [List.getD_eq_getElem?_getD, List.getElem?_eq_getElem hl] <;> rfl
theorem cellAt_ge {ns : List Int} {k : Int} (h : ¬ k < ns.length) : cellAt ns k = 0 := by
  unfold cellAt
  rw [List.getD_eq_getElem?_getD, List.getElem?_eq_none (by omega)] <;> rfl

/-! ### waits -/
/-- a wait: none, or whether it is for any, and whom it is for -/
abbrev Wt := Option (Bool × List Int)
def wd (b : Bool) : Str := if b then "any" else "all"
theorem wd_t : wd true = "any" := rfl
theorem wd_f : wd false = "all" := rfl
theorem wd_any (b : Bool) : decide (wd b = ("any" : Str)) = b := by cases b <;> decide +kernel
theorem wd_all (b : Bool) : decide (wd b = ("all" : Str)) = !b := by cases b <;> decide +kernel
def dW : Wt → PyData
  | none => .none
  | some (b, os) => .tuple [.str (wd b), .list (os.map PyData.int)]
def dWs (ws : List Wt) : PyData := .list (ws.map dW)
def okW (n : Nat) : Wt → Prop
  | none => True
  | some (_, os) => os ≠ [] ∧ os.Nodup ∧ ∀ o ∈ os, 0 ≤ o ∧ o < n
structure OkWs (ws : List Wt) : Prop where
  pos : 1 ≤ ws.length
  most : ws.length ≤ 40
  all : ∀ w ∈ ws, okW ws.length w
theorem dW_lay : ∀ w : Wt, (dW w).canLay0 = true
  | none => rfl
  | some (b, os) => by
    show (PyData.canLay0 (.str (wd b)) && (PyData.canLayAll0 (os.map PyData.int) && true)) = true
    rw [lay_map (fun _ => rfl) os]
    cases b <;> decide +kernel
theorem dW_dep : ∀ w : Wt, (dW w).depth ≤ 2
  | none => Nat.zero_le _
  | some (b, os) => by
    have h : PyData.depthAll (os.map PyData.int) ≤ 0 := dep_map (f := PyData.int) (n := 0) (fun _ => Nat.le_refl 0) os
    show max 0 (max (PyData.depthAll (os.map PyData.int) + 1) 0) + 1 ≤ 2
    omega
theorem dWs_shaped (ws : List Wt) : SeqAt.shaped (dWs ws) = true := shaped_map (n := 2) (by decide) dW_lay dW_dep ws
section
variable {F : Hp} {v : V} {ws : List Wt} {b : Bool} {os : List Int}
theorem Td.inv_ws (h : Td F v (dWs ws)) : ∃ a xs, v = .ref a ∧ F a = some (.lst xs) ∧ TdA F xs (ws.map dW) ∧ xs.length = ws.length := by
  obtain ⟨a, xs, rfl, h1, h2⟩ := Td.inv_lst h
  exact ⟨a, xs, rfl, h1, h2, by rw [h2.len, List.length_map]⟩
theorem Td.inv_w (h : Td F v (dW (some (b, os)))) : ∃ a l, v = .ref a ∧ F a = some (.tup [.str (wd b), .ref l]) ∧ F l = some (.lst (os.map V.int)) := by
  obtain ⟨a, xs, rfl, h1, h2⟩ := Td.inv_tup h
  cases h2 with
  | cons k1 k2 =>
    cases k2 with
    | cons k3 k4 =>
      cases k4
      cases k1
      obtain ⟨l, rfl, k5⟩ := Td.inv_ints k3
      exact ⟨a, l, rfl, h1, k5⟩
theorem Td.mk_w {a l : Addr} (h1 : F a = some (.tup [.str (wd b), .ref l])) (h2 : F l = some (.lst (os.map V.int))) : Td F (.ref a) (dW (some (b, os))) := .tup h1 (.cons (.str _) (.cons (.lst h2 (TdA.ints os)) .nil))
theorem TdA.ws_at {xs : List V} {i : Nat} {x : V} (h : TdA F xs (ws.map dW)) (hi : xs[i]? = some x) : ∃ w, ws[i]? = some w ∧ Td F x (dW w) := by
  obtain ⟨d, h1, h2⟩ := TdA.at h hi
  rw [List.getElem?_map] at h1
  cases e : ws[i]? with
  | none => rw [e] at h1; cases h1
  | some w => rw [e] at h1; cases h1; exact ⟨w, rfl, h2⟩
theorem TdA.ws_get {xs : List V} {i : Nat} {w : Wt} (h : TdA F xs (ws.map dW)) (hi : ws[i]? = some w) : ∃ x, xs[i]? = some x ∧ Td F x (dW w) :=
  TdA.get h (by rw [List.getElem?_map, hi] <;> rfl)
theorem dW_ne_none : dW (some (b, os)) ≠ .none := fun q => nomatch q
theorem Td.w_non {w : Wt} (h : Td F .non (dW w)) : w = none := by
  cases w with
  | none => rfl
  | some p => obtain ⟨b, os⟩ := p; cases h
theorem Td.w_ref {w : Wt} {a : Addr} (h : Td F (.ref a) (dW w)) : ∃ b os, w = some (b, os) := by
  cases w with
  | none => cases h
  | some p => exact ⟨p.1, p.2, rfl⟩
end
end SB
/-! Slices, tuple targets, subdata. -/
namespace SB
open PySem L2
theorem sIx_nat (n d i : Nat) : HT.sIx n d (some (i : Int)) = min i n := by
  unfold HT.sIx
  simp only []
  split <;> omega
theorem cut_take (xs : List V) (i : Nat) : cutV xs none (some (i : Int)) = xs.take i := by
  unfold cutV
  rw [sIx_nat]
  show (xs.drop 0).take (min i xs.length - 0) = _
  rw [List.drop_zero, Nat.sub_zero]
  by_cases h : i ≤ xs.length
  · rw [Nat.min_eq_left h]
  · rw [Nat.min_eq_right (by omega), List.take_of_length_le (Nat.le_refl _), List.take_of_length_le (by omega)]
theorem cut_drop (xs : List V) (i : Nat) : cutV xs (some (i : Int)) none = xs.drop i := by
  unfold cutV
  rw [sIx_nat]
  show (xs.drop (min i xs.length)).take (xs.length - min i xs.length) = _
  rw [List.take_of_length_le (by rw [List.length_drop]; omega)]
  by_cases h : i ≤ xs.length
  · rw [Nat.min_eq_left h]
  · rw [Nat.min_eq_right (by omega), List.drop_eq_nil_of_le (Nat.le_refl _), List.drop_eq_nil_of_le (by omega)]
theorem cut_range (xs : List V) (i j : Nat) : cutV xs (some (i : Int)) (some (j : Int)) = (xs.drop i).take (j - i) := by
  unfold cutV
  rw [sIx_nat, sIx_nat]
  by_cases h : i ≤ xs.length
  · rw [Nat.min_eq_left h]
    by_cases h2 : j ≤ xs.length
    · rw [Nat.min_eq_left h2]
    · rw [Nat.min_eq_right (by omega), List.take_of_length_le (by rw [List.length_drop]; omega), List.take_of_length_le (by rw [List.length_drop]; omega)]
  · rw [Nat.min_eq_right (Nat.le_of_not_le h), List.drop_eq_nil_of_le (Nat.le_refl _), List.drop_eq_nil_of_le (by omega), List.take_nil, List.take_nil]
section
variable {K : PySem.W.Frag} {σ : St} {H : Hp} {i j k : Nat} {v w u : V} {Q : St → Hp → Prop} {p : Addr}
theorem r_gt2 (h : SqT K H p [v, w]) (q : Q ((σ.set i (some v)).set j (some w)) H) : gTup K 2 (gCons (gName i) (gCons (gName j) gNil)) (.ref p) σ H Q :=
  ⟨p, _, rfl, h, rfl, _, _, rfl, _, _, rfl, rfl, q⟩
theorem r_gt3 (h : SqT K H p [v, w, u]) (q : Q (((σ.set i (some v)).set j (some w)).set k (some u)) H) : gTup K 3 (gCons (gName i) (gCons (gName j) (gCons (gName k) gNil))) (.ref p) σ H Q :=
  ⟨p, _, rfl, h, rfl, _, _, rfl, _, _, rfl, _, _, rfl, rfl, q⟩
end
theorem shaped_in {d : PyData} : ∀ {ds : List PyData}, PyData.canLayAll0 ds = true → d ∈ ds → d.canLay0 = true ∧ d.depth ≤ PyData.depthAll ds
  | x :: xs, h, m => by
    have h' : (x.canLay0 && PyData.canLayAll0 xs) = true := h
    rw [Bool.and_eq_true] at h'
    have e : PyData.depthAll (x :: xs) = max x.depth (PyData.depthAll xs) := rfl
    rcases List.mem_cons.mp m with rfl | m
    · exact ⟨h'.1, by omega⟩
    · obtain ⟨a, b⟩ := shaped_in h'.2 m
      exact ⟨a, by omega⟩
theorem shaped_l {d : PyData} {ds : List PyData} (h : SeqAt.shaped (.list ds) = true) (m : d ∈ ds) : SeqAt.shaped d = true := by
  obtain ⟨a, b⟩ := shaped_in (show PyData.canLayAll0 ds = true from SeqAt.canLay_of_shaped h) m
  have c : PyData.depthAll ds + 1 ≤ 64 := SeqAt.depth_of_shaped h
  exact shaped_of a (by omega)
theorem shaped_t {d : PyData} {ds : List PyData} (h : SeqAt.shaped (.tuple ds) = true) (m : d ∈ ds) : SeqAt.shaped d = true := by
  obtain ⟨a, b⟩ := shaped_in (show PyData.canLayAll0 ds = true from SeqAt.canLay_of_shaped h) m
  have c : PyData.depthAll ds + 1 ≤ 64 := SeqAt.depth_of_shaped h
  exact shaped_of a (by omega)
theorem dec_non {v : V} : decide (v = .non) = (match v with | .non => true | _ => false) := by
  cases v <;> first | rfl | exact decide_eq_false (fun q => nomatch q)
theorem Td.non_iff {F : Hp} {v : V} {d : PyData} (h : Td F v d) : v = .non ↔ d = .none := by
  cases h <;> constructor <;> intro q <;> first | rfl | exact (nomatch q)
theorem eqv_nil (ds : List PyData) : PyData.eqv (.list ds) (.list []) = ds.isEmpty := by
  cases ds <;> rfl
end SB
namespace SB
open PySem L2
theorem shaped_map1 (w : Wt) : SeqAt.shaped (dW w) = true := shaped_of (dW_lay w) (by have := dW_dep w; omega)
theorem nodup_nat : ∀ (n : Nat) (l : List Nat), l.Nodup → (∀ x ∈ l, x < n) → l.length ≤ n
  | 0, l, _, h => by
    cases l with
    | nil => exact Nat.le_refl _
    | cons a l => exact absurd (h a List.mem_cons_self) (Nat.not_lt_zero _)
  | n + 1, l, nd, h => by
    have nd2 : (l.erase n).Nodup := nd.erase n
    have h2 : ∀ x ∈ l.erase n, x < n := fun x hx => by
      have := (nd.mem_erase_iff).mp hx
      have := h x this.2
      omega
    have ih := nodup_nat n (l.erase n) nd2 h2
    by_cases m : n ∈ l
    · have := List.length_erase_of_mem m
      omega
    · rw [List.erase_of_not_mem m] at ih
      omega
theorem nodup_bound {n : Nat} {os : List Int} (nd : os.Nodup) (h : ∀ o ∈ os, 0 ≤ o ∧ o < (n : Int)) : os.length ≤ n := by
  have h2 : (os.map Int.toNat).Nodup := by
    rw [List.nodup_iff_pairwise_ne, List.pairwise_map]
    refine List.Pairwise.imp_of_mem (fun {a b} ha hb hne => ?_) (List.nodup_iff_pairwise_ne.mp nd)
    have := h a ha
    have := h b hb
    omega
  have h4 := nodup_nat n _ h2 (fun x hx => by
    obtain ⟨o, ho, rfl⟩ := List.mem_map.mp hx
    have := h o ho
    omega)
  rw [List.length_map] at h4
  exact h4
end SB
/-! A result that is a list of one's own; lists of truths. -/
namespace SB
open PySem L2
/-- a def's value is a new list that nobody else has -/
def RetL (H : Hp) (Q : VK) (xs : List V) : Prop := ∀ H' p, Zs H H H H' [(p, .lst xs)] → Q (.ref p) H'
section
variable {F0 H0 F H F' H' : Hp} {L L2 : List (Addr × HO)}
theorem Zs.callL (Z : Zs F0 H0 F H L) (W : Zs H H H H' L2) : Zs F0 H0 F H' (L2 ++ L) where
  ff := Z.ff
  hh := Z.hh.trans W.hh
  fh := Z.fh.trans W.hh
  sep := Z.sep
  led := fun q hq => by
    rcases List.mem_append.mp hq with hq | hq
    · obtain ⟨a, b, c⟩ := W.led q hq
      exact ⟨a, same_none Z.fh c, same_none Z.hh c⟩
    · obtain ⟨a, b, c⟩ := Z.led q hq
      exact ⟨W.hh _ _ a, b, c⟩
  nd := by
    rw [List.map_append, List.nodup_append]
    refine ⟨W.nd, Z.nd, fun a ha b hb e => ?_⟩
    subst e
    obtain ⟨q, hq, rfl⟩ := List.mem_map.mp ha
    obtain ⟨r, hr, e⟩ := List.mem_map.mp hb
    have h1 := (W.led q hq).2.2
    have h2 := (Z.led r hr).1
    have e' : r.1 = q.1 := e
    rw [e', h1] at h2
    cases h2
/-- a result's new cells over a frozen part that begins as H -/
theorem Zs.up (Z : Zs F0 H0 F H L) (h : Same F0 H0) : Zs H0 H0 H0 H L where
  ff := Same.refl _
  hh := Z.hh
  fh := Z.hh
  sep := fun _ a _ => a
  led := fun q hq => by
    obtain ⟨a, b, c⟩ := Z.led q hq
    exact ⟨a, c, c⟩
  nd := Z.nd
end
theorem flat_bools (l : List Bool) : (l.map V.bl).all flatV = true := by
  rw [List.all_eq_true]
  intro v hv
  obtain ⟨a, _, rfl⟩ := List.mem_map.mp hv
  rfl
theorem get_bools {l : List Bool} {i : Nat} (h : i < l.length) : (l.map V.bl)[i]? = some (.bl l[i]) := by
  rw [List.getElem?_map, List.getElem?_eq_getElem h] <;> rfl
theorem get_boolD {l : List Bool} {i : Nat} (h : i < l.length) : (l.map V.bl)[i]? = some (.bl (l.getD i false)) := by
  rw [get_bools h, List.getD_eq_getElem?_getD, List.getElem?_eq_getElem h] <;> rfl
theorem Td.inv_bools {F : Hp} {v : V} {l : List Bool} (h : Td F v (.list (l.map PyData.bool))) : ∃ a, v = .ref a ∧ F a = some (.lst (l.map V.bl)) := by
  obtain ⟨a, xs, rfl, h1, h2⟩ := h.inv_lst
  rw [h2.of_bools] at h1
  exact ⟨a, rfl, h1⟩
theorem Td.bools_lst {F : Hp} {a : Addr} {l : List Bool} (h : F a = some (.lst (l.map V.bl))) : Td F (.ref a) (.list (l.map PyData.bool)) := .lst h (TdA.bools l)
theorem shaped_bools (l : List Bool) : SeqAt.shaped (.list (l.map PyData.bool)) = true := shaped_map (n := 0) (by decide) (fun _ => rfl) (fun _ => Nat.le_refl _) l
theorem rep_flat {α : Type} (a : α) : ∀ n : Nat, List.flatten (List.replicate n [a]) = List.replicate n a
  | 0 => rfl
  | n + 1 => by rw [List.replicate_succ, List.flatten_cons, rep_flat a n, List.replicate_succ] <;> rfl
end SB
namespace SB
open PySem L2
/-- a smaller frozen part -/
theorem Zs.weak {F0 H0 F F1 H : Hp} {L : List (Addr × HO)} (Z : Zs F0 H0 F H L) (h0 : Same F0 F1) (h : Same F1 F) : Zs F0 H0 F1 H L where
  ff := h0
  hh := Z.hh
  fh := h.trans Z.fh
  sep := fun a e n => same_none h (Z.sep a e n)
  led := fun q hq => by
    obtain ⟨a, b, c⟩ := Z.led q hq
    exact ⟨a, same_none h b, c⟩
  nd := Z.nd
end SB
namespace SB
open PySem L2
/-- what every law promises -/
def pr_law (K : PySem.W.Frag) : V → Hp → VK → XK → Prop := fun a H Q _ => ∃ (p : Addr) (ns : List Int), a = .ref p ∧ SqL K H p (ns.map V.int) ∧ ns.length ≤ 63 ∧ ∀ H', Q (.bl true) H'
abbrev spL (K : PySem.W.Frag) : Sp := sp1 (pr_law K)
abbrev sp_law (K : PySem.W.Frag) (A : Ad) : Sp := spL K
end SB
namespace SB
open PySem L2
def pr_cell_at (K : PySem.W.Frag) (A : Ad) : V → V → Hp → VK → XK → Prop := fun a b H Q _ => ∃ p ns k, a = .ref p ∧ b = .int k ∧ SqL K H p (ns.map V.int) ∧ 0 ≤ k ∧ Q (.int (cellAt ns k)) H
abbrev sp_cell_at (K : PySem.W.Frag) (A : Ad) : Sp := sp2 (pr_cell_at K A)
def t_cell_at (K : PySem.W.Frag) (A : Ad) : TS :=
    (tSeq (tIfS (tTest (tOp qLt (tVar 1) (tCB (qLen K) (tCons (tVar 0) tNil))))
    (tRet (tOp (rIxL K) (tVar 0) (tVar 1)))
    tNext)
    (tRet (tC (.int 0))))
theorem rd_cell_at {K : PySem.W.Frag} {A : Ad} {a b : V} {H : Hp} {Q : VK} {E : XK} (h : pr_cell_at K A a b H Q E) : t_cell_at K A { nx := fun _ H' => Q .non H', rt := Q } [some a, some b] H := by
  obtain ⟨p, ns, k, rfl, rfl, hs, h0, q⟩ := h
  unfold t_cell_at
  walk_at "rd"
  refine r_lenL hs ?_
  walk_at "rd"
  refine ifd (fun h => ?_) (fun h => ?_)
  · walk_at "rd"
    refine r_ixL hs (at_i h0 (cellAt_lt h0 (by simpa using h))) ?_
    exact q
  · walk_at "rd"
    rw [← cellAt_ge (ns := ns) (k := k) (by simpa using h)]
    exact q
end SB
namespace SB
open PySem L2
/-! ### whom a hand of the law waits for -/
def moreBy (c d n m o0 k : Int) : Int := (o0 + 1 + n / (c + d * k) % m) % m
def othersBy (c d n m o0 : Int) : Nat → List Int
  | 0 => [o0]
  | i + 1 => if moreBy c d n m o0 (i : Nat) ∈ othersBy c d n m o0 i then othersBy c d n m o0 i else othersBy c d n m o0 i ++ [moreBy c d n m o0 (i : Nat)]
section
variable {c d n m o0 : Int}
theorem oth_0 : ∀ i : Nat, (othersBy c d n m o0 i)[0]? = some o0
  | 0 => rfl
  | i + 1 => by
    have ih := oth_0 i
    unfold othersBy
    split
    · exact ih
    · rw [List.getElem?_append_left (List.getElem?_eq_some_iff.mp ih).1]; exact ih
theorem oth_len : ∀ i : Nat, (othersBy c d n m o0 i).length ≤ i + 1
  | 0 => Nat.le_refl _
  | i + 1 => by
    have ih := oth_len i
    unfold othersBy
    split
    · omega
    · rw [List.length_append, List.length_singleton]; omega
theorem oth_ne (i : Nat) : othersBy c d n m o0 i ≠ [] := fun q => by
  have h := oth_0 (c := c) (d := d) (n := n) (m := m) (o0 := o0) i
  rw [q] at h
  cases h
theorem oth_nd : ∀ i : Nat, (othersBy c d n m o0 i).Nodup
  | 0 => by unfold othersBy; simp
  | i + 1 => by
    have ih := oth_nd i
    unfold othersBy
    split
    · exact ih
    · rename_i h
      rw [List.nodup_append]
      exact ⟨ih, by simp, fun a ha b hb => by
        rw [List.mem_singleton] at hb
        subst hb
        exact fun q => h (q ▸ ha)⟩
theorem more_in (hm : 0 < m) (k : Int) : 0 ≤ moreBy c d n m o0 k ∧ moreBy c d n m o0 k < m := ⟨Int.emod_nonneg _ (by omega), Int.emod_lt_of_pos _ hm⟩
theorem oth_in (hm : 0 < m) (h0 : 0 ≤ o0 ∧ o0 < m) : ∀ (i : Nat) (o : Int), o ∈ othersBy c d n m o0 i → 0 ≤ o ∧ o < m
  | 0, o, h => by
    unfold othersBy at h
    rw [List.mem_singleton] at h
    subst h
    exact h0
  | i + 1, o, h => by
    unfold othersBy at h
    split at h
    · exact oth_in hm h0 i o h
    · rcases List.mem_append.mp h with h | h
      · exact oth_in hm h0 i o h
      · rw [List.mem_singleton] at h
        subst h
        exact more_in hm _
theorem oth_ok (b : Bool) {z : Nat} (hz : m = (z : Int)) (hm : 0 < m) (h0 : 0 ≤ o0 ∧ o0 < m) (i : Nat) : okW z (some (b, othersBy c d n m o0 i)) :=
  ⟨oth_ne i, oth_nd i, fun o ho => by rw [← hz]; exact oth_in hm h0 i o ho⟩
end
/-- ["all", "any"][i] -/
theorem word_at {i : Int} (h0 : 0 ≤ i) (h1 : i < 2) : atI [V.str "all", V.str "any"] i = some (.str (wd (decide (i = 1)))) := by
  refine at_i h0 ?_
  rcases (show i = 0 ∨ i = 1 by omega) with e | e
  · subst e; rfl
  · subst e; rfl
end SB
namespace SB
open PySem L2
def mixBy (ns : List Int) (k s : Int) : Int := (cellAt ns k * 48271 + s * 6151) % 999983
theorem mix_nn (ns : List Int) (k s : Int) : 0 ≤ mixBy ns k s := Int.emod_nonneg _ (by decide)
def pr_mixed (K : PySem.W.Frag) (A : Ad) : V → V → V → Hp → VK → XK → Prop := fun a b c H Q _ => ∃ p ns k s, a = .ref p ∧ b = .int k ∧ c = .int s ∧ SqL K H p (ns.map V.int) ∧ 0 ≤ k ∧ Q (.int (mixBy ns k s)) H
abbrev sp_mixed (K : PySem.W.Frag) (A : Ad) : Sp := sp3 (pr_mixed K A)
def t_mixed (K : PySem.W.Frag) (A : Ad) : TS :=
    (tRet (tOp qMod (tOp qAdd (tOp qMul (tCall (sp_cell_at K A) [] E0 (tCons (tVar 0) (tCons (tVar 1) tNil))) (tC (.int 48271))) (tOp qMul (tVar 2) (tC (.int 6151)))) (tC (.int 999983))))
theorem rd_mixed {K : PySem.W.Frag} {A : Ad} {a b c : V} {H : Hp} {Q : VK} {E : XK} (h : pr_mixed K A a b c H Q E) : t_mixed K A { nx := fun _ H' => Q .non H', rt := Q } [some a, some b, some c] H := by
  obtain ⟨p, ns, k, s, rfl, rfl, rfl, hs, h0, q⟩ := h
  unfold t_mixed
  walk_at "rd"
  refine ⟨p, ns, k, rfl, rfl, hs, h0, ?_⟩
  walk_at "rd"
  exact q
def waitBy (n m : Int) : Wt := if n % 5 = 0 then none else some (decide (n % 2 = 1), othersBy 900 97 n m (n / 15 % m) (n / 5 % 3).toNat)
theorem wait_ok {n m : Int} {z : Nat} (hz : m = (z : Int)) (hm : 0 < m) : okW z (waitBy n m) := by
  unfold waitBy
  split
  · exact True.intro
  · exact oth_ok _ hz hm ⟨Int.emod_nonneg _ (by omega), Int.emod_lt_of_pos _ hm⟩ _
def pr_wait_by (K : PySem.W.Frag) (A : Ad) : V → V → Hp → VK → XK → Prop := fun a b H Q _ => ∃ F n m, Same F H ∧ a = .int n ∧ b = .int m ∧ 1 ≤ m ∧ m ≤ 40 ∧ 0 ≤ n ∧ Ret F H Q (dW (waitBy n m))
abbrev sp_wait_by (K : PySem.W.Frag) (A : Ad) : Sp := sp2 (pr_wait_by K A)
def t_wait_by (K : PySem.W.Frag) (A : Ad) : TS :=
    (tSeq (tIfS (tTest (tOp rEq (tOp qMod (tVar 0) (tC (.int 5))) (tC (.int 0))))
    (tRet (tC .non))
    tNext)
    (tSeq (tAsg (tLst (tCons (tOp qMod (tOp qDiv (tVar 0) (tC (.int 15))) (tVar 1)) tNil)) (gName 2))
    (tSeq (tFor (iRng1 (tCons (tOp qMod (tOp qDiv (tVar 0) (tC (.int 5))) (tC (.int 3))) tNil)) (gName 3)
    (tSeq (tAsg (tOp qMod (tOp qAdd (tOp qAdd (tOp (rIxL K) (tVar 2) (tC (.int 0))) (tC (.int 1))) (tOp qMod (tOp qDiv (tVar 0) (tOp qAdd (tC (.int 900)) (tOp qMul (tC (.int 97)) (tVar 3)))) (tVar 1))) (tVar 1)) (gName 4))
    (tIfS (tTest (tOp (rIn K true) (tVar 4) (tVar 2)))
    (tDrop (tBM K "list" rAppend (tVar 2) (tCons (tVar 4) tNil)))
    tNext)))
    (tRet (tTup (tCons (tOp (rIxL K) (tLst (tCons (tC (.str "all")) (tCons (tC (.str "any")) tNil))) (tOp qMod (tVar 0) (tC (.int 2)))) (tCons (tVar 2) tNil)))))))
theorem rd_wait_by {K : PySem.W.Frag} {A : Ad} {a b : V} {H : Hp} {Q : VK} {E : XK} (h : pr_wait_by K A a b H Q E) : t_wait_by K A { nx := fun _ H' => Q .non H', rt := Q } [some a, some b, none, none, none] H := by
  obtain ⟨F, n, m, sF, rfl, rfl, m1, m40, n0, q⟩ := h
  have Z : Zs F H F H [] := Zs.start sF
  unfold t_wait_by
  walk_at "rd"
  refine ifd (fun h => ?_) (fun h => ?_)
  · walk_at "rd"
    refine q F _ _ Z ?_
    unfold waitBy
    rw [if_pos h]
    exact .non
  · walk_at "rd"
    refine r_mk sz1 Z (fun l H1 Z1 => ?_)
    walk_at "rd"
    refine r_rng1 (by omega) (fun i σ' H' => ∃ x3 x4, σ' = [some (.int n), some (.int m), some (.ref l), x3, x4] ∧ Zs F H F H' [(l, .lst ((othersBy 900 97 n m (n / 15 % m) i).map V.int))]) ⟨none, none, rfl, Z1⟩ ?_ ?_
    · rintro i σ' H' hi ⟨x3, x4, rfl, Z⟩
      dsimp only [List.set_cons_succ, List.set_cons_zero]
      have hlen := oth_len (c := 900) (d := 97) (n := n) (m := m) (o0 := n / 15 % m) i
      walk_at "rd"
      refine r_ixL (SqL.of (Z.get (i := 0) rfl)) (v := .int (n / 15 % m)) (at_i (by decide) (by rw [List.getElem?_map, show (0 : Int).toNat = 0 from rfl, oth_0] <;> rfl)) ?_
      walk_at "rd"
      refine r_inL (SqL.of (Z.get (i := 0) rfl)) rfl (flat_ints _) ?_
      rw [if_pos rfl, inV_int]
      walk_at "rd"
      refine ifn (fun h2 => ?_) (fun h2 => ?_)
      · walk_at "rd"
        refine ⟨ty_l (SqL.of (Z.get (i := 0) rfl)), ?_⟩
        walk_at "rd"
        refine r_append 0 Z rfl (by rw [List.length_map]; omega) (fun H2 Z2 => ?_)
        walk_at "rd"
        refine ⟨_, _, rfl, ?_⟩
        unfold othersBy
        rw [if_neg (show ¬ moreBy 900 97 n m (n / 15 % m) (i : Nat) ∈ _ from h2), List.map_append]
        exact Z2
      · walk_at "rd"
        refine ⟨_, _, rfl, ?_⟩
        unfold othersBy
        rw [if_pos (show moreBy 900 97 n m (n / 15 % m) (i : Nat) ∈ _ from h2)]
        exact Z
    · rintro σ' H' ⟨x3, x4, rfl, Z⟩
      walk_at "rd"
      refine r_mk sz2 Z (fun p H2 Z2 => ?_)
      walk_at "rd"
      refine r_ixL (SqL.of (Z2.get (i := 0) rfl)) (word_at (by omega) (by omega)) ?_
      walk_at "rd"
      refine r_mk sz2 Z2.drop (fun t H3 Z3 => ?_)
      obtain ⟨F1, Z4, s1, e1⟩ := Z3.frzAt 1 rfl
      obtain ⟨F2, Z5, s2, e2⟩ := Z4.frzAt 0 rfl
      refine q F2 _ _ Z5 ?_
      unfold waitBy
      rw [if_neg h]
      exact Td.mk_w e2 (s2 _ _ e1)
end SB
namespace SB
open PySem L2
/-! ### the law k03 -/
def sizeBy (ns : List Int) : Int := if cellAt ns 0 / 7 % 4 = 1 then 1 + cellAt ns 0 / 28 % 40 else 1 + cellAt ns 0 % 7
theorem size_in (ns : List Int) : 1 ≤ sizeBy ns ∧ sizeBy ns ≤ 40 := by unfold sizeBy; split <;> omega
def waitAt (ns : List Int) (i : Nat) : Wt := waitBy (mixBy ns (3 + (i : Int) % 40) i) (sizeBy ns)
def waitsOf (ns : List Int) : List Wt := (List.range (sizeBy ns).toNat).map (waitAt ns)
theorem waits_len (ns : List Int) : (waitsOf ns).length = (sizeBy ns).toNat := by unfold waitsOf; rw [List.length_map, List.length_range]
theorem waits_ok (ns : List Int) : OkWs (waitsOf ns) := by
  have h := size_in ns
  refine ⟨by rw [waits_len]; omega, by rw [waits_len]; omega, fun w hw => ?_⟩
  obtain ⟨i, _, rfl⟩ := List.mem_map.mp hw
  exact wait_ok (by rw [waits_len]; omega) (by omega)
def pr_waits (K : PySem.W.Frag) (A : Ad) : V → Hp → VK → XK → Prop := fun a H Q _ => ∃ F p ns, Same F H ∧ a = .ref p ∧ SqL K H p (ns.map V.int) ∧ Ret F H Q (dWs (waitsOf ns))
abbrev sp_waits (K : PySem.W.Frag) (A : Ad) : Sp := sp1 (pr_waits K A)
def t_waits (K : PySem.W.Frag) (A : Ad) : TS :=
    (tSeq (tAsg (tCall (sp_cell_at K A) [] E0 (tCons (tVar 0) (tCons (tC (.int 0)) tNil))) (gName 1))
    (tSeq (tAsg (tOp qAdd (tC (.int 1)) (tOp qMod (tVar 1) (tC (.int 7)))) (gName 2))
    (Evl.tCut (tIfS (tTest (tOp rEq (tOp qMod (tOp qDiv (tVar 1) (tC (.int 7))) (tC (.int 4))) (tC (.int 1))))
    (tAsg (tOp qAdd (tC (.int 1)) (tOp qMod (tOp qDiv (tVar 1) (tC (.int 28))) (tC (.int 40)))) (gName 2))
    tNext)
    (tRet (tLc (iRng1 (tCons (tVar 2) tNil)) (gName 3) tYes (tCall (sp_wait_by K A) [] E0 (tCons (tCall (sp_mixed K A) [] E0 (tCons (tVar 0) (tCons (tOp qAdd (tC (.int 3)) (tOp qMod (tVar 3) (tC (.int 40)))) (tCons (tVar 3) tNil)))) (tCons (tVar 2) tNil))) [3])))))
theorem rd_waits {K : PySem.W.Frag} {A : Ad} {a : V} {H : Hp} {Q : VK} {E : XK} (h : pr_waits K A a H Q E) : t_waits K A { nx := fun _ H' => Q .non H', rt := Q } [some a, none, none, none] H := by
  obtain ⟨F, p, ns, sF, rfl, hs, q⟩ := h
  have Z : Zs F H F H [] := Zs.start sF
  unfold t_waits
  walk_at "rd"
  refine ⟨p, ns, 0, rfl, rfl, hs, by decide, ?_⟩
  walk_at "rd"
  have hsz := size_in ns
  refine r_cut (fun σ' H' => σ' = [some (.ref p), some (.int (cellAt ns 0)), some (.int (sizeBy ns)), none] ∧ H' = H) ?_ ?_
  · walk_at "rd"
    refine ifd (fun h => ?_) (fun h => ?_)
    · walk_at "rd"
      exact ⟨by unfold sizeBy; rw [if_pos h], rfl⟩
    · walk_at "rd"
      exact ⟨by unfold sizeBy; rw [if_neg h], rfl⟩
  · rintro σ' H' ⟨rfl, rfl⟩
    walk_at "rd"
    refine lc_rng (by omega) Z (fun i acc F' => TdA F' acc (((List.range i).map (waitAt ns)).map dW)) (fun _ => rfl) .nil ?_ ?_
    · intro i Dl F' H' acc hi Z' s hacc hP
      dsimp only [wipe]
      walk_at "rd"
      refine ifT rfl ?_
      walk_at "rd"
      refine ⟨p, ns, _, _, rfl, rfl, rfl, Z'.hh.seq hs, by omega, ?_⟩
      walk_at "rd"
      refine ⟨F', _, _, Z'.fh, rfl, rfl, hsz.1, hsz.2, mix_nn _ _ _, fun F2 H2 v Z2 hv => ?_⟩
      refine cy (Z'.call Z2) (s.trans Z2.ff) hacc (by omega) ?_
      show TdA F2 _ _
      rw [List.range_succ, List.map_append, List.map_append]
      exact (hP.up Z2.ff).snoc hv
    · intro Dl F' H' acc Z' s hP
      obtain ⟨F2, Z3, s2, e2⟩ := Z'.frzAt 0 rfl
      exact q F2 _ _ Z3 (.lst e2 (hP.up s2))
end SB
namespace SB
open PySem L2
/-! ### the program: waits.py -/
/-- isinstance over data -/
def tyD : PyData → String
  | .none => "NoneType"
  | .bool _ => "bool"
  | .int _ => "int"
  | .str _ => "str"
  | .list _ => "list"
  | .tuple _ => "tuple"
  | .dict _ => "dict"
theorem ty_of {K : PySem.W.Frag} {H : Hp} {v : V} {d : PyData} (h : Td H v d) : TyX K H v (.type (tyD d)) := by
  cases h with
  | non => exact .base .non
  | bl b => exact .base (.bl b)
  | int i => exact .base (.int i)
  | str x => exact .base (.str x)
  | lst a b => exact .base (.lst a)
  | tup a b => exact .base (.tup a)
def isD (d : PyData) (n : String) : Bool := (kitB (tyD d) n).getD false
theorem r_isi {K : PySem.W.Frag} {H : Hp} {v : V} {d : PyData} {n : String} {b : Bool} {Q : VK} (h : Td H v d) (hb : kitB (tyD d) n = some b) (k : Q (.bl b) H) : rIsi K [v, .ty n] H Q :=
  ⟨v, .ty n, .type (tyD d), .type n, b, rfl, .ty n, ty_of h, kit_ty hb, k⟩
theorem ki_int : ∀ d : PyData, kitB (tyD d) "int" = some (match d with | .int _ => true | .bool _ => true | _ => false)
  | .none => by decide +kernel
  | .bool _ => by show kitB "bool" "int" = some true; decide +kernel
  | .int _ => by show kitB "int" "int" = some true; decide +kernel
  | .str _ => by show kitB "str" "int" = some false; decide +kernel
  | .list _ => by show kitB "list" "int" = some false; decide +kernel
  | .tuple _ => by show kitB "tuple" "int" = some false; decide +kernel
  | .dict _ => by show kitB "dict" "int" = some false; decide +kernel
theorem ki_bool : ∀ d : PyData, kitB (tyD d) "bool" = some (match d with | .bool _ => true | _ => false)
  | .none => by decide +kernel
  | .bool _ => by show kitB "bool" "bool" = some true; decide +kernel
  | .int _ => by show kitB "int" "bool" = some false; decide +kernel
  | .str _ => by show kitB "str" "bool" = some false; decide +kernel
  | .list _ => by show kitB "list" "bool" = some false; decide +kernel
  | .tuple _ => by show kitB "tuple" "bool" = some false; decide +kernel
  | .dict _ => by show kitB "dict" "bool" = some false; decide +kernel
theorem ki_str : ∀ d : PyData, kitB (tyD d) "str" = some (match d with | .str _ => true | _ => false)
  | .none => by decide +kernel
  | .bool _ => by show kitB "bool" "str" = some false; decide +kernel
  | .int _ => by show kitB "int" "str" = some false; decide +kernel
  | .str _ => by show kitB "str" "str" = some true; decide +kernel
  | .list _ => by show kitB "list" "str" = some false; decide +kernel
  | .tuple _ => by show kitB "tuple" "str" = some false; decide +kernel
  | .dict _ => by show kitB "dict" "str" = some false; decide +kernel
theorem ki_list : ∀ d : PyData, kitB (tyD d) "list" = some (match d with | .list _ => true | _ => false)
  | .none => by decide +kernel
  | .bool _ => by show kitB "bool" "list" = some false; decide +kernel
  | .int _ => by show kitB "int" "list" = some false; decide +kernel
  | .str _ => by show kitB "str" "list" = some false; decide +kernel
  | .list _ => by show kitB "list" "list" = some true; decide +kernel
  | .tuple _ => by show kitB "tuple" "list" = some false; decide +kernel
  | .dict _ => by show kitB "dict" "list" = some false; decide +kernel
theorem ki_tuple : ∀ d : PyData, kitB (tyD d) "tuple" = some (match d with | .tuple _ => true | _ => false)
  | .none => by decide +kernel
  | .bool _ => by show kitB "bool" "tuple" = some false; decide +kernel
  | .int _ => by show kitB "int" "tuple" = some false; decide +kernel
  | .str _ => by show kitB "str" "tuple" = some false; decide +kernel
  | .list _ => by show kitB "list" "tuple" = some false; decide +kernel
  | .tuple _ => by show kitB "tuple" "tuple" = some true; decide +kernel
  | .dict _ => by show kitB "dict" "tuple" = some false; decide +kernel

/-- is_hand -/
def handD : PyData → Int → Bool
  | .int i, m => decide (0 ≤ i) && decide (i < m)
  | _, _ => false
def pr_is_hand (K : PySem.W.Frag) (A : Ad) : V → V → Hp → VK → XK → Prop := fun a b H Q _ => ∃ d m, Td H a d ∧ b = .int m ∧ Q (.bl (handD d m)) H
abbrev sp_is_hand (K : PySem.W.Frag) (A : Ad) : Sp := sp2 (pr_is_hand K A)
def t_is_hand (K : PySem.W.Frag) (A : Ad) : TS :=
    (tRet (tAndV (tCB (rIsi K) (tCons (tVar 0) (tCons (tC (.ty "int")) tNil))) (tAndV (tNotV (tCB (rIsi K) (tCons (tVar 0) (tCons (tC (.ty "bool")) tNil)))) (tChain qLe qLt (tC (.int 0)) (tVar 0) (tVar 1)))))
theorem rd_is_hand {K : PySem.W.Frag} {A : Ad} {a b : V} {H : Hp} {Q : VK} {E : XK} (h : pr_is_hand K A a b H Q E) : t_is_hand K A { nx := fun _ H' => Q .non H', rt := Q } [some a, some b] H := by
  obtain ⟨d, m, hd, rfl, q⟩ := h
  unfold t_is_hand
  walk_at "rd"
  refine r_isi hd (ki_int d) ?_
  walk_at "rd"
  refine ifb (fun h => ?_) (fun h => ?_)
  · walk_at "rd"
    refine r_isi hd (ki_bool d) ?_
    walk_at "rd"
    refine ifnb (fun h2 => ?_) (fun h2 => ?_)
    · cases hd with
      | int i =>
        walk_at "rd"
        refine ifd (fun h3 => ?_) (fun h3 => ?_)
        · walk_at "rd"
          have e : handD (.int i) m = decide (i < m) := by
            show (decide (0 ≤ i) && decide (i < m)) = _
            rw [decide_eq_true h3, Bool.true_and]
          rw [← e]
          exact q
        · have e : handD (.int i) m = false := by
            show (decide (0 ≤ i) && decide (i < m)) = _
            rw [decide_eq_false h3, Bool.false_and]
          rw [← e]
          exact q
      | bl b => cases h2
      | non => cases h
      | str x => cases h
      | lst x y => cases h
      | tup x y => cases h
    · cases hd with
      | bl b => exact q
      | int i => cases h2
      | non => cases h
      | str x => cases h
      | lst x y => cases h
      | tup x y => cases h
  · cases hd with
    | bl b => cases h
    | int i => cases h
    | non => exact q
    | str x => exact q
    | lst x y => exact q
    | tup x y => exact q
/-- need_hand of a hand -/
def pr_need_hand (K : PySem.W.Frag) (A : Ad) : V → V → Hp → VK → XK → Prop := fun a b H Q _ => ∃ m i, a = .int m ∧ b = .int i ∧ 0 ≤ i ∧ i < m ∧ Q (.int i) H
abbrev sp_need_hand (K : PySem.W.Frag) (A : Ad) : Sp := sp2 (pr_need_hand K A)
def t_need_hand (K : PySem.W.Frag) (A : Ad) : TS :=
    (tSeq (tIfS (tNot (tB (tCall (sp_is_hand K A) [] E0 (tCons (tVar 1) (tCons (tVar 0) tNil)))))
    tNever
    tNext)
    (tRet (tVar 1)))
theorem rd_need_hand {K : PySem.W.Frag} {A : Ad} {a b : V} {H : Hp} {Q : VK} {E : XK} (h : pr_need_hand K A a b H Q E) : t_need_hand K A { nx := fun _ H' => Q .non H', rt := Q } [some a, some b] H := by
  obtain ⟨m, i, rfl, rfl, h0, h1, q⟩ := h
  unfold t_need_hand
  walk_at "rd"
  refine ⟨_, m, .int i, rfl, ?_⟩
  walk_at "rd"
  have e : handD (.int i) m = true := by
    show (decide (0 ≤ i) && decide (i < m)) = true
    rw [decide_eq_true h0, decide_eq_true h1] <;> rfl
  rw [e]
  refine ifF rfl ?_
  walk_at "rd"
  exact q
end SB
namespace SB
open PySem L2
/-! ### the program: is_wait of any data -/
def WaitP (d : PyData) (m : Nat) : Prop := ∃ w : Wt, d = dW w ∧ okW m w
noncomputable def waitD (d : PyData) (m : Nat) : Bool := @decide (WaitP d m) (Classical.propDecidable _)
theorem waitD_t {d : PyData} {m : Nat} (h : WaitP d m) : waitD d m = true := @decide_eq_true _ (Classical.propDecidable _) h
theorem waitD_f {d : PyData} {m : Nat} (h : ¬ WaitP d m) : waitD d m = false := @decide_eq_false _ (Classical.propDecidable _) h
def pr_is_wait (K : PySem.W.Frag) (A : Ad) : V → V → Hp → VK → XK → Prop := fun a b H Q _ => ∃ d m, Td H a d ∧ SeqAt.shaped d = true ∧ b = .int (m : Nat) ∧ ∀ H', Same H H' → Q (.bl (waitD d m)) H'
abbrev sp_is_wait (K : PySem.W.Frag) (A : Ad) : Sp := sp2 (pr_is_wait K A)
/-- what the top has laid: the words -/
def WordsOk (K : PySem.W.Frag) (A : Ad) : Prop := ∀ H, SqT K H A.words [.str "all", .str "any"]
def t_is_wait (K : PySem.W.Frag) (A : Ad) : TS :=
    (tSeq (tIfS (tTest (tOp qIsN (tVar 0) (tC .non)))
    (tRet (tC (.bl true)))
    tNext)
    (tSeq (tIfS (tOr (tNot (tB (tCB (rIsi K) (tCons (tVar 0) (tCons (tC (.ty "tuple")) tNil))))) (tOr (tTest (tOp rNe (tCB (qLen K) (tCons (tVar 0) tNil)) (tC (.int 2)))) (tOr (tNot (tB (tCB (rIsi K) (tCons (tOp (rIxT K) (tVar 0) (tC (.int 0))) (tCons (tC (.ty "str")) tNil))))) (tTest (tOp (rIn K true) (tOp (rIxT K) (tVar 0) (tC (.int 0))) (tC (.ref A.words)))))))
    (tRet (tC (.bl false)))
    tNext)
    (tSeq (tIfS (tOr (tNot (tB (tCB (rIsi K) (tCons (tOp (rIxT K) (tVar 0) (tC (.int 1))) (tCons (tC (.ty "list")) tNil))))) (tTest (tOp (rEqD K) (tOp (rIxT K) (tVar 0) (tC (.int 1))) (tLst tNil))))
    (tRet (tC (.bl false)))
    tNext)
    (tSeq (tFor (iEnum K (tCons (tOp (rIxT K) (tVar 0) (tC (.int 1))) tNil)) (gTup K 2 (gCons (gName 2) (gCons (gName 3) gNil)))
    (tIfS (tOr (tNot (tB (tCall (sp_is_hand K A) [] E0 (tCons (tVar 3) (tCons (tVar 1) tNil))))) (tTest (tOp (rIn K false) (tVar 3) (tSl (rSlL K) (tOp (rIxT K) (tVar 0) (tC (.int 1))) tNoPart (tPart (tVar 2))))))
    (tRet (tC (.bl false)))
    tNext))
    (tRet (tC (.bl true)))))))
theorem tup_inj2 {a b c d : PyData} (h : PyData.tuple [a, b] = .tuple [c, d]) : a = c ∧ b = d := by
  injection h with h
  injection h with h1 h2
  injection h2 with h2 _
  exact ⟨h1, h2⟩
theorem wd_inj {b c : Bool} (h : wd b = wd c) : b = c := by
  cases b <;> cases c <;> first | rfl | exact absurd h (by decide +kernel)
theorem words_in (x : Str) : inV (.str x) [.str "all", .str "any"] = true ↔ ∃ b, x = wd b := by
  unfold inV
  rw [List.any_cons, List.any_cons, List.any_nil, Bool.or_false]
  show (((("all" : Str) == x) || (("any" : Str) == x)) = true) ↔ _
  rw [Bool.or_eq_true, beq_iff_eq, beq_iff_eq]
  constructor
  · rintro (e | e)
    · exact ⟨false, e.symm⟩
    · exact ⟨true, e.symm⟩
  · rintro ⟨b, rfl⟩
    cases b
    · exact .inl rfl
    · exact .inr rfl
theorem rd_is_wait {K : PySem.W.Frag} {A : Ad} (W : WordsOk K A) {a b : V} {H : Hp} {Q : VK} {E : XK} (h : pr_is_wait K A a b H Q E) : t_is_wait K A { nx := fun _ H' => Q .non H', rt := Q } [some a, some b, none, none] H := by
  obtain ⟨d, m, hd, hsh, rfl, q⟩ := h
  have no : ¬ WaitP d m → ∀ H', Same H H' → Q (.bl false) H' := fun n H' s => by
    rw [← waitD_f n]; exact q H' s
  have yes : WaitP d m → ∀ H', Same H H' → Q (.bl true) H' := fun n H' s => by
    rw [← waitD_t n]; exact q H' s
  have Z : Zs H H H H [] := Zs.start (Same.refl _)
  unfold t_is_wait
  walk_at "rd"
  refine ifd (fun h => ?_) (fun h => ?_)
  · walk_at "rd"
    exact yes ⟨none, hd.non_iff.mp h, True.intro⟩ H (Same.refl _)
  have hn : ¬ d = .none := fun q => h (hd.non_iff.mpr q)
  walk_at "rd"
  refine r_isi hd (ki_tuple d) ?_
  walk_at "rd"
  refine ifnb (fun h1 => ?_) (fun h1 => ?_)
  · walk_at "rd"
    refine ifT rfl ?_
    walk_at "rd"
    refine no (fun ⟨w, e, _⟩ => ?_) H (Same.refl _)
    subst e
    cases w with
    | none => exact hn rfl
    | some p => cases h1
  obtain ⟨ds, rfl⟩ : ∃ ds, d = .tuple ds := by
    cases d <;> first | exact ⟨_, rfl⟩ | cases h1
  obtain ⟨p, xs, rfl, hp, hx⟩ := hd.inv_tup
  walk_at "rd"
  refine r_lenT (SqT.of hp) ?_
  walk_at "rd"
  refine ifn (fun h2 => ?_) (fun h2 => ?_)
  · walk_at "rd"
    refine ifT rfl ?_
    walk_at "rd"
    refine no (fun ⟨w, e, _⟩ => ?_) H (Same.refl _)
    cases w with
    | none => cases e
    | some p =>
      cases e
      exact h2 (by rw [hx.len] <;> rfl)
  obtain ⟨x0, x1, d0, d1, rfl, rfl, h0, h1'⟩ : ∃ x0 x1 d0 d1, xs = [x0, x1] ∧ ds = [d0, d1] ∧ Td H x0 d0 ∧ Td H x1 d1 := by
    cases hx with
    | nil => exact absurd h2 (by decide)
    | cons a hx =>
      cases hx with
      | nil => exact absurd h2 (by simp)
      | cons b hx =>
        cases hx with
        | nil => exact ⟨_, _, _, _, rfl, rfl, a, b⟩
        | cons c hx =>
          rw [List.length_cons, List.length_cons, List.length_cons] at h2
          omega
  walk_at "rd"
  refine r_ixT (SqT.of hp) (at_i (by decide) rfl) ?_
  walk_at "rd"
  refine r_isi h0 (ki_str d0) ?_
  walk_at "rd"
  refine ifnb (fun h3 => ?_) (fun h3 => ?_)
  · walk_at "rd"
    refine ifT rfl ?_
    walk_at "rd"
    refine no (fun ⟨w, e, _⟩ => ?_) H (Same.refl _)
    cases w with
    | none => cases e
    | some p => cases e; cases h3
  obtain ⟨s0, rfl⟩ : ∃ s, d0 = .str s := by
    cases d0 <;> first | exact ⟨_, rfl⟩ | cases h3
  cases h0
  walk_at "rd"
  refine r_ixT (SqT.of hp) (at_i (by decide) rfl) ?_
  walk_at "rd"
  refine r_inT (W H) rfl rfl ?_
  rw [if_pos rfl]
  walk_at "rd"
  refine ifnb (fun h4 => ?_) (fun h4 => ?_)
  · walk_at "rd"
    refine no (fun ⟨w, e, _⟩ => ?_) H (Same.refl _)
    cases w with
    | none => cases e
    | some p =>
      cases e
      rw [(words_in _).mpr ⟨p.1, rfl⟩] at h4
      cases h4
  obtain ⟨bw, rfl⟩ := (words_in _).mp h4
  walk_at "rd"
  refine r_ixT (SqT.of hp) (at_i (by decide) rfl) ?_
  walk_at "rd"
  refine r_isi h1' (ki_list d1) ?_
  walk_at "rd"
  refine ifnb (fun h5 => ?_) (fun h5 => ?_)
  · walk_at "rd"
    refine ifT rfl ?_
    walk_at "rd"
    refine no (fun ⟨w, e, _⟩ => ?_) H (Same.refl _)
    cases w with
    | none => cases e
    | some p => rw [(tup_inj2 e).2] at h5; cases h5
  obtain ⟨es, rfl⟩ : ∃ s, d1 = .list s := by
    cases d1 <;> first | exact ⟨_, rfl⟩ | cases h5
  obtain ⟨l, ys, rfl, hl, hy⟩ := h1'.inv_lst
  have shl : SeqAt.shaped (.list es) = true := shaped_t hsh (by simp)
  walk_at "rd"
  refine r_ixT (SqT.of hp) (at_i (by decide) rfl) ?_
  walk_at "rd"
  refine r_mk sz0 Z (fun p1 H1 Z1 => ?_)
  refine r_eqD (d := .list es) (e := .list []) (h1'.up Z1.hh) (.lst (Z1.get (i := 0) rfl) .nil) shl rfl ?_
  rw [eqv_nil]
  walk_at "rd"
  have fin : ∀ b os, PyData.tuple [.str (wd bw), .list es] = dW (some (b, os)) → es = os.map PyData.int := fun b os e => by
    have := (tup_inj2 e).2
    injection this
  refine ifb (fun h6 => ?_) (fun h6 => ?_)
  · walk_at "rd"
    refine no (fun ⟨w, e, k⟩ => ?_) H1 Z1.hh
    cases w with
    | none => cases e
    | some p =>
      have e2 := fin _ _ e
      have k1 := k.1
      cases hh : p.2 with
      | nil => exact k1 hh
      | cons x y => rw [e2, hh] at h6; cases h6
  walk_at "rd"
  refine r_ixT (SqT.of (Z1.fh _ _ hp)) (at_i (by decide) rfl) ?_
  walk_at "rd"
  have hlen := hy.len
  refine r_enumI (xs := ys) (SqL.of (Z1.fh _ _ hl)) (fun i σ' H' => ∃ x2 x3, σ' = [some (.ref p), some (.int (m : Nat)), x2, x3] ∧ Zs H H H H' [] ∧ ∃ os : List Int, es.take i = os.map PyData.int ∧ os.Nodup ∧ ∀ o ∈ os, 0 ≤ o ∧ o < (m : Int))
    ⟨none, none, rfl, Z1.nil, [], by simp, List.nodup_nil, fun _ q => (nomatch q)⟩ (fun i σ' H' _ ⟨_, _, _, Z', _⟩ => SqL.of (Z'.fh _ _ hl)) ?_ ?_
  · rintro i x T σ' H' hi ⟨x2, x3, rfl, Z', os, o1, o2, o3⟩ hT
    have Z2 := Z'.alloc (o := .tup [.int (i : Nat), x]) hT
    refine r_gt2 (SqT.of (Z2.get (i := 0) rfl)) ?_
    dsimp only [List.set_cons_succ, List.set_cons_zero]
    replace Z2 := Z2.drop
    obtain ⟨di, hdi, hxi⟩ := hy.at hi
    walk_at "rd"
    refine ⟨di, (m : Nat), hxi.up Z2.fh, rfl, ?_⟩
    walk_at "rd"
    have bad : ∀ os' : List Int, es = os'.map PyData.int → ∃ o, os'[i]? = some o ∧ di = .int o ∧ os = os'.take i := fun os' e => by
      subst e
      rw [List.getElem?_map] at hdi
      cases e2 : os'[i]? with
      | none => rw [e2] at hdi; cases hdi
      | some o =>
        rw [e2] at hdi
        refine ⟨o, rfl, (Option.some.inj hdi).symm, ?_⟩
        rw [← List.map_take] at o1
        exact ((List.map_inj_right (fun a b q => by cases q; rfl)).mp o1).symm
    refine ifnb (fun h7 => ?_) (fun h7 => ?_)
    · walk_at "rd"
      refine ifT rfl ?_
      walk_at "rd"
      refine no (fun ⟨w, e, k⟩ => ?_) _ Z2.hh
      cases w with
      | none => cases e
      | some p =>
        obtain ⟨o, ho, rfl, _⟩ := bad _ (fin _ _ e)
        have := k.2.2 o (List.mem_of_getElem? ho)
        have h7' : (decide (0 ≤ o) && decide (o < (m : Int))) = false := h7
        rw [decide_eq_true this.1, decide_eq_true this.2] at h7'
        cases h7'
    obtain ⟨o, rfl, h8, h9⟩ : ∃ o, di = .int o ∧ 0 ≤ o ∧ o < (m : Int) := by
      cases di with
      | int o =>
        have h7' : (decide (0 ≤ o) && decide (o < (m : Int))) = true := h7
        rw [Bool.and_eq_true] at h7'
        exact ⟨o, rfl, of_decide_eq_true h7'.1, of_decide_eq_true h7'.2⟩
      | _ => cases h7
    cases hxi
    walk_at "rd"
    refine r_ixT (SqT.of (Z2.fh _ _ hp)) (at_i (by decide) rfl) ?_
    walk_at "rd"
    refine r_slL Z2 (SqL.of (Z2.fh _ _ hl)) (fun p3 H3 Z3 => ?_)
    have ey : ys.take i = os.map V.int := by
      have := (hy.take i)
      rw [o1] at this
      exact this.of_ints
    rw [cut_take, ey] at Z3
    refine r_inL (SqL.of (Z3.get (i := 0) rfl)) rfl (flat_ints _) ?_
    rw [if_neg (by decide), inV_int]
    walk_at "rd"
    refine ifd (fun h10 => ?_) (fun h10 => ?_)
    · walk_at "rd"
      refine no (fun ⟨w, e, k⟩ => ?_) _ Z3.hh
      cases w with
      | none => cases e
      | some p =>
        obtain ⟨o', ho, e3, e4⟩ := bad _ (fin _ _ e)
        cases e3
        rw [e4] at h10
        have nd := k.2.1
        obtain ⟨j, hj⟩ := List.mem_iff_getElem?.mp h10
        rw [List.getElem?_take] at hj
        split at hj
        · rename_i lt
          have := nd_ix nd ho hj
          omega
        · cases hj
    · walk_at "rd"
      refine ⟨_, _, rfl, Z3.nil, os ++ [o], ?_, ?_, ?_⟩
      · rw [take_snoc hdi, o1, List.map_append] <;> rfl
      · rw [List.nodup_append]
        exact ⟨o2, by simp, fun a ha b hb => by
          rw [List.mem_singleton] at hb
          subst hb
          exact fun q => h10 (q ▸ ha)⟩
      · intro a ha
        rcases List.mem_append.mp ha with ha | ha
        · exact o3 a ha
        · rw [List.mem_singleton] at ha
          subst ha
          exact ⟨h8, h9⟩
  · rintro σ' H' ⟨x2, x3, rfl, Z', os, o1, o2, o3⟩
    rw [hlen, List.take_length] at o1
    walk_at "rd"
    refine yes ⟨some (bw, os), ?_, ?_, o2, o3⟩ _ Z'.hh
    · rw [o1] <;> rfl
    · intro e
      subst e
      rw [o1] at h6
      cases h6
end SB
namespace SB
open PySem L2
/-! ### the program: need of good waits -/
def pr_need (K : PySem.W.Frag) (A : Ad) : V → Hp → VK → XK → Prop := fun a H Q _ => ∃ ws, Td H a (dWs ws) ∧ OkWs ws ∧ ∀ H', Same H H' → Q (.bl true) H'
abbrev sp_need (K : PySem.W.Frag) (A : Ad) : Sp := sp1 (pr_need K A)
def t_need (K : PySem.W.Frag) (A : Ad) : TS :=
    (tSeq (tIfS (tOr (tNot (tB (tCB (rIsi K) (tCons (tVar 0) (tCons (tC (.ty "list")) tNil))))) (tNot (tTest (tChain qLe qLe (tC (.int 1)) (tCB (qLen K) (tCons (tVar 0) tNil)) (tC (.int 40))))))
    tNever
    tNext)
    (tSeq (tFor (iEnum K (tCons (tVar 0) tNil)) (gTup K 2 (gCons (gName 1) (gCons (gName 2) gNil)))
    (tIfS (tNot (tB (tCall (sp_is_wait K A) [] E0 (tCons (tVar 2) (tCons (tCB (qLen K) (tCons (tVar 0) tNil)) tNil)))))
    tNever
    tNext))
    (tRet (tC (.bl true)))))
theorem rd_need {K : PySem.W.Frag} {A : Ad} {a : V} {H : Hp} {Q : VK} {E : XK} (h : pr_need K A a H Q E) : t_need K A { nx := fun _ H' => Q .non H', rt := Q } [some a, none, none] H := by
  obtain ⟨ws, hd, ok, q⟩ := h
  have Z : Zs H H H H [] := Zs.start (Same.refl _)
  have hd0 := hd
  obtain ⟨p, xs, rfl, hp, hx, hl⟩ := Td.inv_ws hd0
  unfold t_need
  walk_at "rd"
  refine r_isi hd (ki_list _) ?_
  walk_at "rd"
  refine ifF rfl ?_
  walk_at "rd"
  refine r_lenL (SqL.of hp) ?_
  have o1 := ok.pos
  have o2 := ok.most
  walk_at "rd"
  refine ifd (fun _ => ?_) (fun h => absurd (by omega) h)
  walk_at "rd"
  refine ifF (by rw [decide_eq_true (by omega)]; rfl) ?_
  walk_at "rd"
  refine r_enumI (xs := xs) (SqL.of hp) (fun i σ' H' => ∃ x2 x3, σ' = [some (.ref p), x2, x3] ∧ Zs H H H H' []) ⟨none, none, rfl, Z⟩ (fun i σ' H' _ ⟨_, _, _, Z'⟩ => SqL.of (Z'.fh _ _ hp)) ?_ ?_
  · rintro i x T σ' H' hi ⟨x2, x3, rfl, Z'⟩ hT
    have Z2 := Z'.alloc (o := .tup [.int (i : Nat), x]) hT
    refine r_gt2 (SqT.of (Z2.get (i := 0) rfl)) ?_
    dsimp only [List.set_cons_succ, List.set_cons_zero]
    replace Z2 := Z2.drop
    obtain ⟨w, hw, hxw⟩ := TdA.ws_at hx hi
    walk_at "rd"
    refine r_lenL (SqL.of (Z2.fh _ _ hp)) ?_
    walk_at "rd"
    refine ⟨dW w, ws.length, hxw.up Z2.fh, shaped_map1 w, by rw [hl], fun H3 s3 => ?_⟩
    walk_at "rd"
    rw [waitD_t ⟨w, rfl, ok.all w (List.mem_of_getElem? hw)⟩]
    refine ifF rfl ?_
    walk_at "rd"
    exact ⟨_, _, rfl, Z2.ext s3⟩
  · rintro σ' H' ⟨x2, x3, rfl, Z'⟩
    walk_at "rd"
    exact q _ Z'.hh

/-! ### the program: shows of good waits and of hands -/
def showsAt (ws : List Wt) (hs : List Int) (h : Int) : Bool := match ws[h.toNat]? with
  | some (some (b, os)) => let w := os.filter fun o => decide (o ∈ hs)
    !w.isEmpty && (!b || decide (w.length = os.length))
  | _ => false
def showsB (ws : List Wt) (hs : List Int) : Bool := hs.all (showsAt ws hs)
def pr_shows (K : PySem.W.Frag) (A : Ad) : V → V → Hp → VK → XK → Prop := fun a b H Q _ => ∃ ws hs, Td H a (dWs ws) ∧ OkWs ws ∧ Td H b (.list (hs.map PyData.int)) ∧ (∀ h ∈ hs, 0 ≤ h ∧ h < (ws.length : Int)) ∧ hs.length ≤ 1000 ∧ ∀ H', Same H H' → Q (.bl (showsB ws hs)) H'
abbrev sp_shows (K : PySem.W.Frag) (A : Ad) : Sp := sp2 (pr_shows K A)
def t_shows (K : PySem.W.Frag) (A : Ad) : TS :=
    (tSeq (tDrop (tCall (sp_need K A) [] E0 (tCons (tVar 0) tNil)))
    (tSeq (tFor (iList K (tVar 1)) (gName 2)
    (tDrop (tCall (sp_need_hand K A) [] E0 (tCons (tCB (qLen K) (tCons (tVar 0) tNil)) (tCons (tVar 2) tNil)))))
    (tSeq (tFor (iList K (tVar 1)) (gName 2)
    (tSeq (tAsg (tOp (rIxL K) (tVar 0) (tVar 2)) (gName 3))
    (tSeq (tIfS (tTest (tOp qIsN (tVar 3) (tC .non)))
    (tRet (tC (.bl false)))
    tNext)
    (tSeq (tAsg (tLc (iList K (tOp (rIxT K) (tVar 3) (tC (.int 1)))) (gName 4) (tTest (tOp (rIn K false) (tVar 4) (tVar 1))) (tVar 4) [4]) (gName 5))
    (tIfS (tOr (tTest (tOp (rEqD K) (tVar 5) (tLst tNil))) (tAnd (tTest (tOp rEq (tOp (rIxT K) (tVar 3) (tC (.int 0))) (tC (.str "any")))) (tTest (tOp qLt (tCB (qLen K) (tCons (tVar 5) tNil)) (tCB (qLen K) (tCons (tOp (rIxT K) (tVar 3) (tC (.int 1))) tNil))))))
    (tRet (tC (.bl false)))
    tNext)))))
    (tRet (tC (.bl true))))))
theorem rd_shows {K : PySem.W.Frag} {A : Ad} {a b : V} {H : Hp} {Q : VK} {E : XK} (h : pr_shows K A a b H Q E) : t_shows K A { nx := fun _ H' => Q .non H', rt := Q } [some a, some b, none, none, none, none] H := by
  obtain ⟨ws, hs, hd, ok, hb, hr, hsz, q⟩ := h
  have hd0 := hd
  obtain ⟨p, xs, rfl, hp, hx, hl⟩ := Td.inv_ws hd0
  obtain ⟨l, rfl, hl2⟩ := Td.inv_ints hb
  have Z : Zs H H H H [] := Zs.start (Same.refl _)
  unfold t_shows
  walk_at "rd"
  refine ⟨ws, hd, ok, fun H1 s1 => ?_⟩
  replace Z := Z.ext s1
  walk_at "rd"
  refine r_lstI (xs := hs.map V.int) (SqL.of (Z.fh _ _ hl2)) (fun i σ' H' => ∃ x2, σ' = [some (.ref p), some (.ref l), x2, none, none, none] ∧ Zs H H H H' []) ⟨none, rfl, Z⟩ (fun i σ' H' _ ⟨_, _, Z'⟩ => SqL.of (Z'.fh _ _ hl2)) ?_ ?_
  · rintro i x σ' H' hi ⟨x2, rfl, Z'⟩
    obtain ⟨n, hn, rfl⟩ := of_get_ints hi
    have hn2 := hr n (List.mem_of_getElem? hn)
    walk_at "rd"
    refine r_lenL (SqL.of (Z'.fh _ _ hp)) ?_
    walk_at "rd"
    refine ⟨_, n, rfl, rfl, hn2.1, by omega, ?_⟩
    exact ⟨_, rfl, Z'⟩
  · rintro σ' H' ⟨x2, rfl, Z'⟩
    walk_at "rd"
    refine r_lstI (xs := hs.map V.int) (SqL.of (Z'.fh _ _ hl2)) (fun i σ' H' => ∃ x2 x3 x4 x5, σ' = [some (.ref p), some (.ref l), x2, x3, x4, x5] ∧ Zs H H H H' [] ∧ (hs.take i).all (showsAt ws hs) = true)
      ⟨x2, none, none, none, rfl, Z', rfl⟩ (fun i σ' H' _ ⟨_, _, _, _, _, Z', _⟩ => SqL.of (Z'.fh _ _ hl2)) ?_ ?_
    · rintro i x σ' H' hi ⟨x2, x3, x4, x5, rfl, Z', ha⟩
      obtain ⟨n, hn, rfl⟩ := of_get_ints hi
      have hn2 := hr n (List.mem_of_getElem? hn)
      have hnl : n.toNat < ws.length := by omega
      have no : showsAt ws hs n = false → ∀ H', Same H H' → Q (.bl false) H' := fun e H' s => by
        have : showsB ws hs = false := by
          unfold showsB
          rw [List.all_eq_false]
          exact ⟨n, List.mem_of_getElem? hn, by rw [e]; decide⟩
        rw [← this]
        exact q H' s
      have wsn : ws[n.toNat]? = some ws[n.toNat] := List.getElem?_eq_getElem hnl
      obtain ⟨y, hy, hyw⟩ := TdA.ws_get hx wsn
      walk_at "rd"
      refine r_ixL (SqL.of (Z'.fh _ _ hp)) (at_i hn2.1 hy) ?_
      walk_at "rd"
      refine ifd (fun h => ?_) (fun h => ?_)
      · walk_at "rd"
        subst h
        refine no ?_ _ Z'.hh
        unfold showsAt
        rw [wsn, Td.w_non hyw]
      obtain ⟨bw, os, ew⟩ : ∃ b os, ws[n.toNat] = some (b, os) := by
        cases e : ws[n.toNat] with
        | none => rw [e] at hyw; exact absurd (Td.inv_non hyw) h
        | some z => exact ⟨z.1, z.2, rfl⟩
      rw [ew] at hyw wsn
      have okw := ok.all _ (List.mem_of_getElem? wsn)
      obtain ⟨t, o, rfl, ht, ho⟩ := Td.inv_w hyw
      have osz : os.length ≤ 100000 := by
        have : os.length ≤ ws.length := nodup_bound okw.2.1 (fun o ho => okw.2.2 o ho)
        have := ok.most
        omega
      walk_at "rd"
      refine r_ixT (SqT.of (Z'.fh _ _ ht)) (at_i (by decide) rfl) ?_
      refine lc_lst (xs := os.map V.int) (SqL.of (Z'.fh _ _ ho)) Z' (fun i acc F' => acc = ((os.take i).filter fun o => decide (o ∈ hs)).map V.int) rfl (fun F' H' Z'' s => SqL.of (Z''.fh _ _ (s _ _ ho))) ?_ ?_
      · intro j x Dl F' H'' acc hj Z'' s hacc e
        subst e
        obtain ⟨c, hc, rfl⟩ := of_get_ints hj
        dsimp only [wipe]
        walk_at "rd"
        refine ⟨rfl, ?_⟩
        walk_at "rd"
        refine r_inL (SqL.of (Z''.fh _ _ (s _ _ hl2))) rfl (flat_ints _) ?_
        rw [if_neg (by decide), inV_int]
        walk_at "rd"
        refine ifd (fun h2 => ?_) (fun h2 => ?_)
        · walk_at "rd"
          have hjl : j < os.length := (List.getElem?_eq_some_iff.mp hc).1
          refine cy Z'' s hacc (by omega) ?_
          rw [take_snoc hc, List.filter_append, List.filter_cons, if_pos (decide_eq_true h2), List.map_append] <;> rfl
        · refine cn Z'' s hacc ?_
          rw [take_snoc hc, List.filter_append, List.filter_cons, if_neg (by rw [decide_eq_false h2]; decide), List.filter_nil, List.append_nil]
      · intro Dl F' H'' acc Z'' s e
        rw [List.length_map, List.take_length] at e
        subst e
        have Zn := Z''.ff
        walk_at "rd"
        refine r_mk sz0 Z'' (fun p3 H3 Z3 => ?_)
        refine r_eqD (Td.ints_lst (Z3.get (i := 1) rfl)) (.lst (Z3.get (i := 0) rfl) .nil) (shaped_ints _) rfl ?_
        rw [eqv_nil]
        replace Z3 := Z3.drop
        walk_at "rd"
        have hs' : showsAt ws hs n = (!(os.filter fun o => decide (o ∈ hs)).isEmpty && (!bw || decide ((os.filter fun o => decide (o ∈ hs)).length = os.length))) := by
          unfold showsAt
          rw [wsn]
        have em : ((os.filter fun o => decide (o ∈ hs)).map PyData.int).isEmpty = (os.filter fun o => decide (o ∈ hs)).isEmpty := by
          cases (os.filter fun o => decide (o ∈ hs)) <;> rfl
        rw [em]
        refine ifb (fun h3 => ?_) (fun h3 => ?_)
        · walk_at "rd"
          refine no ?_ _ Z3.hh
          rw [hs', h3] <;> rfl
        have goOn : showsAt ws hs n = true → ∃ y2 y3 y4 y5, [some (V.ref p), some (V.ref l), some (V.int n), some (V.ref t), x4, some (V.ref Dl)] = [some (V.ref p), some (V.ref l), y2, y3, y4, y5] ∧ Zs H H H H3 [] ∧ (hs.take (i + 1)).all (showsAt ws hs) = true := fun e => by
          refine ⟨_, _, _, _, rfl, Z3.back (Same.refl _), ?_⟩
          rw [take_snoc hn, List.all_append, ha, List.all_cons, e] <;> rfl
        walk_at "rd"
        refine r_ixT (SqT.of (Z3.fh _ _ (s _ _ ht))) (at_i (by decide) rfl) ?_
        walk_at "rd"
        rw [wd_any]
        refine ifb (fun h4 => ?_) (fun h4 => ?_)
        · walk_at "rd"
          refine r_lenL (SqL.of (Z3.get (i := 0) rfl)) ?_
          walk_at "rd"
          refine r_ixT (SqT.of (Z3.fh _ _ (s _ _ ht))) (at_i (by decide) rfl) ?_
          walk_at "rd"
          refine r_lenL (SqL.of (Z3.fh _ _ (s _ _ ho))) ?_
          rw [List.length_map, List.length_map]
          have le : (os.filter fun o => decide (o ∈ hs)).length ≤ os.length := List.length_filter_le _ _
          walk_at "rd"
          refine ifd (fun h5 => ?_) (fun h5 => ?_)
          · walk_at "rd"
            refine no ?_ _ Z3.hh
            rw [hs', h4, decide_eq_false (by omega)]
            simp
          · walk_at "rd"
            refine goOn ?_
            rw [hs', h3, decide_eq_true (by omega)]
            simp
        · refine ifF rfl ?_
          walk_at "rd"
          refine goOn ?_
          rw [hs', h3, h4] <;> rfl
    · rintro σ' H' ⟨x2, x3, x4, x5, rfl, Z', ha⟩
      rw [List.length_map, List.take_length] at ha
      walk_at "rd"
      have : showsB ws hs = true := ha
      rw [← this]
      exact q _ Z'.hh
end SB
/-! list(reversed(a list)): a rule of our own over the library's walk of a reversed list. -/
namespace SB
open PySem PySem.Spec PyProof.Rows L2
section
variable {prog : Program} {w : World} {A : Around} {E : Value → Shared → Prop} {s : Shared}
theorem init_rev {R : Result → Shared → Prop} {it l : Addr} {items : Array Value} (hh : A.handled = none) (hit : s.heap.IsRevIter it l ((items.size : Int) - 1)) (hl : s.heap.IsList l items) (hne : l ≠ it) (hn : items.size ≤ sizeLine)
    (S : Addr) (hS : s.heap.get? S = some { cls := .type "list", data := .seq #[] }) (hSi : S ≠ it) (hSl : S ≠ l)
    (hR : ∀ (h' : Heap) (tk : Nat) (acc : Array Value) (c : Nat), (∀ b o, b ≠ it → b ≠ S → s.heap.get? b = some o → h'.get? b = some o) → h'.get? S = some { cls := .type "list", dict := none, data := .seq acc c, slots := #[] } →
      ItemsOf (fun i v => items[items.size - 1 - i]? = some v) acc items.size → R (.ok (.ret .none)) { s with heap := h', toks := tk }) :
    wpAny (model prog w) A.in1 (Builtin.«list.__init__» ⟨[.ref S, .ref it], []⟩)
      (fun fin s' => match fin with | .done f => R (.ok f) s' | .again c' => c'.quiet = true ∧ codeAny (model prog w) A c' R s') (fun e s' => R (.error e) s') s := by
  show wpAny _ _ (do let old ← Builtin.List.listItems (.ref S); Builtin.List.listUpdate (.ref S) (fun _ => #[]); letGo old.toList.reverse; Builtin.List.listExtendWith (.ref S) (.ref it) .none) _ _ s
  refine wpAny_bind ?_
  unfold Builtin.List.listItems
  refine wpAny_bind (wpAny_seqItems hS rfl (wpAny_pure ?_))
  show wpAny _ _ (updateSeq S (fun _ => #[]) >>= fun _ => letGo (#[] : Array Value).toList.reverse >>= fun _ => Builtin.List.listExtendWith (.ref S) (.ref it) .none) _ _ s
  refine wpAny_bind (wpAny_updateSeq hS rfl ?_)
  have hS₂ := Heap.get?_update_self (Obj.mapSeq (fun _ => (#[] : Array Value))) hS rfl
  have oth : ∀ b o, b ≠ S → s.heap.get? b = some o → (s.heap.update S (Obj.mapSeq (fun _ => (#[] : Array Value)))).get? b = some o :=
    fun b o hb e => (Heap.get?_update_other _ _ (Ne.symm hb)).trans e
  refine wpAny_bind (wpAny_letGo ?_)
  have W := (Walks.listRev (prog := prog) (w := w) (A := A.in1) hh it l hne items).toS
  have hSf : S ∉ [it, l] := by simp only [List.mem_cons, List.not_mem_nil, or_false, not_or]; exact ⟨hSi, hSl⟩
  have hit1 : (s.heap.update S (Obj.mapSeq (fun _ => (#[] : Array Value)))).IsRevIter it l ((items.size : Int) - 1) := hit.at fun o e => oth it o (Ne.symm hSi) e
  have hl1 : (s.heap.update S (Obj.mapSeq (fun _ => (#[] : Array Value)))).IsList l items := hl.at fun o e => oth l o (Ne.symm hSl) e
  have hT : ({ s with heap := s.heap.update S (Obj.mapSeq (fun _ => (#[] : Array Value))) } : Shared).TypeIs (.ref it) "list_reverseiterator" := Heap.IsRevIter.typeIs (s := { s with heap := s.heap.update S (Obj.mapSeq (fun _ => (#[] : Array Value))) }) hit1
  have h1 : Builtin.List.listSameRef (.ref S) (.ref it) = false := by simp [Builtin.List.listSameRef, hSi]
  unfold Builtin.List.listExtendWith
  refine wpAny_bind (wpAny_typeOf hT ?_)
  rw [if_neg (by rw [h1]; decide)]
  refine wpAny_bind (wpAny_pyIter_revIter (s := { s with heap := s.heap.update S (Obj.mapSeq (fun _ => (#[] : Array Value))) }) hit1 ?_)
  refine wpAny_bind (wpAny_holding ?_)
  unfold Builtin.List.listLengthHint
  refine wpAny_bind (wpAny_specialOf hT RT.nolen_lri ?_)
  show wpAny _ A.in1 (specialOf (Value.ref it) (Str.ofString "__length_hint__") >>= _) _ _ _
  refine wpAny_bind (wpAny_specialOf hT RT.hint_lri ?_)
  generalize hid : ("list_reverseiterator.__length_hint__" : String) = id0
  wp_delta
  rw [show splitId id0 = some ("list_reverseiterator", "__length_hint__") from by subst hid; decide +kernel]
  subst hid
  refine wpAny_bind (wpAny_isInstance (b := true) hT (by rw [isSubtype_type]; kernel_rfl) ?_)
  refine wpAny_pure ?_
  rw [if_neg (by decide)]
  have e0 : ((items.size : Nat) : Int) - 1 - ((0 : Nat) : Int) = (items.size : Int) - 1 := by omega
  refine wpAny_pure ⟨plainId_quiet F.plain_extend_loop _, codeAny_extend_loopS W hn S hSf _ items.size 0 _ _ _ rfl (Nat.zero_le _) ⟨Nat.zero_le _, by rw [e0]; exact hit1, hl1⟩ hS₂ (ItemsOf.nil _) fun s' acc' c' hm hS' hacc => ?_⟩
  rw [Moved.eq_with hm]
  refine hR s'.heap s'.toks acc' c' (fun b o hb hb2 e => hm.heap b o (fun hmem => ?_) (oth b o hb2 e)) hS' hacc
  rcases List.mem_cons.mp hmem with e' | hmem
  · exact hb2 e'
  · exact hb (List.mem_singleton.mp hmem)
theorem call_list_rev {it l : Addr} {items : Array Value} {Q : Value → Shared → Prop} (hh : A.handled = none) (hit : s.heap.IsRevIter it l ((items.size : Int) - 1)) (hl : s.heap.IsList l items) (hne : l ≠ it) (hn : items.size ≤ sizeLine)
    (hQ : ∀ (h' : Heap) (tk : Nat) (acc : Array Value) (c : Nat), (∀ b o, b ≠ it → s.heap.get? b = some o → h'.get? b = some o) → h'.get? s.heap.objs.size = some { cls := .type "list", dict := none, data := .seq acc c, slots := #[] } →
      ItemsOf (fun i v => items[items.size - 1 - i]? = some v) acc items.size → Q (.ref s.heap.objs.size) { s with heap := h', toks := tk }) :
    wpAny (model prog w) A (call (.type "list") [.ref it]) Q E s := by
  obtain ⟨oi, hoi, _⟩ := id hit
  obtain ⟨ol, hol, _⟩ := id hl
  have hSi : s.heap.objs.size ≠ it := Nat.ne_of_gt (Heap.lt_size hoi)
  have hSl : s.heap.objs.size ≠ l := Nat.ne_of_gt (Heap.lt_size hol)
  refine callType_codes (Q₁ := fun obj s₁ => obj = .ref s.heap.objs.size ∧ s₁ = { s with heap := s.heap.push { cls := .type "list", data := .seq #[] } }) F.called_list (F.typeCall_list_1 _) F.entry_list_init
    (code_list_new _ ⟨rfl, rfl⟩) fun obj s₁ h₁ => ?_
  obtain ⟨rfl, rfl⟩ := h₁
  have hS : (s.heap.push { cls := .type "list", data := .seq #[] }).get? s.heap.objs.size = some { cls := .type "list", data := .seq #[] } := Heap.get?_push_size _ rfl
  refine ⟨⟨_, hS, rfl⟩, F.args_list_init_2 _ _, init_rev (A := A.in1) (s := { s with heap := s.heap.push { cls := .type "list", data := .seq #[] } }) hh (hit.at fun o e => Heap.get?_push_of_some _ e) (hl.push _) hne hn _ hS hSi hSl fun h' tk acc c' hk hS' hacc => ?_⟩
  exact ⟨rfl, hQ h' tk acc c' (fun b o hb e => hk b o hb (Nat.ne_of_lt (Heap.lt_size e)) (Heap.get?_push_of_some _ e)) hS' hacc⟩
end
/-- list(reversed(e)) -/
def tListRev (K : PySem.W.Frag) (te : TE) : TE := fun σ H Q => te σ H fun x H1 => ∃ a xs, x = .ref a ∧ SqL K H1 a xs ∧ NewO (.lst xs.reverse) H1 Q
section
variable {X : Cx}
theorem pe_listRevq {e : Expr} {te : TE} {p p2 pos pos2 : Pos} (hc : X.calm = true) (hg : Gl X "list") (hm : X.mg "list" = none) (hg2 : Gl X "reversed") (hm2 : X.mg "reversed" = none) (he : PE X e te)
    (hs : starEach [e] X.env = (false, eval e X.env) :: starEach [] X.env := by rfl)
    (hs2 : starEach [.Call (.Name "reversed" p2) [e] [] pos2] X.env = (false, eval (.Call (.Name "reversed" p2) [e] [] pos2) X.env) :: starEach [] X.env := by rfl) :
    PE X (.Call (.Name "list" p) [.Call (.Name "reversed" p2) [e] [] pos2] [] pos) (tListRev X.K te) := by
  refine ⟨fun pins s σ H Q I h => ?_⟩
  refine Call_ (ld_blt I hg hm boot_list (PyProof.Rows.callWith_type1 (args_cons (Call_ (ld_blt I hg2 hm2 PyProof.Rows.boot_reversed (PyProof.Rows.callWith_type1 (args_cons (thn (he.run pins s σ H _ I h) fun u s1 ⟨v, H1, I1, r1, q1⟩ => args_nil ?_) hs) hs rfl))) hs2) hs2 rfl))
  obtain ⟨a, xs, ev, hq, q⟩ := q1
  subst ev
  obtain rfl : u = Value.ref a := r1
  obtain ⟨its, rv, p', hz⟩ := I1.list hq
  refine call_reversed_list p'.isList (args_nil ?_)
  have k0 : ∀ b o, s1.heap.get? b = some o → (s1.heap.push (revObj a ((its.toArray.size : Int) - 1))).get? b = some o := fun b o e => Heap.get?_push_of_some _ e
  have I2 : Inv X pins σ H1 { s1 with heap := s1.heap.push (revObj a ((its.toArray.size : Int) - 1)) } := I1.kept (t' := s1.toks) k0
  obtain ⟨f0, f1, f2, f3, f4, f5⟩ := I1.fpOk (H' := H1) (b := s1.heap.objs.size) (Nat.le_refl _) (I1.hok.fresh (Nat.le_refl _))
  have hl := p'.isList
  obtain ⟨ol, hol, _⟩ := id hl
  have hne : a ≠ s1.heap.objs.size := Nat.ne_of_lt (Heap.lt_size hol)
  have hn : its.toArray.size ≤ sizeLine := by rw [List.size_toArray, ← rv.length]; exact hz
  refine call_list_rev (s := { s1 with heap := s1.heap.push (revObj a ((its.toArray.size : Int) - 1)) }) (I1.ok.hd hc) ⟨_, Heap.get?_push_size _ rfl, rfl, rfl⟩ (hl.push _) hne hn fun h' tk acc c hk hS hi => ?_
  have hsz : (s1.heap.push (revObj a ((its.toArray.size : Int) - 1))).objs.size = s1.heap.objs.size + 1 := Heap.size_push _ _
  have hle : s1.heap.objs.size ≤ (s1.heap.push (revObj a ((its.toArray.size : Int) - 1))).objs.size := by rw [hsz]; exact Nat.le_succ _
  have I3 : Inv X pins σ (upd H1 (s1.heap.push (revObj a ((its.toArray.size : Int) - 1))).objs.size (.lst xs.reverse)) { s1 with heap := h', toks := tk } :=
    I1.laid (t' := tk) (fun b o e => hk b o (Nat.ne_of_lt (Heap.lt_size e)) (k0 b o e)) hle
      (show ObjOk X.prog X.w _ _ _ (.lst xs.reverse) from ⟨by rw [List.length_reverse]; exact hz, acc.toList, c, RT.vals_rev rv hi, by rw [Array.toArray_toList]; exact hS⟩)
  exact ⟨.ref (s1.heap.push (revObj a ((its.toArray.size : Int) - 1))).objs.size, _, I3, rfl, q _ (I1.hok.fresh hle)⟩
end
section
variable {K : PySem.W.Frag} {σ : L2.St} {F0 H0 F H : Hp} {L : List (Addr × HO)} {Q : VK} {te : TE} {a : Addr} {xs : List V}
theorem r_listRev0 (h : te σ H fun x H1 => ∃ a xs, x = .ref a ∧ SqL K H1 a xs ∧ NewO (.lst xs.reverse) H1 Q) : tListRev K te σ H Q := h
theorem r_listRev (h : SqL K H a xs) (Z : Zs F0 H0 F H L) (k : ∀ p H', Zs F0 H0 F H' ((p, .lst xs.reverse) :: L) → Q (.ref p) H') : ∃ b ys, V.ref a = .ref b ∧ SqL K H b ys ∧ NewO (.lst ys.reverse) H Q := ⟨a, xs, rfl, h, fun p hp => k p _ (Z.alloc hp)⟩
end
end SB
namespace SB
open PySem L2
/-! ### holds -/
def thereAt (bs : List Bool) (o : Int) : Bool := bs.getD o.toNat false
def insideOf (os : List Int) (bs : List Bool) : Nat := (os.filter (thereAt bs)).length
def holdsB (w : Wt) (bs : List Bool) : Bool := match w with
  | none => false
  | some (b, os) => if b then decide (insideOf os bs = os.length) else decide (0 < insideOf os bs)
def pr_holds (K : PySem.W.Frag) (A : Ad) : V → V → Hp → VK → XK → Prop := fun a b H Q _ => ∃ w bs, Td H a (dW w) ∧ okW bs.length w ∧ Td H b (.list (bs.map PyData.bool)) ∧ Q (.bl (holdsB w bs)) H
abbrev sp_holds (K : PySem.W.Frag) (A : Ad) : Sp := sp2 (pr_holds K A)
def t_holds (K : PySem.W.Frag) (A : Ad) : TS :=
    (tSeq (tIfS (tTest (tOp qIsN (tVar 0) (tC .non)))
    (tRet (tC (.bl false)))
    tNext)
    (tSeq (tAsg (tC (.int 0)) (gName 2))
    (tSeq (tFor (iList K (tOp (rIxT K) (tVar 0) (tC (.int 1)))) (gName 3)
    (tIfS (tB (tOp (rIxL K) (tVar 1) (tVar 3)))
    (tAsg (tOp qAdd (tVar 2) (tC (.int 1))) (gName 2))
    tNext))
    (tSeq (tIfS (tTest (tOp rEq (tOp (rIxT K) (tVar 0) (tC (.int 0))) (tC (.str "any"))))
    (tRet (tOp rEq (tVar 2) (tCB (qLen K) (tCons (tOp (rIxT K) (tVar 0) (tC (.int 1))) tNil))))
    tNext)
    (tRet (tOp qGt (tVar 2) (tC (.int 0))))))))
theorem rd_holds {K : PySem.W.Frag} {A : Ad} {a b : V} {H : Hp} {Q : VK} {E : XK} (h : pr_holds K A a b H Q E) : t_holds K A { nx := fun _ H' => Q .non H', rt := Q } [some a, some b, none, none] H := by
  obtain ⟨w, bs, hw, ok, hb, q⟩ := h
  obtain ⟨l, rfl, hl⟩ := Td.inv_bools hb
  unfold t_holds
  walk_at "rd"
  refine ifd (fun h => ?_) (fun h => ?_)
  · subst h
    have := Td.w_non hw
    subst this
    walk_at "rd"
    exact q
  obtain ⟨bw, os, rfl⟩ : ∃ b os, w = some (b, os) := by
    cases w with
    | none => exact absurd (Td.inv_non hw) h
    | some z => exact ⟨z.1, z.2, rfl⟩
  obtain ⟨t, o, rfl, ht, ho⟩ := Td.inv_w hw
  walk_at "rd"
  refine r_ixT (SqT.of ht) (at_i (by decide) rfl) ?_
  refine r_lstI (xs := os.map V.int) (SqL.of ho) (fun i σ' H' => ∃ x3, σ' = [some (.ref t), some (.ref l), some (.int ((insideOf (os.take i) bs : Nat) : Int)), x3] ∧ H' = H) ⟨none, rfl, rfl⟩ (fun i σ' H' _ ⟨_, _, e⟩ => by subst e; exact SqL.of ho) ?_ ?_
  · rintro i x σ' H' hi ⟨x3, rfl, rfl⟩
    obtain ⟨n, hn, rfl⟩ := of_get_ints hi
    have hn2 := ok.2.2 n (List.mem_of_getElem? hn)
    have e : insideOf (os.take (i + 1)) bs = insideOf (os.take i) bs + (if thereAt bs n then 1 else 0) := by
      unfold insideOf
      rw [take_snoc hn, List.filter_append, List.length_append, List.filter_cons]
      cases thereAt bs n <;> rfl
    walk_at "rd"
    refine r_ixL (SqL.of hl) (at_i hn2.1 (get_boolD (by omega))) ?_
    walk_at "rd"
    refine ifb (fun h2 => ?_) (fun h2 => ?_)
    · walk_at "rd"
      refine ⟨some (.int n), ?_, rfl⟩
      rw [e, if_pos (show thereAt bs n = true from h2)] <;> rfl
    · walk_at "rd"
      refine ⟨some (.int n), ?_, rfl⟩
      rw [e, if_neg (show ¬ thereAt bs n = true by show ¬ bs.getD n.toNat false = true; rw [h2]; decide)] <;> rfl
  · rintro σ' H' ⟨x3, rfl, rfl⟩
    rw [List.length_map, List.take_length]
    walk_at "rd"
    refine r_ixT (SqT.of ht) (at_i (by decide) rfl) ?_
    walk_at "rd"
    rw [wd_any]
    refine ifb (fun h2 => ?_) (fun h2 => ?_)
    · walk_at "rd"
      refine r_ixT (SqT.of ht) (at_i (by decide) rfl) ?_
      walk_at "rd"
      refine r_lenL (SqL.of ho) ?_
      walk_at "rd"
      rw [List.length_map]
      have e : holdsB (some (bw, os)) bs = decide (((insideOf os bs : Nat) : Int) = (os.length : Int)) := by
        show (if bw = true then decide (insideOf os bs = os.length) else _) = _
        rw [if_pos h2]
        by_cases h3 : insideOf os bs = os.length
        · rw [decide_eq_true h3, decide_eq_true (by rw [h3])]
        · rw [decide_eq_false h3, decide_eq_false (by omega)]
      rw [← e]
      exact q
    · walk_at "rd"
      have e : holdsB (some (bw, os)) bs = decide ((0 : Int) < ((insideOf os bs : Nat) : Int)) := by
        show (if bw = true then _ else decide (0 < insideOf os bs)) = _
        rw [if_neg (by rw [h2]; decide)]
        by_cases h3 : 0 < insideOf os bs
        · rw [decide_eq_true h3, decide_eq_true (by omega)]
        · rw [decide_eq_false h3, decide_eq_false (by omega)]
      rw [← e]
      exact q

/-! ### left -/
def stepAt (ws : List Wt) (bs : List Bool) (i : Nat) : Bool := bs.getD i false && holdsB (ws.getD i none) bs
def leftAt (ws : List Wt) : Nat → List Bool
  | 0 => List.replicate ws.length true
  | k + 1 => (List.range ws.length).map (stepAt ws (leftAt ws k))
theorem left_len (ws : List Wt) : ∀ k, (leftAt ws k).length = ws.length
  | 0 => List.length_replicate
  | k + 1 => by unfold leftAt; rw [List.length_map, List.length_range]
def pr_left (K : PySem.W.Frag) (A : Ad) : V → Hp → VK → XK → Prop := fun a H Q _ => ∃ ws, Td H a (dWs ws) ∧ OkWs ws ∧ RetL H Q ((leftAt ws ws.length).map V.bl)
abbrev sp_left (K : PySem.W.Frag) (A : Ad) : Sp := sp1 (pr_left K A)
def t_left (K : PySem.W.Frag) (A : Ad) : TS :=
    (tSeq (tAsg (tOp rRep (tLst (tCons (tC (.bl true)) tNil)) (tCB (qLen K) (tCons (tVar 0) tNil))) (gName 1))
    (tSeq (tFor (iRng1 (tCons (tCB (qLen K) (tCons (tVar 0) tNil)) tNil)) (gName 2)
    (tSeq (tAsg (tLc (iRng1 (tCons (tCB (qLen K) (tCons (tVar 0) tNil)) tNil)) (gName 3) tYes (tAndV (tOp (rIxL K) (tVar 1) (tVar 3)) (tCall (sp_holds K A) [] E0 (tCons (tOp (rIxL K) (tVar 0) (tVar 3)) (tCons (tVar 1) tNil)))) [3]) (gName 4))
    (tAsg (tLc (iList K (tVar 4)) (gName 5) tYes (tVar 5) [5]) (gName 1))))
    (tRet (tVar 1))))
theorem rd_left {K : PySem.W.Frag} {A : Ad} {a : V} {H : Hp} {Q : VK} {E : XK} (h : pr_left K A a H Q E) : t_left K A { nx := fun _ H' => Q .non H', rt := Q } [some a, none, none, none, none, none] H := by
  obtain ⟨ws, hd, ok, q⟩ := h
  have hd0 := hd
  obtain ⟨p, xs, rfl, hp, hx, hl⟩ := Td.inv_ws hd0
  have o1 := ok.pos
  have o2 := ok.most
  have Z : Zs H H H H [] := Zs.start (Same.refl _)
  unfold t_left
  walk_at "rd"
  refine r_mk sz1 Z (fun p1 H1 Z1 => ?_)
  walk_at "rd"
  refine r_lenL (SqL.of (Z1.fh _ _ hp)) ?_
  refine r_rep Z1 (Z1.get (i := 0) rfl) (by omega) (by omega) (by rw [List.length_singleton]; omega) (fun p2 H2 Z2 => ?_)
  replace Z2 := Z2.dropAt 1
  rw [Int.toNat_natCast, rep_flat, hl] at Z2
  walk_at "rd"
  refine r_lenL (SqL.of (Z2.fh _ _ hp)) ?_
  rw [hl]
  walk_at "rd"
  refine r_rng1 (by omega) (fun i σ' H' => ∃ l x2 x3 x4 x5, σ' = [some (.ref p), some (.ref l), x2, x3, x4, x5] ∧ Zs H H H H' [(l, .lst ((leftAt ws i).map V.bl))])
    ⟨p2, none, none, none, none, rfl, by show Zs H H H H2 [(p2, .lst ((List.replicate ws.length true).map V.bl))]; rw [List.map_replicate]; exact Z2⟩ ?_ ?_
  · rintro i σ' H' hi ⟨l, x2, x3, x4, x5, rfl, Z'⟩
    dsimp only [List.set_cons_succ, List.set_cons_zero]
    walk_at "rd"
    refine r_lenL (SqL.of (Z'.fh _ _ hp)) ?_
    rw [hl]
    walk_at "rd"
    have hll := left_len ws i
    refine lc_rng (by omega) Z' (fun j acc F' => acc = ((List.range j).map (stepAt ws (leftAt ws i))).map V.bl) (fun _ => rfl) rfl ?_ ?_
    · intro j Dl F' H3 acc hj Z3 s hacc e
      subst e
      dsimp only [wipe]
      walk_at "rd"
      refine ifT rfl ?_
      walk_at "rd"
      have hjn : j < ws.length := by omega
      refine r_ixL (SqL.of (Z3.get (i := 1) rfl)) (at_i (by omega) (get_boolD (by rw [Int.toNat_natCast]; omega))) ?_
      rw [Int.toNat_natCast]
      have fin : ∀ b H4, b = stepAt ws (leftAt ws i) j → Same H3 H4 → CY H H H [(l, .lst ((leftAt ws i).map V.bl))] (fun j acc F' => acc = ((List.range j).map (stepAt ws (leftAt ws i))).map V.bl) Dl j (.bl b) H4 := fun b H4 e s4 => by
        subst e
        refine cy (Z3.ext s4) s hacc (by omega) ?_
        rw [List.range_succ, List.map_append, List.map_append] <;> rfl
      walk_at "rd"
      refine ifb (fun h2 => ?_) (fun h2 => ?_)
      · have wsj : ws[j]? = some ws[j] := List.getElem?_eq_getElem hjn
        obtain ⟨y, hy, hyw⟩ := TdA.ws_get hx wsj
        walk_at "rd"
        refine r_ixL (SqL.of (Z3.fh _ _ (s _ _ hp))) (at_i (by omega) (by rw [Int.toNat_natCast]; exact hy)) ?_
        walk_at "rd"
        refine ⟨ws[j], leftAt ws i, hyw.up (s.trans Z3.fh), by rw [hll]; exact ok.all _ (List.mem_of_getElem? wsj), Td.bools_lst (Z3.get (i := 1) rfl), ?_⟩
        refine fin _ _ ?_ (Same.refl _)
        unfold stepAt
        rw [h2, Bool.true_and, List.getD_eq_getElem?_getD, wsj] <;> rfl
      · refine fin _ _ ?_ (Same.refl _)
        unfold stepAt
        rw [h2, Bool.false_and]
    · intro Dl F' H3 acc Z3 s e
      subst e
      rw [Int.toNat_natCast] at Z3
      walk_at "rd"
      refine lc_lst (xs := ((List.range ws.length).map (stepAt ws (leftAt ws i))).map V.bl) (SqL.of (Z3.get (i := 0) rfl)) Z3 (fun j acc F' => acc = (((List.range ws.length).map (stepAt ws (leftAt ws i))).map V.bl).take j) rfl (fun F4 H4 Z4 s4 => SqL.of (Z4.get (i := 0) rfl)) ?_ ?_
      · intro j x Dl2 F4 H4 acc hj Z4 s4 hacc e
        subst e
        dsimp only [wipe]
        walk_at "rd"
        refine ⟨rfl, ?_⟩
        walk_at "rd"
        refine ifT rfl ?_
        walk_at "rd"
        have hjl := (List.getElem?_eq_some_iff.mp hj).1
        rw [List.length_map, List.length_map, List.length_range] at hjl
        refine cy Z4 s4 hacc (by omega) ?_
        rw [take_snoc hj]
      · intro Dl2 F4 H4 acc Z4 s4 e
        rw [List.take_length] at e
        subst e
        walk_at "rd"
        refine ⟨Dl2, _, _, _, _, rfl, ?_⟩
        have Z5 := ((Z4.dropAt 1).dropAt 1).up (Same.refl _)
        exact Z5
  · rintro σ' H' ⟨l, x2, x3, x4, x5, rfl, Z'⟩
    walk_at "rd"
    rw [Int.toNat_natCast] at Z'
    exact q _ _ Z'
end SB
namespace SB
open PySem L2
/-! ### the two looks agree -/
def dueAt (ws : List Wt) (bs : List Bool) (i : Nat) : Bool := !(bs.getD i false && !holdsB (ws.getD i none) bs)
theorem shows_eq {ws : List Wt} {bs : List Bool} {hs : List Int} (ok : OkWs ws) (hb : bs.length = ws.length) (hh : ∀ h : Int, h ∈ hs ↔ 0 ≤ h ∧ h < (ws.length : Int) ∧ bs.getD h.toNat false = true) :
    showsB ws hs = (List.range ws.length).all (dueAt ws bs) := by
  have one : ∀ h : Int, 0 ≤ h → h < (ws.length : Int) → showsAt ws hs h = holdsB (ws.getD h.toNat none) bs := fun h h0 h1 => by
    have hl : h.toNat < ws.length := by omega
    have e : ws[h.toNat]? = some ws[h.toNat] := List.getElem?_eq_getElem hl
    unfold showsAt holdsB
    rw [e, List.getD_eq_getElem?_getD, e]
    have okw := ok.all _ (List.mem_of_getElem? e)
    show (match some ws[h.toNat] with | some (some (b, os)) => _ | _ => false) = (match ws[h.toNat] with | none => false | some (b, os) => _)
    cases q : ws[h.toNat] with
    | none => rfl
    | some z =>
      obtain ⟨b, os⟩ := z
      rw [q] at okw
      have ef : os.filter (fun o => decide (o ∈ hs)) = os.filter (thereAt bs) := by
        refine List.filter_congr fun o ho => ?_
        have := okw.2.2 o ho
        unfold thereAt
        by_cases m : o ∈ hs
        · rw [decide_eq_true m, ((hh o).mp m).2.2]
        · rw [decide_eq_false m]
          cases c : bs.getD o.toNat false with
          | false => rfl
          | true => exact absurd ((hh o).mpr ⟨this.1, this.2, c⟩) m
      show (!(os.filter fun o => decide (o ∈ hs)).isEmpty && (!b || decide ((os.filter fun o => decide (o ∈ hs)).length = os.length))) = (if b = true then decide (insideOf os bs = os.length) else decide (0 < insideOf os bs))
      rw [ef]
      unfold insideOf
      have pos : os.length ≠ 0 := fun z => okw.1 (List.eq_nil_of_length_eq_zero z)
      cases b with
      | true =>
        cases l : os.filter (thereAt bs) with
        | nil =>
          show false = decide (0 = os.length)
          rw [decide_eq_false (fun z => pos z.symm)]
        | cons x y => simp
      | false =>
        cases l : os.filter (thereAt bs) with
        | nil => rfl
        | cons x y => simp
  unfold showsB
  cases r : (List.range ws.length).all (dueAt ws bs) with
  | true =>
    rw [List.all_eq_true] at r ⊢
    intro h m
    obtain ⟨h0, h1, h2⟩ := (hh h).mp m
    rw [one h h0 h1]
    have := r h.toNat (List.mem_range.mpr (by omega))
    unfold dueAt at this
    rw [h2, Bool.true_and, Bool.not_not] at this
    exact this
  | false =>
    rw [List.all_eq_false] at r ⊢
    obtain ⟨i, m, q⟩ := r
    have hi := List.mem_range.mp m
    unfold dueAt at q
    have q' : (bs.getD i false && !holdsB (ws.getD i none) bs) = true := by simpa using q
    rw [Bool.and_eq_true] at q'
    refine ⟨(i : Int), (hh _).mpr ⟨by omega, by omega, by rw [Int.toNat_natCast]; exact q'.1⟩, ?_⟩
    rw [one _ (by omega) (by omega), Int.toNat_natCast]
    simpa using q'.2
def t_law (K : PySem.W.Frag) (A : Ad) : TS :=
    (tSeq (tAsg (tCall (sp_waits K A) [] E0 (tCons (tVar 0) tNil)) (gName 1))
    (tSeq (tAsg (tCB (qLen K) (tCons (tVar 1) tNil)) (gName 2))
    (tSeq (tAsg (tOp qMod (tCall (sp_cell_at K A) [] E0 (tCons (tVar 0) (tCons (tC (.int 1)) tNil))) (tC (.int 3))) (gName 3))
    (tSeq (tAsg (tCall (sp_left K A) [] E0 (tCons (tVar 1) tNil)) (gName 4))
    (Evl.tCut (tIfS (tTest (tOp rEq (tVar 3) (tC (.int 0))))
    (tAsg (tLc (iRng1 (tCons (tVar 2) tNil)) (gName 5) tYes (tOp qGt (tOp qMod (tCall (sp_mixed K A) [] E0 (tCons (tVar 0) (tCons (tOp qAdd (tC (.int 3)) (tOp qMod (tVar 5) (tC (.int 40)))) (tCons (tOp qAdd (tVar 5) (tC (.int 50))) tNil)))) (tC (.int 3))) (tC (.int 0))) [5]) (gName 4))
    tNext)
    (Evl.tCut (tIfS (tTest (tOp rEq (tVar 3) (tC (.int 1))))
    (tAsg (tC (.bl true)) (gSub (tVar 4) (tOp qMod (tCall (sp_cell_at K A) [] E0 (tCons (tVar 0) (tCons (tC (.int 2)) tNil))) (tVar 2)) rSetL))
    tNext)
    (tSeq (tAsg (tLc (iRng1 (tCons (tVar 2) tNil)) (gName 6) (tB (tOp (rIxL K) (tVar 4) (tVar 6))) (tVar 6) [6]) (gName 7))
    (Evl.tCut (tIfS (tTest (tOp rEq (tOp qMod (tOp qDiv (tCall (sp_cell_at K A) [] E0 (tCons (tVar 0) (tCons (tC (.int 1)) tNil))) (tC (.int 3))) (tC (.int 2))) (tC (.int 1))))
    (tAsg (tOp rCat (tListRev K (tVar 7)) (tSl (rSlL K) (tVar 7) tNoPart (tPart (tC (.int 1))))) (gName 7))
    tNext)
    (tSeq (tAsg (tC (.bl true)) (gName 8))
    (tSeq (tFor (iRng1 (tCons (tVar 2) tNil)) (gName 6)
    (tIfS (tAnd (tB (tOp (rIxL K) (tVar 4) (tVar 6))) (tNot (tB (tCall (sp_holds K A) [] E0 (tCons (tOp (rIxL K) (tVar 1) (tVar 6)) (tCons (tVar 4) tNil))))))
    (tAsg (tC (.bl false)) (gName 8))
    tNext))
    (tSeq (tAsg (tTup (tCons (tCall (sp_waits K A) [] E0 (tCons (tVar 0) tNil)) (tCons (tCB (qListOf K) (tCons (tVar 7) tNil)) tNil))) (gName 9))
    (tSeq (tAsg (tCall (sp_shows K A) [] E0 (tCons (tOp (rIxT K) (tVar 9) (tC (.int 0))) (tCons (tOp (rIxT K) (tVar 9) (tC (.int 1))) tNil))) (gName 10))
    (tRet (tAndV (tCB (rIsi K) (tCons (tVar 10) (tCons (tC (.ty "bool")) tNil))) (tAndV (tOp rEq (tVar 10) (tVar 8)) (tAndV (tOp (rEqD K) (tOp (rIxT K) (tVar 9) (tC (.int 0))) (tVar 1)) (tOp (rEqD K) (tOp (rIxT K) (tVar 9) (tC (.int 1))) (tVar 7))))))))))))))))))
/-- the hands of whom a list of truths tells, below n -/
def handsOf (bs : List Bool) (n : Nat) : List Int := ((List.range n).filter fun i => bs.getD i false).map fun (i : Nat) => (i : Int)
theorem hands_in {bs : List Bool} {n : Nat} (h : Int) : h ∈ handsOf bs n ↔ 0 ≤ h ∧ h < (n : Int) ∧ bs.getD h.toNat false = true := by
  unfold handsOf
  rw [List.mem_map]
  constructor
  · rintro ⟨i, m, rfl⟩
    rw [List.mem_filter, List.mem_range] at m
    exact ⟨by omega, by omega, by rw [Int.toNat_natCast]; exact m.2⟩
  · rintro ⟨h0, h1, h2⟩
    exact ⟨h.toNat, by rw [List.mem_filter, List.mem_range]; exact ⟨by omega, h2⟩, by omega⟩
theorem hands_len (bs : List Bool) (n : Nat) : (handsOf bs n).length ≤ n := by
  unfold handsOf
  rw [List.length_map]
  have := List.length_filter_le (fun i => bs.getD i false) (List.range n)
  rw [List.length_range] at this
  exact this
theorem hands_succ (bs : List Bool) (n : Nat) : handsOf bs (n + 1) = if bs.getD n false = true then handsOf bs n ++ [(n : Int)] else handsOf bs n := by
  unfold handsOf
  rw [List.range_succ, List.filter_append, List.map_append, List.filter_cons]
  cases bs.getD n false with
  | true => rfl
  | false => simp
theorem rd_law {K : PySem.W.Frag} {A : Ad} {a : V} {H : Hp} {Q : VK} {E : XK} (h : pr_law K a H Q E) : t_law K A { nx := fun _ H' => Q .non H', rt := Q } [some a, none, none, none, none, none, none, none, none, none, none] H := by
  obtain ⟨p, ns, rfl, hs, hn63, q⟩ := h
  have Z : Zs H H H H [] := Zs.start (Same.refl _)
  unfold t_law
  walk_at "rd"
  refine ⟨H, p, ns, Same.refl _, rfl, hs, fun F1 H1 v1 Z1 hv => ?_⟩
  have ok := waits_ok ns
  generalize ews : waitsOf ns = ws at ok
  rw [ews] at hv
  have o1 := ok.pos
  have o2 := ok.most
  have hv0 := hv
  obtain ⟨pw, xs, rfl, hp, hx, hl⟩ := Td.inv_ws hv0
  walk_at "rd"
  refine r_lenL (SqL.of (Z1.fh _ _ hp)) ?_
  rw [hl]
  walk_at "rd"
  refine ⟨p, ns, 1, rfl, rfl, Z1.hh.seq hs, by decide, ?_⟩
  walk_at "rd"
  refine ⟨ws, hv.up Z1.fh, ok, fun H2 l2 Z2 => ?_⟩
  have Z3 := Z1.callL Z2
  generalize ebs : leftAt ws ws.length = bs2 at Z3
  have hbs2 : bs2.length = ws.length := by rw [← ebs]; exact left_len ws _
  walk_at "rd"
  -- there, by the way
  refine r_cut (fun σ' H' => ∃ (l : Addr) (bs : List Bool) (x5 : Option V), σ' = [some (.ref p), some (.ref pw), some (.int (ws.length : Int)), some (.int (cellAt ns 1 % 3)), some (.ref l), x5, none, none, none, none, none] ∧ Zs H H F1 H' [(l, .lst (bs.map V.bl))] ∧ bs.length = ws.length) ?_ ?_
  · walk_at "rd"
    refine ifd (fun h => ?_) (fun h => ?_)
    · walk_at "rd"
      refine lc_rng (by omega) Z3 (fun j acc F' => ∃ bs : List Bool, acc = bs.map V.bl ∧ bs.length = j) (fun _ => rfl) ⟨[], rfl, rfl⟩ ?_ ?_
      · rintro j Dl F' H4 acc hj Z4 s hacc ⟨bs, rfl, hb⟩
        dsimp only [wipe]
        walk_at "rd"
        refine ifT rfl ?_
        walk_at "rd"
        refine ⟨p, ns, _, _, rfl, rfl, rfl, Z4.hh.seq hs, by omega, ?_⟩
        walk_at "rd"
        refine cy Z4 s hacc (by omega) ⟨bs ++ [decide (0 < mixBy ns (3 + (j : Int) % 40) ((j : Int) + 50) % 3)], by rw [List.map_append] <;> rfl, by rw [List.length_append, hb] <;> rfl⟩
      · rintro Dl F' H4 acc Z4 s ⟨bs, rfl, hb⟩
        walk_at "rd"
        refine ⟨Dl, bs, _, rfl, ?_, by omega⟩
        exact ((Z4.dropAt 1).weak Z1.ff s)
    · walk_at "rd"
      exact ⟨l2, bs2, _, rfl, Z3, hbs2⟩
  rintro σ' H' ⟨l, bs, x5, rfl, Z4, hbs⟩
  refine r_cut (fun σ' H' => ∃ (l : Addr) (bs : List Bool) (x5 : Option V), σ' = [some (.ref p), some (.ref pw), some (.int (ws.length : Int)), some (.int (cellAt ns 1 % 3)), some (.ref l), x5, none, none, none, none, none] ∧ Zs H H F1 H' [(l, .lst (bs.map V.bl))] ∧ bs.length = ws.length) ?_ ?_
  · walk_at "rd"
    refine ifd (fun h => ?_) (fun h => ?_)
    · walk_at "rd"
      refine ⟨p, ns, 2, rfl, rfl, Z4.hh.seq hs, by decide, ?_⟩
      walk_at "rd"
      have hm := Int.emod_nonneg (cellAt ns 2) (b := (ws.length : Int)) (by omega)
      have hm2 := Int.emod_lt_of_pos (cellAt ns 2) (b := (ws.length : Int)) (by omega)
      refine r_setL (j := (cellAt ns 2 % (ws.length : Int)).toNat) 0 Z4 rfl (by omega) (by rw [List.length_map]; omega) (fun H5 Z5 => ?_)
      refine ⟨l, bs.set (cellAt ns 2 % (ws.length : Int)).toNat true, _, rfl, ?_, by rw [List.length_set]; exact hbs⟩
      rw [List.map_set]
      exact Z5
    · walk_at "rd"
      exact ⟨l, bs, _, rfl, Z4, hbs⟩
  clear Z4 hbs bs l x5 Z3 hbs2 ebs bs2 Z2
  rintro σ' H' ⟨l, bs, x5, rfl, Z4, hbs⟩
  -- the hands
  walk_at "rd"
  refine lc_rng (by omega) Z4 (fun j acc F' => acc = (handsOf bs j).map V.int) (fun _ => rfl) rfl ?_ ?_
  · rintro j Dl F' H5 acc hj Z5 s hacc rfl
    dsimp only [wipe]
    walk_at "rd"
    refine r_ixL (SqL.of (Z5.get (i := 1) rfl)) (at_i (by omega) (get_boolD (by rw [Int.toNat_natCast]; omega))) ?_
    rw [Int.toNat_natCast]
    walk_at "rd"
    refine ifb (fun h => ?_) (fun h => ?_)
    · walk_at "rd"
      refine cy Z5 s hacc (by omega) ?_
      rw [hands_succ, if_pos h, List.map_append] <;> rfl
    · refine cn Z5 s hacc ?_
      rw [hands_succ, if_neg (by rw [h]; decide)]
  rintro Dl F' H5 acc Z5 s rfl
  replace Z5 := Z5.weak Z4.ff s
  rw [Int.toNat_natCast] at Z5
  clear s
  walk_at "rd"
  refine r_cut (fun σ' H' => ∃ (lh : Addr) (hs2 : List Int), σ' = [some (.ref p), some (.ref pw), some (.int (ws.length : Int)), some (.int (cellAt ns 1 % 3)), some (.ref l), x5, none, some (.ref lh), none, none, none] ∧ Zs H H F1 H' [(lh, .lst (hs2.map V.int)), (l, .lst (bs.map V.bl))] ∧ (∀ h : Int, h ∈ hs2 ↔ 0 ≤ h ∧ h < (ws.length : Int) ∧ bs.getD h.toNat false = true) ∧ hs2.length ≤ 100) ?_ ?_
  · have hlen := hands_len bs ws.length
    walk_at "rd"
    refine ⟨p, ns, 1, rfl, rfl, Z5.hh.seq hs, by decide, ?_⟩
    walk_at "rd"
    refine ifd (fun h => ?_) (fun h => ?_)
    · walk_at "rd"
      refine r_listRev (SqL.of (Z5.get (i := 0) rfl)) Z5 (fun p6 H6 Z6 => ?_)
      walk_at "rd"
      refine r_slL Z6 (SqL.of (Z6.get (i := 1) rfl)) (fun p7 H7 Z7 => ?_)
      rw [show (1 : Int) = ((1 : Nat) : Int) from rfl, cut_take] at Z7
      refine r_cat Z7 (Z7.get (i := 1) rfl) (Z7.get (i := 0) rfl) (by simp only [List.length_reverse, List.length_map, List.length_take]; omega) (fun p8 H8 Z8 => ?_)
      walk_at "rd"
      refine ⟨p8, (handsOf bs ws.length).reverse ++ (handsOf bs ws.length).take 1, rfl, ?_, fun h => ?_, ?_⟩
      · have Z9 := ((Z8.dropAt 1).dropAt 1).dropAt 1
        rw [List.map_append, List.map_reverse, List.map_take]
        exact Z9
      · rw [List.mem_append, List.mem_reverse, ← hands_in h]
        exact ⟨fun h => h.elim id List.mem_of_mem_take, Or.inl⟩
      · simp only [List.length_append, List.length_reverse, List.length_take]; omega
    · walk_at "rd"
      exact ⟨Dl, handsOf bs ws.length, rfl, Z5, hands_in, by omega⟩
  rintro σ' H' ⟨lh, hs2, rfl, Z6, hmem, hlen⟩
  walk_at "rd"
  -- due
  refine r_rng1 (by omega) (fun i σ' H' => ∃ (x6 : Option V), σ' = [some (.ref p), some (.ref pw), some (.int (ws.length : Int)), some (.int (cellAt ns 1 % 3)), some (.ref l), x5, x6, some (.ref lh), some (.bl ((List.range i).all (dueAt ws bs))), none, none] ∧ Zs H H F1 H' [(lh, .lst (hs2.map V.int)), (l, .lst (bs.map V.bl))])
    ⟨none, rfl, Z6⟩ ?_ ?_
  · rintro i σ' H' hi ⟨x6, rfl, Z7⟩
    dsimp only [List.set_cons_succ, List.set_cons_zero]
    have hin : i < ws.length := by omega
    have e1 : (List.range (i + 1)).all (dueAt ws bs) = ((List.range i).all (dueAt ws bs) && dueAt ws bs i) := by
      rw [List.range_succ, List.all_append, List.all_cons, List.all_nil, Bool.and_true]
    have wsi : ws[i]? = some ws[i] := List.getElem?_eq_getElem hin
    obtain ⟨y, hy, hyw⟩ := TdA.ws_get hx wsi
    have ewi : ws.getD i none = ws[i] := by rw [List.getD_eq_getElem?_getD, wsi] <;> rfl
    walk_at "rd"
    refine r_ixL (SqL.of (Z7.get (i := 1) rfl)) (at_i (by omega) (get_boolD (by rw [Int.toNat_natCast]; omega))) ?_
    rw [Int.toNat_natCast]
    walk_at "rd"
    refine ifb (fun h => ?_) (fun h => ?_)
    · walk_at "rd"
      refine r_ixL (SqL.of (Z7.fh _ _ hp)) (at_i (by omega) (by rw [Int.toNat_natCast]; exact hy)) ?_
      walk_at "rd"
      refine ⟨ws[i], bs, hyw.up Z7.fh, by rw [hbs]; exact ok.all _ (List.mem_of_getElem? wsi), Td.bools_lst (Z7.get (i := 1) rfl), ?_⟩
      walk_at "rd"
      refine ifnb (fun h2 => ?_) (fun h2 => ?_)
      · walk_at "rd"
        refine ⟨some (.int (i : Int)), ?_, Z7⟩
        have e : dueAt ws bs i = false := by unfold dueAt; rw [h, ewi, h2] <;> rfl
        rw [e1, e, Bool.and_false]
      · walk_at "rd"
        refine ⟨some (.int (i : Int)), ?_, Z7⟩
        have e : dueAt ws bs i = true := by unfold dueAt; rw [h, ewi, h2] <;> rfl
        rw [e1, e, Bool.and_true]
    · refine ifF rfl ?_
      walk_at "rd"
      refine ⟨some (.int (i : Int)), ?_, Z7⟩
      have e : dueAt ws bs i = true := by unfold dueAt; rw [h] <;> rfl
      rw [e1, e, Bool.and_true]
  rintro σ' H' ⟨x6, rfl, Z7⟩
  rw [Int.toNat_natCast, ← shows_eq ok hbs hmem]
  walk_at "rd"
  refine ⟨F1, p, ns, Z7.fh, rfl, Z7.hh.seq hs, fun F8 H8 v8 Z8 hv8 => ?_⟩
  rw [ews] at hv8
  have Z9 := Z7.call Z8
  walk_at "rd"
  refine r_listL (SqL.of (Z9.get (i := 0) rfl)) Z9 (fun p10 H10 Z10 => ?_)
  walk_at "rd"
  refine r_mk sz2 Z10 (fun p11 H11 Z11 => ?_)
  walk_at "rd"
  refine r_ixT (SqT.of (Z11.get (i := 0) rfl)) (at_i (by decide) rfl) ?_
  walk_at "rd"
  refine r_ixT (SqT.of (Z11.get (i := 0) rfl)) (at_i (by decide) rfl) ?_
  walk_at "rd"
  refine ⟨ws, hs2, hv8.up Z11.fh, ok, Td.ints_lst (Z11.get (i := 1) rfl), fun h m => by have := (hmem h).mp m; exact ⟨this.1, this.2.1⟩, by omega, fun H12 s12 => ?_⟩
  have Z12 := Z11.ext s12
  walk_at "rd"
  refine r_isi (d := .bool (showsB ws hs2)) (.bl _) (ki_bool _) ?_
  walk_at "rd"
  refine ifT rfl ?_
  walk_at "rd"
  refine r_eqB ?_
  walk_at "rd"
  refine ifT (by rw [beq_iff_eq]) ?_
  walk_at "rd"
  refine r_ixT (SqT.of (Z12.get (i := 0) rfl)) (at_i (by decide) rfl) ?_
  walk_at "rd"
  refine r_eqD (hv8.up Z12.fh) ((hv.up Z8.ff).up Z12.fh) (dWs_shaped ws) (dWs_shaped ws) ?_
  rw [eqv_refl (dWs_shaped ws)]
  walk_at "rd"
  refine ifT rfl ?_
  walk_at "rd"
  refine r_ixT (SqT.of (Z12.get (i := 0) rfl)) (at_i (by decide) rfl) ?_
  walk_at "rd"
  refine r_eqD (Td.ints_lst (Z12.get (i := 1) rfl)) (Td.ints_lst (Z12.get (i := 2) rfl)) (shaped_ints _) (shaped_ints _) ?_
  rw [eqv_refl (shaped_ints hs2)]
  exact q _
end SB
/-! ## the text, by places -/
namespace SB
open PySem L2
def top (i : Nat) : Stmt := PySem.Challenge.pw_stuckbell_k03_what_shows.main.body.getD i (.Pass ⟨0, 0, 0, 0⟩)
abbrev s_is_hand : Stmt := top 7
theorem sc_is_hand : FnScope ["thing", "many"] ["thing", "many"] (defScope s_is_hand) := ⟨rfl, rfl, rfl, by decide +kernel, rfl, by decide +kernel, by decide +kernel⟩
abbrev s_is_wait : Stmt := top 8
theorem sc_is_wait : FnScope ["wait", "many", "place", "one"] ["wait", "many"] (defScope s_is_wait) := ⟨rfl, rfl, rfl, by decide +kernel, rfl, by decide +kernel, by decide +kernel⟩
abbrev s_need : Stmt := top 9
theorem sc_need : FnScope ["waits", "at", "wait"] ["waits"] (defScope s_need) := ⟨rfl, rfl, rfl, by decide +kernel, rfl, by decide +kernel, by decide +kernel⟩
abbrev s_need_hand : Stmt := top 10
theorem sc_need_hand : FnScope ["many", "hand"] ["many", "hand"] (defScope s_need_hand) := ⟨rfl, rfl, rfl, by decide +kernel, rfl, by decide +kernel, by decide +kernel⟩
abbrev s_shows : Stmt := top 11
theorem sc_shows : FnScope ["waits", "hands", "hand", "wait", "one", "within"] ["waits", "hands"] (defScope s_shows) := ⟨rfl, rfl, rfl, by decide +kernel, rfl, by decide +kernel, by decide +kernel⟩
abbrev s_cell_at : Stmt := top 13
theorem sc_cell_at : FnScope ["_law_script", "_law_k"] ["_law_script", "_law_k"] (defScope s_cell_at) := ⟨rfl, rfl, rfl, by decide +kernel, rfl, by decide +kernel, by decide +kernel⟩
abbrev s_mixed : Stmt := top 14
theorem sc_mixed : FnScope ["_law_script", "_law_k", "_law_salt"] ["_law_script", "_law_k", "_law_salt"] (defScope s_mixed) := ⟨rfl, rfl, rfl, by decide +kernel, rfl, by decide +kernel, by decide +kernel⟩
abbrev s_wait_by : Stmt := top 15
theorem sc_wait_by : FnScope ["_law_number", "_law_size", "_law_others", "_law_k", "_law_more"] ["_law_number", "_law_size"] (defScope s_wait_by) := ⟨rfl, rfl, rfl, by decide +kernel, rfl, by decide +kernel, by decide +kernel⟩
abbrev s_holds : Stmt := top 16
theorem sc_holds : FnScope ["_law_wait", "_law_there", "_law_inside", "_law_one"] ["_law_wait", "_law_there"] (defScope s_holds) := ⟨rfl, rfl, rfl, by decide +kernel, rfl, by decide +kernel, by decide +kernel⟩
abbrev s_left : Stmt := top 17
theorem sc_left : FnScope ["_law_waits_here", "_law_there", "_law_turn", "_law_hand", "_law_keep", "_law_one"] ["_law_waits_here"] (defScope s_left) := ⟨rfl, rfl, rfl, by decide +kernel, rfl, by decide +kernel, by decide +kernel⟩
abbrev s_waits : Stmt := top 18
theorem sc_waits : FnScope ["_law_script", "_law_cell", "_law_size", "_law_k"] ["_law_script"] (defScope s_waits) := ⟨rfl, rfl, rfl, by decide +kernel, rfl, by decide +kernel, by decide +kernel⟩
abbrev s_law : Stmt := top 19
theorem sc_law : FnScope ["_law_script", "_law_waits_here", "_law_size", "_law_way", "_law_there", "_law_k", "_law_hand", "_law_hands", "_law_due", "_law_handed", "_law_found"] ["_law_script"] (defScope s_law) := ⟨rfl, rfl, rfl, by decide +kernel, rfl, by decide +kernel, by decide +kernel⟩
/-- what the top has left -/
structure Tx (K : PySem.W.Frag) (mg : Str → Option Value) (A : Ad) where
  f_is_hand : Addr
  fd_is_hand : FuncData
  F_is_hand : Fun K "is_hand" "is_hand" s_is_hand f_is_hand fd_is_hand
  b_is_hand : Binds K fd_is_hand ["thing", "many"] []
  m_is_hand : mg "is_hand" = some (.ref f_is_hand)
  f_is_wait : Addr
  fd_is_wait : FuncData
  F_is_wait : Fun K "is_wait" "is_wait" s_is_wait f_is_wait fd_is_wait
  b_is_wait : Binds K fd_is_wait ["wait", "many"] []
  m_is_wait : mg "is_wait" = some (.ref f_is_wait)
  f_need : Addr
  fd_need : FuncData
  F_need : Fun K "need" "need" s_need f_need fd_need
  b_need : Binds K fd_need ["waits"] []
  m_need : mg "need" = some (.ref f_need)
  f_need_hand : Addr
  fd_need_hand : FuncData
  F_need_hand : Fun K "need_hand" "need_hand" s_need_hand f_need_hand fd_need_hand
  b_need_hand : Binds K fd_need_hand ["many", "hand"] []
  m_need_hand : mg "need_hand" = some (.ref f_need_hand)
  f_shows : Addr
  fd_shows : FuncData
  F_shows : Fun K "shows" "shows" s_shows f_shows fd_shows
  b_shows : Binds K fd_shows ["waits", "hands"] []
  m_shows : mg "shows" = some (.ref f_shows)
  f_cell_at : Addr
  fd_cell_at : FuncData
  F_cell_at : Fun K "_law_cell_at" "_law_cell_at" s_cell_at f_cell_at fd_cell_at
  b_cell_at : Binds K fd_cell_at ["_law_script", "_law_k"] []
  m_cell_at : mg "_law_cell_at" = some (.ref f_cell_at)
  f_mixed : Addr
  fd_mixed : FuncData
  F_mixed : Fun K "_law_mixed" "_law_mixed" s_mixed f_mixed fd_mixed
  b_mixed : Binds K fd_mixed ["_law_script", "_law_k", "_law_salt"] []
  m_mixed : mg "_law_mixed" = some (.ref f_mixed)
  f_wait_by : Addr
  fd_wait_by : FuncData
  F_wait_by : Fun K "_law_wait_by" "_law_wait_by" s_wait_by f_wait_by fd_wait_by
  b_wait_by : Binds K fd_wait_by ["_law_number", "_law_size"] []
  m_wait_by : mg "_law_wait_by" = some (.ref f_wait_by)
  f_holds : Addr
  fd_holds : FuncData
  F_holds : Fun K "_law_holds" "_law_holds" s_holds f_holds fd_holds
  b_holds : Binds K fd_holds ["_law_wait", "_law_there"] []
  m_holds : mg "_law_holds" = some (.ref f_holds)
  f_left : Addr
  fd_left : FuncData
  F_left : Fun K "_law_left" "_law_left" s_left f_left fd_left
  b_left : Binds K fd_left ["_law_waits_here"] []
  m_left : mg "_law_left" = some (.ref f_left)
  f_waits : Addr
  fd_waits : FuncData
  F_waits : Fun K "_law_waits" "_law_waits" s_waits f_waits fd_waits
  b_waits : Binds K fd_waits ["_law_script"] []
  m_waits : mg "_law_waits" = some (.ref f_waits)
  f_law : Addr
  fd_law : FuncData
  F_law : Fun K "law" "law" s_law f_law fd_law
  b_law : Binds K fd_law ["_law_script"] []
  m_law : mg "law" = some (.ref f_law)
  t_MOST_HANDS : Tok
  co_MOST_HANDS : mg "MOST_HANDS" = some (.int 40 t_MOST_HANDS)
  co_WORDS : mg "WORDS" = some (.ref A.words)
  words : WordsOk K A
  bi_bool : mg "bool" = none
  bi_enumerate : mg "enumerate" = none
  bi_int : mg "int" = none
  bi_isinstance : mg "isinstance" = none
  bi_len : mg "len" = none
  bi_list : mg "list" = none
  bi_range : mg "range" = none
  bi_reversed : mg "reversed" = none
  bi_str : mg "str" = none
  bi_tuple : mg "tuple" = none
section
variable {P : Program} {w : World} {K : PySem.W.Frag} {mg : Str → Option Value} {base : Heap} {A : Ad}
theorem ok_is_hand (T : Tx K mg A) : FnOk P w K mg base CX0 1 T.f_is_hand T.fd_is_hand ["thing", "many"] (sp_is_hand K A) := by
  refine T.F_is_hand.ok sc_is_hand (fun vs H Q E h => by obtain ⟨a, b, rfl, h⟩ := h; rfl) (fun cdv A0 outer s H vs Q E hr h => ?_)
  have hu := hu_of hr
  obtain ⟨a, b, rfl, h⟩ := h
  exact ⟨t_is_hand K A, (pss_one (ps_ret (pe_and (pe_callB call_isi (by rfl) T.bi_isinstance (by decide +kernel) (pa_cons (pv 0) (pa_cons (pe_bltn (by rfl) T.bi_int (by decide +kernel) rfl) pa_nil))) (pe_and (pe_not (pe_callB call_isi (by rfl) T.bi_isinstance (by decide +kernel) (pa_cons (pv 0) (pa_cons (pe_bltn (by rfl) T.bi_bool (by decide +kernel) rfl) pa_nil)))) (pe_one (pe_chain op_le op_lt pe_int (pv 0) (pv 1))))))),
    rd_is_hand h⟩
theorem ok_is_wait (T : Tx K mg A) : FnOk P w K mg base CX0 2 T.f_is_wait T.fd_is_wait ["wait", "many"] (sp_is_wait K A) := by
  refine T.F_is_wait.ok sc_is_wait (fun vs H Q E h => by obtain ⟨a, b, rfl, h⟩ := h; rfl) (fun cdv A0 outer s H vs Q E hr h => ?_)
  have hu := hu_of hr
  obtain ⟨a, b, rfl, h⟩ := h
  exact ⟨t_is_wait K A, (pss_cons (ps_if (pt_cmpR op_isNq (pv 0) pe_non (nomark _))
    (pss_one (ps_ret pe_bl))
    pss_nil)
    (pss_cons (ps_if (PW.pt (pw_or (pt_not (pt_val (pe_callB call_isi (by rfl) T.bi_isinstance (by decide +kernel) (pa_cons (pv 0) (pa_cons (pe_bltn (by rfl) T.bi_tuple (by decide +kernel) rfl) pa_nil))))) (pw_or (pt_cmpR op_ne (pe_callB call_lenq (by rfl) T.bi_len PySem.boot_len (pa_cons (pv 0) pa_nil)) pe_int (nomark _)) (pw_or (pt_not (pt_val (pe_callB call_isi (by rfl) T.bi_isinstance (by decide +kernel) (pa_cons (pe_ix ix_tup (pv 0) pe_int (fun _ _ => rfl)) (pa_cons (pe_bltn (by rfl) T.bi_str (by decide +kernel) rfl) pa_nil))))) (pw_or1 (pt_cmpR op_notIn_seq (pe_ix ix_tup (pv 0) pe_int (fun _ _ => rfl)) (pe_glob rfl T.co_WORDS rfl) rfl))))))
    (pss_one (ps_ret pe_bl))
    pss_nil)
    (pss_cons (ps_if (PW.pt (pw_or (pt_not (pt_val (pe_callB call_isi (by rfl) T.bi_isinstance (by decide +kernel) (pa_cons (pe_ix ix_tup (pv 0) pe_int (fun _ _ => rfl)) (pa_cons (pe_bltn (by rfl) T.bi_list (by decide +kernel) rfl) pa_nil))))) (pw_or1 (pt_cmpR (op_eqD hr.units) (pe_ix ix_tup (pv 0) pe_int (fun _ _ => rfl)) (pe_lst pa_nil) (nomark _)))))
    (pss_one (ps_ret pe_bl))
    pss_nil)
    (pss_cons (ps_for PassesOwn.never rfl (pi_enum (by rfl) T.bi_enumerate (pa_cons (pe_ix ix_tup (pv 0) pe_int (fun _ _ => rfl)) pa_nil)) (pg_tup (by rfl) (pgs_cons (pg_name (i := 2) sc_is_wait.nd rfl (Or.inl rfl)) (pgs_cons (pg_name (i := 3) sc_is_wait.nd rfl (Or.inl rfl)) pgs_nil)))
    (pss_one (ps_if (PW.pt (pw_or (pt_not (pt_val (pe_call (ok_is_hand T) (hr.mono (by decide)) rfl T.m_is_hand T.F_is_hand.kp T.b_is_hand .nil pass0 (pa_cons (pv 3) (pa_cons (pv 1) pa_nil))))) (pw_or1 (pt_cmpR op_in_seq (pv 3) (pe_slice sl_list (pe_ix ix_tup (pv 0) pe_int (fun _ _ => rfl)) po_none (po_some (pv 2))) rfl))))
    (pss_one (ps_ret pe_bl))
    pss_nil)))
    (pss_one (ps_ret pe_bl)))))),
    rd_is_wait T.words h⟩
theorem ok_need (T : Tx K mg A) : FnOk P w K mg base CX0 3 T.f_need T.fd_need ["waits"] (sp_need K A) := by
  refine T.F_need.ok sc_need (fun vs H Q E h => by obtain ⟨a, rfl, h⟩ := h; rfl) (fun cdv A0 outer s H vs Q E hr h => ?_)
  have hu := hu_of hr
  obtain ⟨a, rfl, h⟩ := h
  exact ⟨t_need K A, (pss_cons (ps_if (PW.pt (pw_or (pt_not (pt_val (pe_callB call_isi (by rfl) T.bi_isinstance (by decide +kernel) (pa_cons (pv 0) (pa_cons (pe_bltn (by rfl) T.bi_list (by decide +kernel) rfl) pa_nil))))) (pw_or1 (pt_not (pt_chain op_le op_le pe_int (pe_callB call_lenq (by rfl) T.bi_len PySem.boot_len (pa_cons (pv 0) pa_nil)) (pe_glob rfl T.co_MOST_HANDS ⟨_, rfl⟩))))))
    (pss_one ps_never)
    pss_nil)
    (pss_cons (ps_for PassesOwn.never rfl (pi_enum (by rfl) T.bi_enumerate (pa_cons (pv 0) pa_nil)) (pg_tup (by rfl) (pgs_cons (pg_name (i := 1) sc_need.nd rfl (Or.inl rfl)) (pgs_cons (pg_name (i := 2) sc_need.nd rfl (Or.inl rfl)) pgs_nil)))
    (pss_one (ps_if (pt_not (pt_val (pe_call (ok_is_wait T) (hr.mono (by decide)) rfl T.m_is_wait T.F_is_wait.kp T.b_is_wait .nil pass0 (pa_cons (pv 2) (pa_cons (pe_callB call_lenq (by rfl) T.bi_len PySem.boot_len (pa_cons (pv 0) pa_nil)) pa_nil)))))
    (pss_one ps_never)
    pss_nil)))
    (pss_one (ps_ret pe_bl)))),
    rd_need h⟩
theorem ok_need_hand (T : Tx K mg A) : FnOk P w K mg base CX0 2 T.f_need_hand T.fd_need_hand ["many", "hand"] (sp_need_hand K A) := by
  refine T.F_need_hand.ok sc_need_hand (fun vs H Q E h => by obtain ⟨a, b, rfl, h⟩ := h; rfl) (fun cdv A0 outer s H vs Q E hr h => ?_)
  have hu := hu_of hr
  obtain ⟨a, b, rfl, h⟩ := h
  exact ⟨t_need_hand K A, (pss_cons (ps_if (pt_not (pt_val (pe_call (ok_is_hand T) (hr.mono (by decide)) rfl T.m_is_hand T.F_is_hand.kp T.b_is_hand .nil pass0 (pa_cons (pv 1) (pa_cons (pv 0) pa_nil)))))
    (pss_one ps_never)
    pss_nil)
    (pss_one (ps_ret (pv 1)))),
    rd_need_hand h⟩
theorem ok_shows (T : Tx K mg A) : FnOk P w K mg base CX0 4 T.f_shows T.fd_shows ["waits", "hands"] (sp_shows K A) := by
  refine T.F_shows.ok sc_shows (fun vs H Q E h => by obtain ⟨a, b, rfl, h⟩ := h; rfl) (fun cdv A0 outer s H vs Q E hr h => ?_)
  have hu := hu_of hr
  obtain ⟨a, b, rfl, h⟩ := h
  exact ⟨t_shows K A, (pss_cons (ps_expr (pe_call (ok_need T) (hr.mono (by decide)) rfl T.m_need T.F_need.kp T.b_need .nil pass0 (pa_cons (pv 0) pa_nil)))
    (pss_cons (ps_for PassesOwn.never rfl (pi_list (pv 1)) (pg_name (i := 2) sc_shows.nd rfl (Or.inl rfl))
    (pss_one (ps_expr (pe_call (ok_need_hand T) (hr.mono (by decide)) rfl T.m_need_hand T.F_need_hand.kp T.b_need_hand .nil pass0 (pa_cons (pe_callB call_lenq (by rfl) T.bi_len PySem.boot_len (pa_cons (pv 0) pa_nil)) (pa_cons (pv 2) pa_nil))))))
    (pss_cons (ps_for PassesOwn.never rfl (pi_list (pv 1)) (pg_name (i := 2) sc_shows.nd rfl (Or.inl rfl))
    (pss_cons (ps_set (i := 3) sc_shows.nd rfl (Or.inl rfl) (pe_ix ix_list (pv 0) (pv 2) (fun _ _ => rfl)))
    (pss_cons (ps_if (pt_cmpR op_isNq (pv 3) pe_non (nomark _))
    (pss_one (ps_ret pe_bl))
    pss_nil)
    (pss_cons (ps_setLc (i := 5) (own := [("one", 4)]) (g := (gName 4)) (tt := (tTest (tOp (rIn K false) (tVar 4) (tVar 1)))) (te := (tVar 4)) rfl sc_shows.nd rfl rfl (sw_true rfl rfl rfl (by decide +kernel)) (pi_list (pe_ix ix_tup (pv 3) pe_int (fun _ _ => rfl))) (blkOk_by (own := [("one", 4)]) (N := ["waits", "hands", "hand", "wait", "one", "within"]) (sc := defScope s_shows) (by decide +kernel)) (fun _ _ _ _ _ => (pg_name (i := 4) sc_shows.nd rfl (Or.inl rfl))) (fun _ _ _ _ _ => (pts_one (pt_cmpR op_in_seq (pv 4) (pv 1) rfl))) (fun _ _ _ _ _ => (pv 4)))
    (pss_one (ps_if (PW.pt (pw_or (pt_cmpR (op_eqD hr.units) (pv 5) (pe_lst pa_nil) (nomark _)) (pw_or1 (PW.pt (pw_and (pt_cmpR op_eq (pe_ix ix_tup (pv 3) pe_int (fun _ _ => rfl)) pe_str (nomark _)) (pw_and1 (pt_cmpR op_lt (pe_callB call_lenq (by rfl) T.bi_len PySem.boot_len (pa_cons (pv 5) pa_nil)) (pe_callB call_lenq (by rfl) T.bi_len PySem.boot_len (pa_cons (pe_ix ix_tup (pv 3) pe_int (fun _ _ => rfl)) pa_nil)) (nomark _))))))))
    (pss_one (ps_ret pe_bl))
    pss_nil))))))
    (pss_one (ps_ret pe_bl))))),
    rd_shows h⟩
theorem ok_cell_at (T : Tx K mg A) : FnOk P w K mg base CX0 1 T.f_cell_at T.fd_cell_at ["_law_script", "_law_k"] (sp_cell_at K A) := by
  refine T.F_cell_at.ok sc_cell_at (fun vs H Q E h => by obtain ⟨a, b, rfl, h⟩ := h; rfl) (fun cdv A0 outer s H vs Q E hr h => ?_)
  have hu := hu_of hr
  obtain ⟨a, b, rfl, h⟩ := h
  exact ⟨t_cell_at K A, (pss_cons (ps_if (pt_cmpR op_lt (pv 1) (pe_callB call_lenq (by rfl) T.bi_len PySem.boot_len (pa_cons (pv 0) pa_nil)) (nomark _))
    (pss_one (ps_ret (pe_ix ix_list (pv 0) (pv 1) (fun _ _ => rfl))))
    pss_nil)
    (pss_one (ps_ret pe_int))),
    rd_cell_at h⟩
theorem ok_mixed (T : Tx K mg A) : FnOk P w K mg base CX0 2 T.f_mixed T.fd_mixed ["_law_script", "_law_k", "_law_salt"] (sp_mixed K A) := by
  refine T.F_mixed.ok sc_mixed (fun vs H Q E h => by obtain ⟨a, b, c, rfl, h⟩ := h; rfl) (fun cdv A0 outer s H vs Q E hr h => ?_)
  have hu := hu_of hr
  obtain ⟨a, b, c, rfl, h⟩ := h
  exact ⟨t_mixed K A, (pss_one (ps_ret (pe_op op_mod (pe_op op_add (pe_op op_mul (pe_call (ok_cell_at T) (hr.mono (by decide)) rfl T.m_cell_at T.F_cell_at.kp T.b_cell_at .nil pass0 (pa_cons (pv 0) (pa_cons (pv 1) pa_nil))) pe_int) (pe_op op_mul (pv 2) pe_int)) pe_int))),
    rd_mixed h⟩
theorem ok_wait_by (T : Tx K mg A) : FnOk P w K mg base CX0 1 T.f_wait_by T.fd_wait_by ["_law_number", "_law_size"] (sp_wait_by K A) := by
  refine T.F_wait_by.ok sc_wait_by (fun vs H Q E h => by obtain ⟨a, b, rfl, h⟩ := h; rfl) (fun cdv A0 outer s H vs Q E hr h => ?_)
  have hu := hu_of hr
  obtain ⟨a, b, rfl, h⟩ := h
  exact ⟨t_wait_by K A, (pss_cons (ps_if (pt_cmpR op_eq (pe_op op_mod (pv 0) pe_int) pe_int (nomark _))
    (pss_one (ps_ret pe_non))
    pss_nil)
    (pss_cons (ps_set (i := 2) sc_wait_by.nd rfl (Or.inl rfl) (pe_lst (pa_cons (pe_op op_mod (pe_op op_fdiv (pv 0) pe_int) (pv 1)) pa_nil)))
    (pss_cons (ps_for PassesOwn.never rfl (pi_range1 rfl T.bi_range (pa_cons (pe_op op_mod (pe_op op_fdiv (pv 0) pe_int) pe_int) pa_nil)) (pg_name (i := 3) sc_wait_by.nd rfl (Or.inl rfl))
    (pss_cons (ps_set (i := 4) sc_wait_by.nd rfl (Or.inl rfl) (pe_op op_mod (pe_op op_add (pe_op op_add (pe_ix ix_list (pv 2) pe_int (fun _ _ => rfl)) pe_int) (pe_op op_mod (pe_op op_fdiv (pv 0) (pe_op op_add pe_int (pe_op op_mul pe_int (pv 3)))) (pv 1))) (pv 1)))
    (pss_one (ps_if (pt_cmpR op_notIn_seq (pv 4) (pv 2) rfl)
    (pss_one (ps_expr (pe_bm PySem.F.plainAttrs_list PySem.F.slot_list_append PySem.F.type_list_append mt_append (pv 2) (pa_cons (pv 4) pa_nil))))
    pss_nil))))
    (pss_one (ps_ret (pe_tup (pa_cons (pe_ix ix_list (pe_lst (pa_cons pe_str (pa_cons pe_str pa_nil))) (pe_op op_mod (pv 0) pe_int) (fun _ _ => rfl)) (pa_cons (pv 2) pa_nil)))))))),
    rd_wait_by h⟩
theorem ok_holds (T : Tx K mg A) : FnOk P w K mg base CX0 1 T.f_holds T.fd_holds ["_law_wait", "_law_there"] (sp_holds K A) := by
  refine T.F_holds.ok sc_holds (fun vs H Q E h => by obtain ⟨a, b, rfl, h⟩ := h; rfl) (fun cdv A0 outer s H vs Q E hr h => ?_)
  have hu := hu_of hr
  obtain ⟨a, b, rfl, h⟩ := h
  exact ⟨t_holds K A, (pss_cons (ps_if (pt_cmpR op_isNq (pv 0) pe_non (nomark _))
    (pss_one (ps_ret pe_bl))
    pss_nil)
    (pss_cons (ps_set (i := 2) sc_holds.nd rfl (Or.inl rfl) pe_int)
    (pss_cons (ps_for PassesOwn.never rfl (pi_list (pe_ix ix_tup (pv 0) pe_int (fun _ _ => rfl))) (pg_name (i := 3) sc_holds.nd rfl (Or.inl rfl))
    (pss_one (ps_if (pt_val (pe_ix ix_list (pv 1) (pv 3) (fun _ _ => rfl)))
    (pss_one (ps_set (i := 2) sc_holds.nd rfl (Or.inl rfl) (pe_op op_add (pv 2) pe_int)))
    pss_nil)))
    (pss_cons (ps_if (pt_cmpR op_eq (pe_ix ix_tup (pv 0) pe_int (fun _ _ => rfl)) pe_str (nomark _))
    (pss_one (ps_ret (pe_cmpR op_eq (pv 2) (pe_callB call_lenq (by rfl) T.bi_len PySem.boot_len (pa_cons (pe_ix ix_tup (pv 0) pe_int (fun _ _ => rfl)) pa_nil)) (nomark _))))
    pss_nil)
    (pss_one (ps_ret (pe_cmpR op_gt (pv 2) pe_int (nomark _)))))))),
    rd_holds h⟩
theorem ok_left (T : Tx K mg A) : FnOk P w K mg base CX0 2 T.f_left T.fd_left ["_law_waits_here"] (sp_left K A) := by
  refine T.F_left.ok sc_left (fun vs H Q E h => by obtain ⟨a, rfl, h⟩ := h; rfl) (fun cdv A0 outer s H vs Q E hr h => ?_)
  have hu := hu_of hr
  obtain ⟨a, rfl, h⟩ := h
  exact ⟨t_left K A, (pss_cons (ps_set (i := 1) sc_left.nd rfl (Or.inr rfl) (pe_op op_rep (pe_lst (pa_cons pe_bl pa_nil)) (pe_callB call_lenq (by rfl) T.bi_len PySem.boot_len (pa_cons (pv 0) pa_nil))))
    (pss_cons (ps_for PassesOwn.never rfl (pi_range1 rfl T.bi_range (pa_cons (pe_callB call_lenq (by rfl) T.bi_len PySem.boot_len (pa_cons (pv 0) pa_nil)) pa_nil)) (pg_name (i := 2) sc_left.nd rfl (Or.inl rfl))
    (pss_cons (ps_setLc (i := 4) (own := [("_law_hand", 3)]) (g := (gName 3)) (tt := tYes) (te := (tAndV (tOp (rIxL K) (tVar 1) (tVar 3)) (tCall (sp_holds K A) [] E0 (tCons (tOp (rIxL K) (tVar 0) (tVar 3)) (tCons (tVar 1) tNil))))) rfl sc_left.nd rfl rfl (sw_true rfl rfl rfl (by decide +kernel)) (pi_range1 rfl T.bi_range (pa_cons (pe_callB call_lenq (by rfl) T.bi_len PySem.boot_len (pa_cons (pv 0) pa_nil)) pa_nil)) (blkOk_by (own := [("_law_hand", 3)]) (N := ["_law_waits_here", "_law_there", "_law_turn", "_law_hand", "_law_keep", "_law_one"]) (sc := defScope s_left) (by decide +kernel)) (fun _ _ _ _ _ => (pg_name (i := 3) sc_left.nd rfl (Or.inl rfl))) (fun _ _ _ _ _ => pts_nil) (fun _ _ _ _ _ => (pe_and (pe_ix ix_list (pv 1) (pv 3) (fun _ _ => rfl)) (pe_one (pe_call (ok_holds T) (hr.mono (by decide)) rfl T.m_holds T.F_holds.kp T.b_holds .nil pass0 (pa_cons (pe_ix ix_list (pv 0) (pv 3) (fun _ _ => rfl)) (pa_cons (pv 1) pa_nil)))))))
    (pss_one (ps_set (i := 1) sc_left.nd rfl (Or.inr rfl) (pe_lc (own := [("_law_one", 5)]) (g := (gName 5)) (tt := tYes) (te := (tVar 5)) rfl sc_left.nd (pi_list (pv 4)) (blkOk_by (own := [("_law_one", 5)]) (N := ["_law_waits_here", "_law_there", "_law_turn", "_law_hand", "_law_keep", "_law_one"]) (sc := defScope s_left) (by decide +kernel)) (fun _ _ _ _ _ => (pg_name (i := 5) sc_left.nd rfl (Or.inl rfl))) (fun _ _ _ _ _ => pts_nil) (fun _ _ _ _ _ => (pv 5)))))))
    (pss_one (ps_ret (pv 1))))),
    rd_left h⟩
theorem ok_waits (T : Tx K mg A) : FnOk P w K mg base CX0 3 T.f_waits T.fd_waits ["_law_script"] (sp_waits K A) := by
  refine T.F_waits.ok sc_waits (fun vs H Q E h => by obtain ⟨a, rfl, h⟩ := h; rfl) (fun cdv A0 outer s H vs Q E hr h => ?_)
  have hu := hu_of hr
  obtain ⟨a, rfl, h⟩ := h
  exact ⟨t_waits K A, (pss_cons (ps_set (i := 1) sc_waits.nd rfl (Or.inl rfl) (pe_call (ok_cell_at T) (hr.mono (by decide)) rfl T.m_cell_at T.F_cell_at.kp T.b_cell_at .nil pass0 (pa_cons (pv 0) (pa_cons pe_int pa_nil))))
    (pss_cons (ps_set (i := 2) sc_waits.nd rfl (Or.inr rfl) (pe_op op_add pe_int (pe_op op_mod (pv 1) pe_int)))
    (Evl.pss_cut (ps_if (pt_cmpR op_eq (pe_op op_mod (pe_op op_fdiv (pv 1) pe_int) pe_int) pe_int (nomark _))
    (pss_one (ps_set (i := 2) sc_waits.nd rfl (Or.inr rfl) (pe_op op_add pe_int (pe_op op_mod (pe_op op_fdiv (pv 1) pe_int) pe_int))))
    pss_nil)
    (pss_one (ps_ret (pe_lc (own := [("_law_k", 3)]) (g := (gName 3)) (tt := tYes) (te := (tCall (sp_wait_by K A) [] E0 (tCons (tCall (sp_mixed K A) [] E0 (tCons (tVar 0) (tCons (tOp qAdd (tC (.int 3)) (tOp qMod (tVar 3) (tC (.int 40)))) (tCons (tVar 3) tNil)))) (tCons (tVar 2) tNil)))) rfl sc_waits.nd (pi_range1 rfl T.bi_range (pa_cons (pv 2) pa_nil)) (blkOk_by (own := [("_law_k", 3)]) (N := ["_law_script", "_law_cell", "_law_size", "_law_k"]) (sc := defScope s_waits) (by decide +kernel)) (fun _ _ _ _ _ => (pg_name (i := 3) sc_waits.nd rfl (Or.inl rfl))) (fun _ _ _ _ _ => pts_nil) (fun _ _ _ _ _ => (pe_call (ok_wait_by T) (hr.mono (by decide)) rfl T.m_wait_by T.F_wait_by.kp T.b_wait_by .nil pass0 (pa_cons (pe_call (ok_mixed T) (hr.mono (by decide)) rfl T.m_mixed T.F_mixed.kp T.b_mixed .nil pass0 (pa_cons (pv 0) (pa_cons (pe_op op_add pe_int (pe_op op_mod (pv 3) pe_int)) (pa_cons (pv 3) pa_nil)))) (pa_cons (pv 2) pa_nil)))))))))),
    rd_waits h⟩
theorem ok_law (T : Tx K mg A) : FnOk P w K mg base CX0 5 T.f_law T.fd_law ["_law_script"] (sp_law K A) := by
  refine T.F_law.ok sc_law (fun vs H Q E h => by obtain ⟨a, rfl, h⟩ := h; rfl) (fun cdv A0 outer s H vs Q E hr h => ?_)
  have hu := hu_of hr
  obtain ⟨a, rfl, h⟩ := h
  exact ⟨t_law K A, (pss_cons (ps_set (i := 1) sc_law.nd rfl (Or.inl rfl) (pe_call (ok_waits T) (hr.mono (by decide)) rfl T.m_waits T.F_waits.kp T.b_waits .nil pass0 (pa_cons (pv 0) pa_nil)))
    (pss_cons (ps_set (i := 2) sc_law.nd rfl (Or.inl rfl) (pe_callB call_lenq (by rfl) T.bi_len PySem.boot_len (pa_cons (pv 1) pa_nil)))
    (pss_cons (ps_set (i := 3) sc_law.nd rfl (Or.inl rfl) (pe_op op_mod (pe_call (ok_cell_at T) (hr.mono (by decide)) rfl T.m_cell_at T.F_cell_at.kp T.b_cell_at .nil pass0 (pa_cons (pv 0) (pa_cons pe_int pa_nil))) pe_int))
    (pss_cons (ps_set (i := 4) sc_law.nd rfl (Or.inr rfl) (pe_call (ok_left T) (hr.mono (by decide)) rfl T.m_left T.F_left.kp T.b_left .nil pass0 (pa_cons (pv 1) pa_nil)))
    (Evl.pss_cut (ps_if (pt_cmpR op_eq (pv 3) pe_int (nomark _))
    (pss_one (ps_set (i := 4) sc_law.nd rfl (Or.inr rfl) (pe_lc (own := [("_law_k", 5)]) (g := (gName 5)) (tt := tYes) (te := (tOp qGt (tOp qMod (tCall (sp_mixed K A) [] E0 (tCons (tVar 0) (tCons (tOp qAdd (tC (.int 3)) (tOp qMod (tVar 5) (tC (.int 40)))) (tCons (tOp qAdd (tVar 5) (tC (.int 50))) tNil)))) (tC (.int 3))) (tC (.int 0)))) rfl sc_law.nd (pi_range1 rfl T.bi_range (pa_cons (pv 2) pa_nil)) (blkOk_by (own := [("_law_k", 5)]) (N := ["_law_script", "_law_waits_here", "_law_size", "_law_way", "_law_there", "_law_k", "_law_hand", "_law_hands", "_law_due", "_law_handed", "_law_found"]) (sc := defScope s_law) (by decide +kernel)) (fun _ _ _ _ _ => (pg_name (i := 5) sc_law.nd rfl (Or.inl rfl))) (fun _ _ _ _ _ => pts_nil) (fun _ _ _ _ _ => (pe_cmpR op_gt (pe_op op_mod (pe_call (ok_mixed T) (hr.mono (by decide)) rfl T.m_mixed T.F_mixed.kp T.b_mixed .nil pass0 (pa_cons (pv 0) (pa_cons (pe_op op_add pe_int (pe_op op_mod (pv 5) pe_int)) (pa_cons (pe_op op_add (pv 5) pe_int) pa_nil)))) pe_int) pe_int (nomark _))))))
    pss_nil)
    (Evl.pss_cut (ps_if (pt_cmpR op_eq (pv 3) pe_int (nomark _))
    (pss_one (ps_asg pe_bl (pg_sub (pv 4) (pe_op op_mod (pe_call (ok_cell_at T) (hr.mono (by decide)) rfl T.m_cell_at T.F_cell_at.kp T.b_cell_at .nil pass0 (pa_cons (pv 0) (pa_cons pe_int pa_nil))) (pv 2)) set_list)))
    pss_nil)
    (pss_cons (ps_setLc (i := 7) (own := [("_law_hand", 6)]) (g := (gName 6)) (tt := (tB (tOp (rIxL K) (tVar 4) (tVar 6)))) (te := (tVar 6)) rfl sc_law.nd rfl rfl (sw_true rfl rfl rfl (by decide +kernel)) (pi_range1 rfl T.bi_range (pa_cons (pv 2) pa_nil)) (blkOk_by (own := [("_law_hand", 6)]) (N := ["_law_script", "_law_waits_here", "_law_size", "_law_way", "_law_there", "_law_k", "_law_hand", "_law_hands", "_law_due", "_law_handed", "_law_found"]) (sc := defScope s_law) (by decide +kernel)) (fun _ _ _ _ _ => (pg_name (i := 6) sc_law.nd rfl (Or.inl rfl))) (fun _ _ _ _ _ => (pts_one (pt_val (pe_ix ix_list (pv 4) (pv 6) (fun _ _ => rfl))))) (fun _ _ _ _ _ => (pv 6)))
    (Evl.pss_cut (ps_if (pt_cmpR op_eq (pe_op op_mod (pe_op op_fdiv (pe_call (ok_cell_at T) (hr.mono (by decide)) rfl T.m_cell_at T.F_cell_at.kp T.b_cell_at .nil pass0 (pa_cons (pv 0) (pa_cons pe_int pa_nil))) pe_int) pe_int) pe_int (nomark _))
    (pss_one (ps_set (i := 7) sc_law.nd rfl (Or.inl rfl) (pe_op op_cat (pe_listRevq rfl (by rfl) T.bi_list (by rfl) T.bi_reversed (pv 7)) (pe_slice sl_list (pv 7) po_none (po_some pe_int)))))
    pss_nil)
    (pss_cons (ps_set (i := 8) sc_law.nd rfl (Or.inl rfl) pe_bl)
    (pss_cons (ps_for PassesOwn.never rfl (pi_range1 rfl T.bi_range (pa_cons (pv 2) pa_nil)) (pg_name (i := 6) sc_law.nd rfl (Or.inl rfl))
    (pss_one (ps_if (PW.pt (pw_and (pt_val (pe_ix ix_list (pv 4) (pv 6) (fun _ _ => rfl))) (pw_and1 (pt_not (pt_val (pe_call (ok_holds T) (hr.mono (by decide)) rfl T.m_holds T.F_holds.kp T.b_holds .nil pass0 (pa_cons (pe_ix ix_list (pv 1) (pv 6) (fun _ _ => rfl)) (pa_cons (pv 4) pa_nil))))))))
    (pss_one (ps_set (i := 8) sc_law.nd rfl (Or.inl rfl) pe_bl))
    pss_nil)))
    (pss_cons (ps_set (i := 9) sc_law.nd rfl (Or.inl rfl) (pe_tup (pa_cons (pe_call (ok_waits T) (hr.mono (by decide)) rfl T.m_waits T.F_waits.kp T.b_waits .nil pass0 (pa_cons (pv 0) pa_nil)) (pa_cons (pe_callTy call_listq (by rfl) T.bi_list (by decide +kernel) (pa_cons (pv 7) pa_nil)) pa_nil))))
    (pss_cons (ps_set (i := 10) sc_law.nd rfl (Or.inl rfl) (pe_call (ok_shows T) (hr.mono (by decide)) rfl T.m_shows T.F_shows.kp T.b_shows .nil pass0 (pa_cons (pe_ix ix_tup (pv 9) pe_int (fun _ _ => rfl)) (pa_cons (pe_ix ix_tup (pv 9) pe_int (fun _ _ => rfl)) pa_nil))))
    (pss_one (ps_ret (pe_and (pe_callB call_isi (by rfl) T.bi_isinstance (by decide +kernel) (pa_cons (pv 10) (pa_cons (pe_bltn (by rfl) T.bi_bool (by decide +kernel) rfl) pa_nil))) (pe_and (pe_cmpR op_eq (pv 10) (pv 8) (nomark _)) (pe_and (pe_cmpR (op_eqD hr.units) (pe_ix ix_tup (pv 9) pe_int (fun _ _ => rfl)) (pv 1) (nomark _)) (pe_one (pe_cmpR (op_eqD hr.units) (pe_ix ix_tup (pv 9) pe_int (fun _ _ => rfl)) (pv 7) (nomark _)))))))))))))))))))),
    rd_law h⟩
end
theorem all_mk {l : PySem.W.OpenLaw} {w : World} {K : PySem.W.Frag} {h : Heap} {mg : Str → Option Value} {fa : Addr} (X : K.In h) (G : h.Ns mainGlobals mg) (hfa : mg "law" = some (.ref fa))
    {f1 : Addr} {od1 an1 : Option Addr} {sl1 : Array (Option Value)} {oc1 kV1 dc1 pm1 cd1 ct1 : Value} {f2 : Addr} {od2 an2 : Option Addr} {sl2 : Array (Option Value)} {oc2 kV2 dc2 pm2 cd2 ct2 : Value} {f3 : Addr} {od3 an3 : Option Addr} {sl3 : Array (Option Value)} {oc3 kV3 dc3 pm3 cd3 ct3 : Value} {f4 : Addr} {od4 an4 : Option Addr} {sl4 : Array (Option Value)} {oc4 kV4 dc4 pm4 cd4 ct4 : Value} {f5 : Addr} {od5 an5 : Option Addr} {sl5 : Array (Option Value)} {oc5 kV5 dc5 pm5 cd5 ct5 : Value} {f6 : Addr} {od6 an6 : Option Addr} {sl6 : Array (Option Value)} {oc6 kV6 dc6 pm6 cd6 ct6 : Value} {f7 : Addr} {od7 an7 : Option Addr} {sl7 : Array (Option Value)} {oc7 kV7 dc7 pm7 cd7 ct7 : Value} {f8 : Addr} {od8 an8 : Option Addr} {sl8 : Array (Option Value)} {oc8 kV8 dc8 pm8 cd8 ct8 : Value} {f9 : Addr} {od9 an9 : Option Addr} {sl9 : Array (Option Value)} {oc9 kV9 dc9 pm9 cd9 ct9 : Value} {f10 : Addr} {od10 an10 : Option Addr} {sl10 : Array (Option Value)} {oc10 kV10 dc10 pm10 cd10 ct10 : Value} {f11 : Addr} {od11 an11 : Option Addr} {sl11 : Array (Option Value)} {oc11 kV11 dc11 pm11 cd11 ct11 : Value} {f12 : Addr} {od12 an12 : Option Addr} {sl12 : Array (Option Value)} {oc12 kV12 dc12 pm12 cd12 ct12 : Value} {tMOST_HANDS : Tok} {aW : Addr} {dW0 : Option Addr} {t1W t2W : Tok} {nW : Nat} {slW : Array (Option Value)}
    (a1 : PySem.W.nsIn K mainGlobals "is_hand" = some (some (.ref f1)))
    (l1 : K.lookup f1 = some ⟨oc1, od1, .func (PySem.W.fnOf "is_hand" "is_hand" (defArgs s_is_hand) (defBody s_is_hand) (defScope s_is_hand) .none kV1 dc1 pm1 an1 cd1 ct1), sl1⟩)
    (c1 : PySem.W.codeIn K cd1 "is_hand" = true)
    (k1 : PySem.W.keepIn K (.ref f1) = true)
    (a2 : PySem.W.nsIn K mainGlobals "is_wait" = some (some (.ref f2)))
    (l2 : K.lookup f2 = some ⟨oc2, od2, .func (PySem.W.fnOf "is_wait" "is_wait" (defArgs s_is_wait) (defBody s_is_wait) (defScope s_is_wait) .none kV2 dc2 pm2 an2 cd2 ct2), sl2⟩)
    (c2 : PySem.W.codeIn K cd2 "is_wait" = true)
    (k2 : PySem.W.keepIn K (.ref f2) = true)
    (a3 : PySem.W.nsIn K mainGlobals "need" = some (some (.ref f3)))
    (l3 : K.lookup f3 = some ⟨oc3, od3, .func (PySem.W.fnOf "need" "need" (defArgs s_need) (defBody s_need) (defScope s_need) .none kV3 dc3 pm3 an3 cd3 ct3), sl3⟩)
    (c3 : PySem.W.codeIn K cd3 "need" = true)
    (k3 : PySem.W.keepIn K (.ref f3) = true)
    (a4 : PySem.W.nsIn K mainGlobals "need_hand" = some (some (.ref f4)))
    (l4 : K.lookup f4 = some ⟨oc4, od4, .func (PySem.W.fnOf "need_hand" "need_hand" (defArgs s_need_hand) (defBody s_need_hand) (defScope s_need_hand) .none kV4 dc4 pm4 an4 cd4 ct4), sl4⟩)
    (c4 : PySem.W.codeIn K cd4 "need_hand" = true)
    (k4 : PySem.W.keepIn K (.ref f4) = true)
    (a5 : PySem.W.nsIn K mainGlobals "shows" = some (some (.ref f5)))
    (l5 : K.lookup f5 = some ⟨oc5, od5, .func (PySem.W.fnOf "shows" "shows" (defArgs s_shows) (defBody s_shows) (defScope s_shows) .none kV5 dc5 pm5 an5 cd5 ct5), sl5⟩)
    (c5 : PySem.W.codeIn K cd5 "shows" = true)
    (k5 : PySem.W.keepIn K (.ref f5) = true)
    (a6 : PySem.W.nsIn K mainGlobals "_law_cell_at" = some (some (.ref f6)))
    (l6 : K.lookup f6 = some ⟨oc6, od6, .func (PySem.W.fnOf "_law_cell_at" "_law_cell_at" (defArgs s_cell_at) (defBody s_cell_at) (defScope s_cell_at) .none kV6 dc6 pm6 an6 cd6 ct6), sl6⟩)
    (c6 : PySem.W.codeIn K cd6 "_law_cell_at" = true)
    (k6 : PySem.W.keepIn K (.ref f6) = true)
    (a7 : PySem.W.nsIn K mainGlobals "_law_mixed" = some (some (.ref f7)))
    (l7 : K.lookup f7 = some ⟨oc7, od7, .func (PySem.W.fnOf "_law_mixed" "_law_mixed" (defArgs s_mixed) (defBody s_mixed) (defScope s_mixed) .none kV7 dc7 pm7 an7 cd7 ct7), sl7⟩)
    (c7 : PySem.W.codeIn K cd7 "_law_mixed" = true)
    (k7 : PySem.W.keepIn K (.ref f7) = true)
    (a8 : PySem.W.nsIn K mainGlobals "_law_wait_by" = some (some (.ref f8)))
    (l8 : K.lookup f8 = some ⟨oc8, od8, .func (PySem.W.fnOf "_law_wait_by" "_law_wait_by" (defArgs s_wait_by) (defBody s_wait_by) (defScope s_wait_by) .none kV8 dc8 pm8 an8 cd8 ct8), sl8⟩)
    (c8 : PySem.W.codeIn K cd8 "_law_wait_by" = true)
    (k8 : PySem.W.keepIn K (.ref f8) = true)
    (a9 : PySem.W.nsIn K mainGlobals "_law_holds" = some (some (.ref f9)))
    (l9 : K.lookup f9 = some ⟨oc9, od9, .func (PySem.W.fnOf "_law_holds" "_law_holds" (defArgs s_holds) (defBody s_holds) (defScope s_holds) .none kV9 dc9 pm9 an9 cd9 ct9), sl9⟩)
    (c9 : PySem.W.codeIn K cd9 "_law_holds" = true)
    (k9 : PySem.W.keepIn K (.ref f9) = true)
    (a10 : PySem.W.nsIn K mainGlobals "_law_left" = some (some (.ref f10)))
    (l10 : K.lookup f10 = some ⟨oc10, od10, .func (PySem.W.fnOf "_law_left" "_law_left" (defArgs s_left) (defBody s_left) (defScope s_left) .none kV10 dc10 pm10 an10 cd10 ct10), sl10⟩)
    (c10 : PySem.W.codeIn K cd10 "_law_left" = true)
    (k10 : PySem.W.keepIn K (.ref f10) = true)
    (a11 : PySem.W.nsIn K mainGlobals "_law_waits" = some (some (.ref f11)))
    (l11 : K.lookup f11 = some ⟨oc11, od11, .func (PySem.W.fnOf "_law_waits" "_law_waits" (defArgs s_waits) (defBody s_waits) (defScope s_waits) .none kV11 dc11 pm11 an11 cd11 ct11), sl11⟩)
    (c11 : PySem.W.codeIn K cd11 "_law_waits" = true)
    (k11 : PySem.W.keepIn K (.ref f11) = true)
    (a12 : PySem.W.nsIn K mainGlobals "law" = some (some (.ref f12)))
    (l12 : K.lookup f12 = some ⟨oc12, od12, .func (PySem.W.fnOf "law" "law" (defArgs s_law) (defBody s_law) (defScope s_law) .none kV12 dc12 pm12 an12 cd12 ct12), sl12⟩)
    (c12 : PySem.W.codeIn K cd12 "law" = true)
    (k12 : PySem.W.keepIn K (.ref f12) = true)
    (vMOST_HANDS : PySem.W.nsIn K mainGlobals "MOST_HANDS" = some (some (.int 40 tMOST_HANDS)))
    (vWORDS : PySem.W.nsIn K mainGlobals "WORDS" = some (some (.ref aW)))
    (xW : K.lookup aW = some ⟨.type "tuple", dW0, .seq #[.str "all" t1W, .str "any" t2W] nW, slW⟩)
    (z_bool : PySem.W.nsIn K mainGlobals "bool" = some none)
    (z_enumerate : PySem.W.nsIn K mainGlobals "enumerate" = some none)
    (z_int : PySem.W.nsIn K mainGlobals "int" = some none)
    (z_isinstance : PySem.W.nsIn K mainGlobals "isinstance" = some none)
    (z_len : PySem.W.nsIn K mainGlobals "len" = some none)
    (z_list : PySem.W.nsIn K mainGlobals "list" = some none)
    (z_range : PySem.W.nsIn K mainGlobals "range" = some none)
    (z_reversed : PySem.W.nsIn K mainGlobals "reversed" = some none)
    (z_str : PySem.W.nsIn K mainGlobals "str" = some none)
    (z_tuple : PySem.W.nsIn K mainGlobals "tuple" = some none) :
    ∃ fd : FuncData, (∀ (s : Shared) (v : Value), BindsTo s fd ⟨[v], []⟩ [("_law_script", v)]) ∧ ∀ base : Heap, K.In base → base.Ns mainGlobals mg → FnOk l.prog w K mg base CX0 5 fa fd ["_law_script"] (sp_law K ⟨aW, 0, 0, 0, 0, 0, 0⟩) := by
  have e := hfa.symm.trans (PySem.W.mg_of X G a12)
  cases e
  have F1 := fun_mk (st := s_is_hand) l1 c1 k1
  have b1 := F1.binds (ps := ["thing", "many"]) fun _ _ _ _ _ _ us hl => match us, hl with | [_, _], _ => rfl
  have F2 := fun_mk (st := s_is_wait) l2 c2 k2
  have b2 := F2.binds (ps := ["wait", "many"]) fun _ _ _ _ _ _ us hl => match us, hl with | [_, _], _ => rfl
  have F3 := fun_mk (st := s_need) l3 c3 k3
  have b3 := F3.binds (ps := ["waits"]) fun _ _ _ _ _ _ us hl => match us, hl with | [_], _ => rfl
  have F4 := fun_mk (st := s_need_hand) l4 c4 k4
  have b4 := F4.binds (ps := ["many", "hand"]) fun _ _ _ _ _ _ us hl => match us, hl with | [_, _], _ => rfl
  have F5 := fun_mk (st := s_shows) l5 c5 k5
  have b5 := F5.binds (ps := ["waits", "hands"]) fun _ _ _ _ _ _ us hl => match us, hl with | [_, _], _ => rfl
  have F6 := fun_mk (st := s_cell_at) l6 c6 k6
  have b6 := F6.binds (ps := ["_law_script", "_law_k"]) fun _ _ _ _ _ _ us hl => match us, hl with | [_, _], _ => rfl
  have F7 := fun_mk (st := s_mixed) l7 c7 k7
  have b7 := F7.binds (ps := ["_law_script", "_law_k", "_law_salt"]) fun _ _ _ _ _ _ us hl => match us, hl with | [_, _, _], _ => rfl
  have F8 := fun_mk (st := s_wait_by) l8 c8 k8
  have b8 := F8.binds (ps := ["_law_number", "_law_size"]) fun _ _ _ _ _ _ us hl => match us, hl with | [_, _], _ => rfl
  have F9 := fun_mk (st := s_holds) l9 c9 k9
  have b9 := F9.binds (ps := ["_law_wait", "_law_there"]) fun _ _ _ _ _ _ us hl => match us, hl with | [_, _], _ => rfl
  have F10 := fun_mk (st := s_left) l10 c10 k10
  have b10 := F10.binds (ps := ["_law_waits_here"]) fun _ _ _ _ _ _ us hl => match us, hl with | [_], _ => rfl
  have F11 := fun_mk (st := s_waits) l11 c11 k11
  have b11 := F11.binds (ps := ["_law_script"]) fun _ _ _ _ _ _ us hl => match us, hl with | [_], _ => rfl
  have F12 := fun_mk (st := s_law) l12 c12 k12
  have b12 := F12.binds (ps := ["_law_script"]) fun _ _ _ _ _ _ us hl => match us, hl with | [_], _ => rfl
  let T : Tx K mg ⟨aW, 0, 0, 0, 0, 0, 0⟩ := {
    f_is_hand := f1,
    fd_is_hand := PySem.W.fnOf "is_hand" "is_hand" (defArgs s_is_hand) (defBody s_is_hand) (defScope s_is_hand) .none kV1 dc1 pm1 an1 cd1 ct1,
    F_is_hand := F1,
    b_is_hand := b1,
    m_is_hand := PySem.W.mg_of X G a1,
    f_is_wait := f2,
    fd_is_wait := PySem.W.fnOf "is_wait" "is_wait" (defArgs s_is_wait) (defBody s_is_wait) (defScope s_is_wait) .none kV2 dc2 pm2 an2 cd2 ct2,
    F_is_wait := F2,
    b_is_wait := b2,
    m_is_wait := PySem.W.mg_of X G a2,
    f_need := f3,
    fd_need := PySem.W.fnOf "need" "need" (defArgs s_need) (defBody s_need) (defScope s_need) .none kV3 dc3 pm3 an3 cd3 ct3,
    F_need := F3,
    b_need := b3,
    m_need := PySem.W.mg_of X G a3,
    f_need_hand := f4,
    fd_need_hand := PySem.W.fnOf "need_hand" "need_hand" (defArgs s_need_hand) (defBody s_need_hand) (defScope s_need_hand) .none kV4 dc4 pm4 an4 cd4 ct4,
    F_need_hand := F4,
    b_need_hand := b4,
    m_need_hand := PySem.W.mg_of X G a4,
    f_shows := f5,
    fd_shows := PySem.W.fnOf "shows" "shows" (defArgs s_shows) (defBody s_shows) (defScope s_shows) .none kV5 dc5 pm5 an5 cd5 ct5,
    F_shows := F5,
    b_shows := b5,
    m_shows := PySem.W.mg_of X G a5,
    f_cell_at := f6,
    fd_cell_at := PySem.W.fnOf "_law_cell_at" "_law_cell_at" (defArgs s_cell_at) (defBody s_cell_at) (defScope s_cell_at) .none kV6 dc6 pm6 an6 cd6 ct6,
    F_cell_at := F6,
    b_cell_at := b6,
    m_cell_at := PySem.W.mg_of X G a6,
    f_mixed := f7,
    fd_mixed := PySem.W.fnOf "_law_mixed" "_law_mixed" (defArgs s_mixed) (defBody s_mixed) (defScope s_mixed) .none kV7 dc7 pm7 an7 cd7 ct7,
    F_mixed := F7,
    b_mixed := b7,
    m_mixed := PySem.W.mg_of X G a7,
    f_wait_by := f8,
    fd_wait_by := PySem.W.fnOf "_law_wait_by" "_law_wait_by" (defArgs s_wait_by) (defBody s_wait_by) (defScope s_wait_by) .none kV8 dc8 pm8 an8 cd8 ct8,
    F_wait_by := F8,
    b_wait_by := b8,
    m_wait_by := PySem.W.mg_of X G a8,
    f_holds := f9,
    fd_holds := PySem.W.fnOf "_law_holds" "_law_holds" (defArgs s_holds) (defBody s_holds) (defScope s_holds) .none kV9 dc9 pm9 an9 cd9 ct9,
    F_holds := F9,
    b_holds := b9,
    m_holds := PySem.W.mg_of X G a9,
    f_left := f10,
    fd_left := PySem.W.fnOf "_law_left" "_law_left" (defArgs s_left) (defBody s_left) (defScope s_left) .none kV10 dc10 pm10 an10 cd10 ct10,
    F_left := F10,
    b_left := b10,
    m_left := PySem.W.mg_of X G a10,
    f_waits := f11,
    fd_waits := PySem.W.fnOf "_law_waits" "_law_waits" (defArgs s_waits) (defBody s_waits) (defScope s_waits) .none kV11 dc11 pm11 an11 cd11 ct11,
    F_waits := F11,
    b_waits := b11,
    m_waits := PySem.W.mg_of X G a11,
    f_law := fa,
    fd_law := PySem.W.fnOf "law" "law" (defArgs s_law) (defBody s_law) (defScope s_law) .none kV12 dc12 pm12 an12 cd12 ct12,
    F_law := F12,
    b_law := b12,
    m_law := PySem.W.mg_of X G a12,
    t_MOST_HANDS := tMOST_HANDS,
    co_MOST_HANDS := PySem.W.mg_of X G vMOST_HANDS,
    co_WORDS := PySem.W.mg_of X G vWORDS,
    words := fun H => .inr ⟨_, _, _, xW, rfl, rfl, by show 2 ≤ sizeLine; decide, .cons ⟨_, rfl⟩ (.cons ⟨_, rfl⟩ .nil)⟩,
    bi_bool := PySem.W.mg_none_of X G z_bool,
    bi_enumerate := PySem.W.mg_none_of X G z_enumerate,
    bi_int := PySem.W.mg_none_of X G z_int,
    bi_isinstance := PySem.W.mg_none_of X G z_isinstance,
    bi_len := PySem.W.mg_none_of X G z_len,
    bi_list := PySem.W.mg_none_of X G z_list,
    bi_range := PySem.W.mg_none_of X G z_range,
    bi_reversed := PySem.W.mg_none_of X G z_reversed,
    bi_str := PySem.W.mg_none_of X G z_str,
    bi_tuple := PySem.W.mg_none_of X G z_tuple }
  exact ⟨PySem.W.fnOf "law" "law" (defArgs s_law) (defBody s_law) (defScope s_law) .none kV12 dc12 pm12 an12 cd12 ct12, fun s v => .of_eq rfl, fun base _ _ => ok_law T⟩
end SB
open PySem PySem.W PyProof.Rows in
set_option maxRecDepth 100000 in
set_option maxHeartbeats 0 in
theorem PySem.Challenge.cw_stuckbell_k03_what_shows_holds : PySem.Challenge.rw_stuckbell_k03_what_shows.Holds := by
  w_on; o_law; k_head; (case hw => w_witness2)
  k_fill
  refine L2.walk_ofK (l := PySem.Challenge.rw_stuckbell_k03_what_shows) (n := 63) (k := 5) (x := "_law_script") (CX := L2.CX0) (sp := SB.spL) rfl (by decide) rfl ⟨rfl, by decide, by decide⟩ (fun w h Y => PySem.W.kIn_of Y) ?F (fun _ _ a ns hl _ hS => ⟨_, rfl, a, ns, rfl, hS, hl, fun _ => rfl⟩) (fun _ _ _ _ z => z)
  case F =>
    intro w mg fa h KX G hmg
    refine' SB.all_mk KX G hmg ?a1 ?l1 ?c1 ?k1 ?a2 ?l2 ?c2 ?k2 ?a3 ?l3 ?c3 ?k3 ?a4 ?l4 ?c4 ?k4 ?a5 ?l5 ?c5 ?k5 ?a6 ?l6 ?c6 ?k6 ?a7 ?l7 ?c7 ?k7 ?a8 ?l8 ?c8 ?k8 ?a9 ?l9 ?c9 ?k9 ?a10 ?l10 ?c10 ?k10 ?a11 ?l11 ?c11 ?k11 ?a12 ?l12 ?c12 ?k12 ?vMOST_HANDS ?vWORDS ?xW ?z_bool ?z_enumerate ?z_int ?z_isinstance ?z_len ?z_list ?z_range ?z_reversed ?z_str ?z_tuple
    (case a1 => k_is)
    (case l1 => k_is)
    (case c1 => k_is)
    (case k1 => k_is)
    (case a2 => k_is)
    (case l2 => k_is)
    (case c2 => k_is)
    (case k2 => k_is)
    (case a3 => k_is)
    (case l3 => k_is)
    (case c3 => k_is)
    (case k3 => k_is)
    (case a4 => k_is)
    (case l4 => k_is)
    (case c4 => k_is)
    (case k4 => k_is)
    (case a5 => k_is)
    (case l5 => k_is)
    (case c5 => k_is)
    (case k5 => k_is)
    (case a6 => k_is)
    (case l6 => k_is)
    (case c6 => k_is)
    (case k6 => k_is)
    (case a7 => k_is)
    (case l7 => k_is)
    (case c7 => k_is)
    (case k7 => k_is)
    (case a8 => k_is)
    (case l8 => k_is)
    (case c8 => k_is)
    (case k8 => k_is)
    (case a9 => k_is)
    (case l9 => k_is)
    (case c9 => k_is)
    (case k9 => k_is)
    (case a10 => k_is)
    (case l10 => k_is)
    (case c10 => k_is)
    (case k10 => k_is)
    (case a11 => k_is)
    (case l11 => k_is)
    (case c11 => k_is)
    (case k11 => k_is)
    (case a12 => k_is)
    (case l12 => k_is)
    (case c12 => k_is)
    (case k12 => k_is)
    (case vMOST_HANDS => k_is)
    (case vWORDS => k_is)
    (case xW => k_is)
    (case z_bool => k_is)
    (case z_enumerate => k_is)
    (case z_int => k_is)
    (case z_isinstance => k_is)
    (case z_len => k_is)
    (case z_list => k_is)
    (case z_range => k_is)
    (case z_reversed => k_is)
    (case z_str => k_is)
    (case z_tuple => k_is)
