import PyProof.Rows.All
import Wide.All
import OpenK.AllK
import Wide.FinOn
import HandS.ForMost
import HandS.IsInst
import HandS.Deep
import HandS.SetFor
import HandS.Rev
import HandS.SortInts
import HandS.Evl
import HandS.IsInst
import PySem.Challenge.RW_stuckbell_k04_whole_who_is_stuck
set_option Elab.async false
set_option linter.all false
set_option maxRecDepth 100000
set_option maxHeartbeats 4000000
/-! the steps that need no word -/
set_option hygiene false in
local macro_rules | `(tactic| walk_at "rd1") => `(tactic| first
  | (with_reducible refine SB.r_seq ?_)
  | ((with_reducible refine' SB.r_var ?k1 ?_); (case k1 => rfl))
  | (with_reducible refine SB.r_c ?_)
  | (with_reducible refine SB.r_op ?_)
  | ((with_reducible refine' SB.r_mul ?k1 ?_); (case k1 => first | exact Or.inr ⟨by decide, by decide⟩ | exact Or.inl ⟨by decide, by decide⟩ | exact Or.inr ⟨by omega, by omega⟩ | exact Or.inl ⟨by omega, by omega⟩))
  | ((with_reducible refine' SB.r_mod ?k1 ?_); (case k1 => first | decide | omega))
  | ((with_reducible refine' SB.r_div ?k1 ?_); (case k1 => first | exact ⟨by decide, by decide⟩ | exact ⟨by omega, by omega⟩))
  | (with_reducible refine SB.r_I0 ?_)
  | ((with_reducible refine SB.r_gname ?_); try dsimp only [List.set_cons_succ, List.set_cons_zero])
  | (with_reducible refine SB.r_asg ?_)
  | (with_reducible refine SB.r_cons ?_)
  | (with_reducible refine SB.r_nil ?_)
  | (with_reducible refine SB.r_call ?_)
  | (with_reducible refine SB.r_sp1 ?_)
  | (with_reducible refine SB.r_sp2 ?_)
  | (with_reducible refine SB.r_sp3 ?_)
  | (with_reducible refine SB.r_sp4 ?_)
  | (with_reducible refine SB.r_cb ?_)
  | (with_reducible refine SB.r_ifS ?_)
  | (with_reducible refine SB.r_test ?_)
  | (with_reducible refine SB.r_tB ?_)
  | (with_reducible refine SB.r_bl ?_)
  | (with_reducible refine SB.r_eqI ?_)
  | (with_reducible refine SB.r_eqS ?_)
  | (with_reducible refine SB.r_neI ?_)
  | (with_reducible refine SB.r_neS ?_)
  | (with_reducible refine SB.r_next ?_)
  | (with_reducible refine SB.r_ret ?_)
  | (with_reducible refine SB.r_drop ?_)
  | (with_reducible refine SB.r_not ?_)
  | (with_reducible refine SB.r_notV ?_)
  | (with_reducible refine SB.r_and ?_)
  | (with_reducible refine SB.r_or ?_)
  | (with_reducible refine SB.r_andV ?_)
  | (with_reducible refine SB.r_orV ?_)
  | (with_reducible refine SB.r_yes ?_)
  | (with_reducible refine SB.r_lst ?_)
  | (with_reducible refine SB.r_tup ?_)
  | (with_reducible refine SB.r_qIsN ?_)
  | (with_reducible refine SB.r_qNotN ?_)
  | (with_reducible refine SB.r_bm ?_)
  | (with_reducible refine SB.r_bm0 ?_)
  | (with_reducible refine SB.r_chain ?_)
  | (with_reducible refine SB.r_sl ?_)
  | (with_reducible refine SB.r_nopart ?_)
  | (with_reducible refine SB.r_part ?_)
  | (with_reducible refine SB.r_some ?_)
  | (with_reducible refine SB.r_gsub ?_)
  | (with_reducible refine SB.r_forR1 ?_)
  | (with_reducible refine SB.r_forR2 ?_)
  | (with_reducible refine SB.r_forL ?_)
  | (with_reducible refine SB.r_forT ?_)
  | (with_reducible refine SB.r_forE ?_)
  | (with_reducible refine SB.r_lcR1 ?_)
  | (with_reducible refine SB.r_lcL ?_)
  | (with_reducible refine SB.r_lcT ?_)
  | (with_reducible refine SB.r_lcE ?_)
  | (with_reducible refine SB.r_listRev0 ?_)
  | (with_reducible refine SB.r_retN ?_))
local macro_rules | `(tactic| walk_at "rd") => `(tactic| repeat (walk_at "rd1"))
/-! The state kit: a frozen part F of the heap H, a ledger L of the cells that may still change, and data over F. -/
namespace SB
open PySem L2

/-! ### the state -/
structure Zs (F0 H0 F H : Hp) (L : List (Addr × HO)) : Prop where
  ff : Same F0 F
  hh : Same H0 H
  fh : Same F H
  sep : ∀ a, F0 a = none → H0 a ≠ none → F a = none
  led : ∀ q ∈ L, H q.1 = some q.2 ∧ F q.1 = none ∧ H0 q.1 = none
  nd : (L.map (·.1)).Nodup

theorem same_none {H H' : Hp} (s : Same H H') {a : Addr} (h : H' a = none) : H a = none := s.free h
theorem some_ne {H : Hp} {a : Addr} {o : HO} (h : H a = some o) : H a ≠ none := by rw [h]; exact fun q => nomatch q
theorem same_some {H H' : Hp} (s : Same H H') {a : Addr} (h : H a ≠ none) : H' a ≠ none := by
  cases e : H a with
  | none => exact absurd e h
  | some o => rw [s a o e]; exact fun q => nomatch q
theorem same_new {H : Hp} {p : Addr} {o : HO} (h : H p = none) : Same H (upd H p o) := fun a u e => by
  rw [upd_ne (ne_of_none e h)]; exact e
theorem same_mut {H H' : Hp} {p : Addr} {o : HO} (s : Same H H') (h : H p = none) : Same H (upd H' p o) := fun a u e => by
  rw [upd_ne (ne_of_none e h)]; exact s a u e

section
variable {F0 H0 F H F' H' : Hp} {L L1 L2 : List (Addr × HO)} {p : Addr} {o o' : HO}
theorem Zs.start (h : Same F H) : Zs F H F H [] := ⟨Same.refl _, Same.refl _, h, fun _ a _ => a, fun _ q => (nomatch q), List.nodup_nil⟩
theorem Zs.get (Z : Zs F0 H0 F H L) {i : Nat} (h : L[i]? = some (p, o)) : H p = some o := (Z.led (p, o) (List.mem_of_getElem? h)).1
theorem Zs.getF (Z : Zs F0 H0 F H L) {i : Nat} (h : L[i]? = some (p, o)) : F p = none := (Z.led (p, o) (List.mem_of_getElem? h)).2.1
theorem Zs.get0 (Z : Zs F0 H0 F H L) {i : Nat} (h : L[i]? = some (p, o)) : H0 p = none := (Z.led (p, o) (List.mem_of_getElem? h)).2.2
theorem Zs.fix (Z : Zs F0 H0 F H L) {a : Addr} {u : HO} (h : F a = some u) : H a = some u := Z.fh a u h
theorem Zs.alloc (Z : Zs F0 H0 F H L) (h : H p = none) : Zs F0 H0 F (upd H p o) ((p, o) :: L) where
  ff := Z.ff
  hh := same_mut Z.hh (same_none Z.hh h)
  fh := same_mut Z.fh (same_none Z.fh h)
  sep := Z.sep
  led := fun q hq => by
    rcases List.mem_cons.mp hq with rfl | hq
    · exact ⟨upd_same, same_none Z.fh h, same_none Z.hh h⟩
    · obtain ⟨a, b, c⟩ := Z.led q hq
      exact ⟨by rw [upd_ne (ne_of_none a h)]; exact a, b, c⟩
  nd := by
    rw [List.map_cons, List.nodup_cons]
    refine ⟨fun hm => ?_, Z.nd⟩
    obtain ⟨q, hq, e⟩ := List.mem_map.mp hm
    obtain ⟨a, _, _⟩ := Z.led q hq
    have e' : q.1 = p := e
    rw [e', h] at a
    cases a
theorem Zs.sub (Z : Zs F0 H0 F H L) (h : List.Sublist L1 L) : Zs F0 H0 F H L1 where
  ff := Z.ff
  hh := Z.hh
  fh := Z.fh
  sep := Z.sep
  led := fun q hq => Z.led q (h.subset hq)
  nd := (h.map _).nodup Z.nd
theorem Zs.drop (Z : Zs F0 H0 F H (q :: L)) : Zs F0 H0 F H L := Z.sub (List.sublist_cons_self _ _)
theorem Zs.dropAt (Z : Zs F0 H0 F H L) (i : Nat) : Zs F0 H0 F H (L.eraseIdx i) := Z.sub (List.eraseIdx_sublist _ _)
theorem Zs.nil (Z : Zs F0 H0 F H L) : Zs F0 H0 F H [] := Z.sub (List.nil_sublist _)
/-- what was frozen since is forgotten -/
theorem Zs.back (Z : Zs F0 H0 F H L) (h : Same F0 H0) : Zs F0 H0 F0 H [] := ⟨Same.refl _, Z.hh, h.trans Z.hh, fun _ a _ => a, fun _ q => (nomatch q), List.nodup_nil⟩
/-- two places of the ledger are two addresses -/
theorem Zs.ne (Z : Zs F0 H0 F H L) {i j : Nat} {p q : Addr} {o u : HO} (hi : L[i]? = some (p, o)) (hj : L[j]? = some (q, u)) (n : i ≠ j) : p ≠ q := fun e => by
  have a : (L.map (·.1))[i]? = some p := by rw [List.getElem?_map, hi] <;> rfl
  have b : (L.map (·.1))[j]? = some p := by rw [List.getElem?_map, hj, e] <;> rfl
  exact n (nd_ix Z.nd a b)
theorem Zs.setAt (Z : Zs F0 H0 F H L) (i : Nat) (h : L[i]? = some (p, o)) : Zs F0 H0 F (upd H p o') (L.set i (p, o')) where
  ff := Z.ff
  hh := same_mut Z.hh (Z.get0 h)
  fh := same_mut Z.fh (Z.getF h)
  sep := Z.sep
  led := fun q hq => by
    obtain ⟨j, hj⟩ := List.mem_iff_getElem?.mp hq
    rw [List.getElem?_set] at hj
    by_cases e : i = j
    · rw [if_pos e] at hj
      split at hj
      · have e2 := Option.some.inj hj
        subst e2
        exact ⟨upd_same, Z.getF h, Z.get0 h⟩
      · cases hj
    · rw [if_neg e] at hj
      obtain ⟨a, b, c⟩ := Z.led q (List.mem_of_getElem? hj)
      have n : p ≠ q.1 := Z.ne (i := i) (j := j) (q := q.1) (u := q.2) h hj e
      exact ⟨by rw [upd_ne n.symm]; exact a, b, c⟩
  nd := by
    have e : (L.set i (p, o')).map (·.1) = L.map (·.1) := by
      rw [List.map_set]
      refine List.ext_getElem? fun j => ?_
      rw [List.getElem?_set]
      by_cases q : i = j
      · subst q
        rw [if_pos rfl, List.getElem?_map, h]
        split
        · rfl
        · rename_i z
          have := (List.getElem?_eq_some_iff.mp h).1
          rw [List.length_map] at z
          exact absurd this z
      · rw [if_neg q]
    rw [e]
    exact Z.nd
/-- a cell that does not change any more -/
theorem Zs.frzAt (Z : Zs F0 H0 F H L) (i : Nat) (h : L[i]? = some (p, o)) : ∃ F', Zs F0 H0 F' H (L.eraseIdx i) ∧ Same F F' ∧ F' p = some o := by
  have hi := (List.getElem?_eq_some_iff.mp h).1
  have hni : ∀ q ∈ L.eraseIdx i, q.1 ≠ p := fun q hq e => by
    obtain ⟨j, hj⟩ := List.mem_iff_getElem?.mp hq
    rw [List.getElem?_eraseIdx] at hj
    split at hj
    · rename_i lt
      exact Z.ne (i := i) (j := j) (q := q.1) (u := q.2) h hj (by omega) e.symm
    · rename_i lt
      exact Z.ne (i := i) (j := j + 1) (q := q.1) (u := q.2) h hj (by omega) e.symm
  refine ⟨upd F p o, ⟨fun a u e => ?_, Z.hh, fun a u e => ?_, fun a e n => ?_, fun q hq => ?_, ?_⟩, same_new (Z.getF h), upd_same⟩
  · exact same_new (Z.getF h) a u (Z.ff a u e)
  · by_cases q : a = p
    · subst q
      rw [upd_same] at e
      rw [← e]
      exact Z.get h
    · rw [upd_ne q] at e
      exact Z.fh a u e
  · by_cases q : a = p
    · subst q
      exact absurd (Z.get0 h) n
    · rw [upd_ne q]
      exact Z.sep a e n
  · obtain ⟨a, b, c⟩ := Z.led q (List.eraseIdx_subset hq)
    exact ⟨a, by rw [upd_ne (hni q hq)]; exact b, c⟩
  · exact ((List.eraseIdx_sublist _ _).map _).nodup Z.nd
/-- behind a call that changes nothing that stood -/
theorem Zs.call (Z : Zs F0 H0 F H L) (W : Zs F H F' H' []) : Zs F0 H0 F' H' L where
  ff := Z.ff.trans W.ff
  hh := Z.hh.trans W.hh
  fh := W.fh
  sep := fun a e n => W.sep a (Z.sep a e n) (same_some Z.hh n)
  led := fun q hq => by
    obtain ⟨a, b, c⟩ := Z.led q hq
    exact ⟨W.hh _ _ a, W.sep _ b (some_ne a), c⟩
  nd := Z.nd
theorem Zs.ext (Z : Zs F0 H0 F H L) (s : Same H H') : Zs F0 H0 F H' L :=
  Z.call ⟨Same.refl _, s, Z.fh.trans s, fun _ a _ => a, fun _ q => (nomatch q), List.nodup_nil⟩
theorem Zs.trans {F1 H1 : Hp} (Z : Zs F0 H0 F1 H1 []) (W : Zs F1 H1 F H L) : Zs F0 H0 F H L where
  ff := Z.ff.trans W.ff
  hh := Z.hh.trans W.hh
  fh := W.fh
  sep := fun a e n => W.sep a (Z.sep a e n) (same_some Z.hh n)
  led := fun q hq => by
    obtain ⟨a, b, c⟩ := W.led q hq
    exact ⟨a, b, same_none Z.hh c⟩
  nd := W.nd
end

/-! ### data -/
mutual
inductive Td (F : Hp) : V → PyData → Prop
  | non : Td F .non .none
  | bl (b : Bool) : Td F (.bl b) (.bool b)
  | int (i : Int) : Td F (.int i) (.int i)
  | str (x : Str) : Td F (.str x) (.str x)
  | lst {a : Addr} {xs : List V} {ds : List PyData} : F a = some (.lst xs) → TdA F xs ds → Td F (.ref a) (.list ds)
  | tup {a : Addr} {xs : List V} {ds : List PyData} : F a = some (.tup xs) → TdA F xs ds → Td F (.ref a) (.tuple ds)
inductive TdA (F : Hp) : List V → List PyData → Prop
  | nil : TdA F [] []
  | cons {v : V} {vs : List V} {d : PyData} {ds : List PyData} : Td F v d → TdA F vs ds → TdA F (v :: vs) (d :: ds)
end
mutual
theorem Td.mono {F F' : Hp} (s : Same F F') : ∀ (d : PyData) (v : V), Td F v d → Td F' v d
  | .none, _, h => by cases h; exact .non
  | .bool b, _, h => by cases h; exact .bl b
  | .int i, _, h => by cases h; exact .int i
  | .str x, _, h => by cases h; exact .str x
  | .list ds, _, h => by
    cases h with
    | lst hs ha => exact .lst (s _ _ hs) (TdA.mono s ds _ ha)
  | .tuple ds, _, h => by
    cases h with
    | tup hs ha => exact .tup (s _ _ hs) (TdA.mono s ds _ ha)
  | .dict _, _, h => by cases h
theorem TdA.mono {F F' : Hp} (s : Same F F') : ∀ (ds : List PyData) (vs : List V), TdA F vs ds → TdA F' vs ds
  | [], _, h => by cases h; exact .nil
  | d :: ds, _, h => by
    cases h with
    | cons h1 h2 => exact .cons (Td.mono s d _ h1) (TdA.mono s ds _ h2)
end
mutual
theorem Td.dp {K : PySem.W.Frag} {F : Hp} : ∀ (d : PyData) (v : V), Td F v d → Dp K F v d
  | .none, _, h => by cases h; exact .non
  | .bool b, _, h => by cases h; exact .bl b
  | .int i, _, h => by cases h; exact .int i
  | .str x, _, h => by cases h; exact .str x
  | .list ds, _, h => by
    cases h with
    | lst hs ha => exact .lst (SqL.of hs) (TdA.dp ds _ ha)
  | .tuple ds, _, h => by
    cases h with
    | tup hs ha => exact .tup (SqT.of hs) (TdA.dp ds _ ha)
  | .dict _, _, h => by cases h
theorem TdA.dp {K : PySem.W.Frag} {F : Hp} : ∀ (ds : List PyData) (vs : List V), TdA F vs ds → DpAll K F vs ds
  | [], _, h => by cases h; exact .nil
  | d :: ds, _, h => by
    cases h with
    | cons h1 h2 => exact .cons (Td.dp d _ h1) (TdA.dp ds _ h2)
end
section
variable {F F' H : Hp} {v : V} {vs ws : List V} {d : PyData} {ds es : List PyData}
theorem Td.up (h : Td F v d) (s : Same F F') : Td F' v d := Td.mono s d v h
theorem TdA.up (h : TdA F vs ds) (s : Same F F') : TdA F' vs ds := TdA.mono s ds vs h
theorem TdA.len : ∀ {vs : List V} {ds : List PyData}, TdA F vs ds → vs.length = ds.length
  | _, _, .nil => rfl
  | _, _, .cons _ h => by rw [List.length_cons, List.length_cons, TdA.len h]
theorem TdA.append : ∀ {vs ws : List V} {ds es : List PyData}, TdA F vs ds → TdA F ws es → TdA F (vs ++ ws) (ds ++ es)
  | _, _, _, _, .nil, h => h
  | _, _, _, _, .cons h1 h2, h => .cons h1 (TdA.append h2 h)
theorem TdA.snoc (h : TdA F vs ds) (k : Td F v d) : TdA F (vs ++ [v]) (ds ++ [d]) := h.append (.cons k .nil)
theorem TdA.get : ∀ {vs : List V} {ds : List PyData} {i : Nat} {d : PyData}, TdA F vs ds → ds[i]? = some d → ∃ v, vs[i]? = some v ∧ Td F v d
  | _, _, _, _, .nil, h => by simp at h
  | _, _, 0, _, .cons h1 _, h => by simp at h; subst h; exact ⟨_, rfl, h1⟩
  | _, _, i + 1, _, .cons _ h2, h => by
    obtain ⟨v, a, b⟩ := TdA.get (i := i) h2 (by simpa using h)
    exact ⟨v, by simpa using a, b⟩
theorem TdA.at : ∀ {vs : List V} {ds : List PyData} {i : Nat} {v : V}, TdA F vs ds → vs[i]? = some v → ∃ d, ds[i]? = some d ∧ Td F v d
  | _, _, _, _, .nil, h => by simp at h
  | _, _, 0, _, .cons h1 _, h => by simp at h; subst h; exact ⟨_, rfl, h1⟩
  | _, _, i + 1, _, .cons _ h2, h => by
    obtain ⟨v, a, b⟩ := TdA.at (i := i) h2 (by simpa using h)
    exact ⟨v, by simpa using a, b⟩
theorem TdA.set : ∀ {vs : List V} {ds : List PyData} (i : Nat), TdA F vs ds → Td F v d → TdA F (vs.set i v) (ds.set i d)
  | _, _, _, .nil, _ => .nil
  | _, _, 0, .cons _ h2, k => .cons k h2
  | _, _, i + 1, .cons h1 h2, k => .cons h1 (TdA.set i h2 k)
theorem TdA.take : ∀ {vs : List V} {ds : List PyData} (i : Nat), TdA F vs ds → TdA F (vs.take i) (ds.take i)
  | _, _, 0, _ => .nil
  | _, _, _ + 1, .nil => .nil
  | _, _, i + 1, .cons h1 h2 => .cons h1 (TdA.take i h2)
theorem TdA.drop : ∀ {vs : List V} {ds : List PyData} (i : Nat), TdA F vs ds → TdA F (vs.drop i) (ds.drop i)
  | _, _, 0, h => h
  | _, _, _ + 1, .nil => .nil
  | _, _, i + 1, .cons _ h2 => TdA.drop i h2
theorem TdA.of_map {α : Type} {f : α → V} {g : α → PyData} (h : ∀ a, Td F (f a) (g a)) : ∀ l : List α, TdA F (l.map f) (l.map g)
  | [] => .nil
  | a :: l => .cons (h a) (TdA.of_map h l)
theorem TdA.ints (l : List Int) : TdA F (l.map V.int) (l.map PyData.int) := TdA.of_map (fun a => .int a) l
theorem TdA.bools (l : List Bool) : TdA F (l.map V.bl) (l.map PyData.bool) := TdA.of_map (fun a => .bl a) l
theorem TdA.of_ints : ∀ {vs : List V} {l : List Int}, TdA F vs (l.map PyData.int) → vs = l.map V.int
  | _, [], .nil => rfl
  | _, _ :: l, .cons (.int _) h => by rw [List.map_cons, TdA.of_ints h]
theorem TdA.of_bools : ∀ {vs : List V} {l : List Bool}, TdA F vs (l.map PyData.bool) → vs = l.map V.bl
  | _, [], .nil => rfl
  | _, _ :: l, .cons (.bl _) h => by rw [List.map_cons, TdA.of_bools h]
theorem Td.ints_lst {a : Addr} {l : List Int} (h : F a = some (.lst (l.map V.int))) : Td F (.ref a) (.list (l.map PyData.int)) := .lst h (TdA.ints l)
theorem Td.inv_lst (h : Td F v (.list ds)) : ∃ a xs, v = .ref a ∧ F a = some (.lst xs) ∧ TdA F xs ds := by
  cases h with
  | lst a b => exact ⟨_, _, rfl, a, b⟩
theorem Td.inv_tup (h : Td F v (.tuple ds)) : ∃ a xs, v = .ref a ∧ F a = some (.tup xs) ∧ TdA F xs ds := by
  cases h with
  | tup a b => exact ⟨_, _, rfl, a, b⟩
theorem Td.inv_ints {l : List Int} (h : Td F v (.list (l.map PyData.int))) : ∃ a, v = .ref a ∧ F a = some (.lst (l.map V.int)) := by
  obtain ⟨a, xs, rfl, h1, h2⟩ := h.inv_lst
  rw [h2.of_ints] at h1
  exact ⟨a, rfl, h1⟩
theorem Td.inv_int {n : Int} (h : Td F v (.int n)) : v = .int n := by cases h; rfl
theorem Td.inv_bl {n : Bool} (h : Td F v (.bool n)) : v = .bl n := by cases h; rfl
theorem Td.inv_str {n : Str} (h : Td F v (.str n)) : v = .str n := by cases h; rfl
theorem Td.inv_non (h : Td F v .none) : v = .non := by cases h; rfl
end

/-! ### readings, one construct a row -/
section
variable {K : PySem.W.Frag} {σ : St} {H : Hp} {Q : VK} {D : Ends} {t u : TS} {ta tb tc : TE} {tt tu : TT} {v x y : V} {r : R2} {i j : Int} {n : Nat} {b c : Bool}
theorem r_seq (h : t { D with nx := u D } σ H) : tSeq t u D σ H := h
theorem r_next (h : D.nx σ H) : tNext D σ H := h
theorem r_ret (h : ta σ H D.rt) : tRet ta D σ H := h
theorem r_retN (h : D.rt .non H) : tRetN D σ H := h
theorem r_drop (h : ta σ H fun _ H1 => D.nx σ H1) : tDrop ta D σ H := h
theorem r_asg {g : TG} (h : ta σ H fun x H1 => g x σ H1 D.nx) : tAsg ta g D σ H := h
theorem r_gname {Q : St → Hp → Prop} (h : Q (σ.set n (some v)) H) : gName n v σ H Q := h
theorem r_ifS (h : tt σ H fun b H1 => if b = true then t D σ H1 else u D σ H1) : tIfS tt t u D σ H := h
theorem r_var (h : σ[n]? = some (some v)) (k : Q v H) : tVar n σ H Q := ⟨v, h, k⟩
theorem r_c (k : Q v H) : tC v σ H Q := k
theorem r_op (h : ta σ H fun x H1 => tb σ H1 fun y H2 => r x y H2 Q) : tOp r ta tb σ H Q := h
theorem r_I0 {g : Int → Int → V} (k : Q (g i j) H) : rI0 g (.int i) (.int j) H Q := ⟨i, j, rfl, rfl, k⟩
theorem r_I {C : Int → Int → Prop} {g : Int → Int → V} (hc : C i j) (k : Q (g i j) H) : rI C g (.int i) (.int j) H Q := ⟨i, j, rfl, rfl, hc, k⟩
theorem r_mul {g : Int → Int → V} (hc : CMul i j) (k : Q (g i j) H) : rI CMul g (.int i) (.int j) H Q := ⟨i, j, rfl, rfl, hc, k⟩
theorem r_div {g : Int → Int → V} (hc : CDiv i j) (k : Q (g i j) H) : rI CDiv g (.int i) (.int j) H Q := ⟨i, j, rfl, rfl, hc, k⟩
theorem r_mod {g : Int → Int → V} (hc : 0 < j) (k : Q (g i j) H) : rI (fun _ j => 0 < j) g (.int i) (.int j) H Q := ⟨i, j, rfl, rfl, hc, k⟩
theorem dec_vi {i j : Int} : decide (V.int i = V.int j) = decide (i = j) := by
  by_cases e : i = j
  · rw [decide_eq_true e, decide_eq_true (by rw [e])]
  · rw [decide_eq_false e, decide_eq_false (fun q => e (V.int.inj q))]
theorem dec_vs {i j : Str} : decide (V.str i = V.str j) = decide (i = j) := by
  by_cases e : i = j
  · rw [decide_eq_true e, decide_eq_true (by rw [e])]
  · rw [decide_eq_false e, decide_eq_false (fun q => e (V.str.inj q))]
theorem dec_vb {i j : Bool} : decide (V.bl i = V.bl j) = (i == j) := by
  cases i <;> cases j <;> rfl
theorem r_eqI (k : Q (.bl (decide (i = j))) H) : rEq (.int i) (.int j) H Q := ⟨rfl, by rw [dec_vi]; exact k⟩
theorem r_eqS {i j : Str} (k : Q (.bl (decide (i = j))) H) : rEq (.str i) (.str j) H Q := ⟨rfl, by rw [dec_vs]; exact k⟩
theorem r_eqB {i j : Bool} (k : Q (.bl (i == j)) H) : rEq (.bl i) (.bl j) H Q := ⟨rfl, by rw [dec_vb]; exact k⟩
theorem r_neI (k : Q (.bl (!decide (i = j))) H) : rNe (.int i) (.int j) H Q := ⟨rfl, by rw [dec_vi]; exact k⟩
theorem r_neS {i j : Str} (k : Q (.bl (!decide (i = j))) H) : rNe (.str i) (.str j) H Q := ⟨rfl, by rw [dec_vs]; exact k⟩
theorem r_neB {i j : Bool} (k : Q (.bl (!(i == j))) H) : rNe (.bl i) (.bl j) H Q := ⟨rfl, by rw [dec_vb]; exact k⟩
theorem r_bl {P : Bool → Prop} (k : P b) : ∃ k, V.bl b = V.bl k ∧ P k := ⟨b, rfl, k⟩
theorem r_test {Q : Bool → Hp → Prop} (h : ta σ H fun x H' => ∃ k, x = .bl k ∧ Q k H') : tTest ta σ H Q := h
theorem r_tB {Q : Bool → Hp → Prop} (h : ta σ H fun x H' => ∃ k, x = .bl k ∧ Q k H') : tB ta σ H Q := h
theorem r_not {Q : Bool → Hp → Prop} (h : tt σ H fun c H1 => Q (!c) H1) : tNot tt σ H Q := h
theorem r_notV (h : ta σ H fun x H1 => ∃ c, x = .bl c ∧ Q (.bl (!c)) H1) : tNotV ta σ H Q := h
theorem r_and {Q : Bool → Hp → Prop} (h : tt σ H fun c H1 => if c = true then tu σ H1 Q else Q false H1) : tAnd tt tu σ H Q := h
theorem r_or {Q : Bool → Hp → Prop} (h : tt σ H fun c H1 => if c = true then Q true H1 else tu σ H1 Q) : tOr tt tu σ H Q := h
theorem r_andV (h : ta σ H fun x H1 => ∃ c, x = .bl c ∧ if c = true then tb σ H1 Q else Q (.bl false) H1) : tAndV ta tb σ H Q := h
theorem r_orV (h : ta σ H fun x H1 => ∃ c, x = .bl c ∧ if c = true then Q (.bl true) H1 else tb σ H1 Q) : tOrV ta tb σ H Q := h
theorem r_yes {Q : Bool → Hp → Prop} (h : Q true H) : tYes σ H Q := h
theorem r_if {tA : TT} (h : tA σ H fun c H1 => if c = true then ta σ H1 Q else tb σ H1 Q) : tIf tA ta tb σ H Q := h
theorem r_nil {Q : List V → Hp → Prop} (h : Q [] H) : tNil σ H Q := h
theorem r_cons {tr : TA} {Q : List V → Hp → Prop} (h : ta σ H fun x H1 => tr σ H1 fun xs H2 => Q (x :: xs) H2) : tCons ta tr σ H Q := h
/-- a new object is laid -/
def NewO (o : HO) (H : Hp) (Q : VK) : Prop := ∀ p, H p = none → Q (.ref p) (upd H p o)
theorem r_tup {t : TA} (h : t σ H fun xs H1 => xs.length ≤ sizeLine ∧ NewO (.tup xs) H1 Q) : tTup t σ H Q := h
theorem r_lst {t : TA} (h : t σ H fun xs H1 => xs.length ≤ sizeLine ∧ NewO (.lst xs) H1 Q) : tLst t σ H Q := h
theorem r_call {sp : Sp} {dvs : List V} {E : XK} {t : TA} (h : t σ H fun vs H1 => sp (vs ++ dvs) H1 Q E) : tCall sp dvs E t σ H Q := h
theorem r_cb {r : List V → Hp → VK → Prop} {t : TA} (h : t σ H fun vs H1 => r vs H1 Q) : tCB r t σ H Q := h
theorem r_bm {T : String} {r : V → List V → Hp → VK → Prop} {t : TA} (h : ta σ H fun x H1 => tyV K T x H1 ∧ t σ H1 fun xs H2 => r x xs H2 Q) : tBM K T r ta t σ H Q := h
theorem r_bm0 {T : String} {r : V → List V → Hp → VK → Prop} (h : ta σ H fun x H1 => tyV K T x H1 ∧ r x [] H1 Q) : tBM0 K T r ta σ H Q := h
theorem r_isN (k : Q (.bl (decide (x = .non))) H) : (fun x y H Q => y = V.non ∧ Q (.bl (decide (x = .non))) H : R2) x .non H Q := ⟨rfl, k⟩
theorem sz_of {n : Nat} (h : n ≤ 100000) : n ≤ sizeLine := Nat.le_trans h (by decide)
theorem sz0 : ([] : List V).length ≤ sizeLine := Nat.zero_le _
theorem sz1 {a : V} : [a].length ≤ sizeLine := by show 1 ≤ sizeLine; decide
theorem sz2 {a b : V} : [a, b].length ≤ sizeLine := by show 2 ≤ sizeLine; decide
theorem sz3 {a b c : V} : [a, b, c].length ≤ sizeLine := by show 3 ≤ sizeLine; decide
theorem sz5 {a b c d e : V} : [a, b, c, d, e].length ≤ sizeLine := by show 5 ≤ sizeLine; decide
theorem sz_lt {n : Nat} (h : n < 100000) : n < sizeLine := Nat.lt_of_lt_of_le h (by decide)
/-- an if over a decided test -/
theorem ifd {p A B : Prop} [Decidable p] (h1 : p → A) (h2 : ¬ p → B) : if decide p = true then A else B := by
  by_cases h : p
  · rw [if_pos (decide_eq_true h)]; exact h1 h
  · rw [if_neg (by rw [decide_eq_false h]; decide)]; exact h2 h
theorem ifn {p A B : Prop} [Decidable p] (h1 : ¬ p → A) (h2 : p → B) : if (!decide p) = true then A else B := by
  by_cases h : p
  · rw [if_neg (by rw [decide_eq_true h]; decide)]; exact h2 h
  · rw [if_pos (by rw [decide_eq_false h]; rfl)]; exact h1 h
theorem ifb {A B : Prop} (h1 : b = true → A) (h2 : b = false → B) : if b = true then A else B := by
  cases b with
  | true => exact h1 rfl
  | false => exact h2 rfl
theorem ifnb {A B : Prop} (h1 : b = false → A) (h2 : b = true → B) : if (!b) = true then A else B := by
  cases b with
  | true => exact h2 rfl
  | false => exact h1 rfl
theorem ifT {A B : Prop} (h : b = true) (k : A) : if b = true then A else B := by rw [if_pos h]; exact k
theorem ifF {A B : Prop} (h : b = false) (k : B) : if b = true then A else B := by rw [if_neg (by rw [h]; decide)]; exact k
/-- items of a list, a tuple -/
theorem r_ixL {p : Addr} {xs : List V} (hs : SqL K H p xs) (ha : atI xs i = some v) (k : Q v H) : rIxL K (.ref p) (.int i) H Q := ⟨p, xs, i, v, rfl, rfl, hs, ha, k⟩
theorem r_ixT {p : Addr} {xs : List V} (hs : SqT K H p xs) (ha : atI xs i = some v) (k : Q v H) : rIxT K (.ref p) (.int i) H Q := ⟨p, xs, i, v, rfl, rfl, hs, ha, k⟩
theorem at_i {α : Type} {xs : List α} {i : Int} {v : α} (h0 : 0 ≤ i) (h : xs[i.toNat]? = some v) : atI xs i = some v := by
  obtain ⟨k, rfl⟩ := Int.eq_ofNat_of_zero_le h0
  exact atI_nat h
theorem r_inL {neg : Bool} {p : Addr} {xs : List V} (hs : SqL K H p xs) (hx : flatV x = true) (ha : xs.all flatV = true) (k : Q (.bl (if neg then !inV x xs else inV x xs)) H) : rIn K neg x (.ref p) H Q := ⟨p, xs, rfl, .inl hs, hx, ha, k⟩
theorem r_inT {neg : Bool} {p : Addr} {xs : List V} (hs : SqT K H p xs) (hx : flatV x = true) (ha : xs.all flatV = true) (k : Q (.bl (if neg then !inV x xs else inV x xs)) H) : rIn K neg x (.ref p) H Q := ⟨p, xs, rfl, .inr hs, hx, ha, k⟩
/-- data compared -/
theorem r_eqD {d e : PyData} (h1 : Td H x d) (h2 : Td H y e) (s1 : SeqAt.shaped d = true) (s2 : SeqAt.shaped e = true) (k : Q (.bl (PyData.eqv d e)) H) : rEqD K x y H Q := ⟨d, e, Td.dp d x h1, Td.dp e y h2, s1, s2, k⟩
theorem r_neD {d e : PyData} (h1 : Td H x d) (h2 : Td H y e) (s1 : SeqAt.shaped d = true) (s2 : SeqAt.shaped e = true) (k : Q (.bl (!PyData.eqv d e)) H) : rNeD K x y H Q := ⟨d, e, Td.dp d x h1, Td.dp e y h2, s1, s2, k⟩
end
section
variable {F0 H0 F H : Hp} {L : List (Addr × HO)} {Q : VK}
/-- a new object -/
theorem r_mk {o : HO} {A : Prop} (a : A) (Z : Zs F0 H0 F H L) (k : ∀ p H', Zs F0 H0 F H' ((p, o) :: L) → Q (.ref p) H') : A ∧ NewO o H Q := ⟨a, fun p hp => k p _ (Z.alloc hp)⟩
end
end SB
/-! Loops and comprehensions over the state kit; named operators. -/
namespace SB
open PySem L2

/-! ### operators by short names -/
abbrev qAdd : R2 := rI0 fun i j => .int (i + j)
abbrev qSub : R2 := rI0 fun i j => .int (i - j)
abbrev qMul : R2 := rI CMul fun i j => .int (i * j)
abbrev qDiv : R2 := rI CDiv fun i j => .int (i / j)
abbrev qMod : R2 := rI (fun _ j => 0 < j) fun i j => .int (i % j)
abbrev qLt : R2 := rI0 fun i j => .bl (decide (i < j))
abbrev qLe : R2 := rI0 fun i j => .bl (decide (i ≤ j))
abbrev qGt : R2 := rI0 fun i j => .bl (decide (j < i))
abbrev qGe : R2 := rI0 fun i j => .bl (decide (j ≤ i))
def qIsN : R2 := fun x y H Q => y = .non ∧ Q (.bl (decide (x = .non))) H
def qNotN : R2 := fun x y H Q => y = .non ∧ Q (.bl (!decide (x = .non))) H
def qLen (K : PySem.W.Frag) : List V → Hp → VK → Prop := fun xs H Q => ∃ p ys, xs = [.ref p] ∧ (SqL K H p ys ∨ SqT K H p ys) ∧ Q (.int ys.length) H
def qListOf (K : PySem.W.Frag) : List V → Hp → VK → Prop := fun xs H Q => ∃ p ys, xs = [.ref p] ∧ (SqL K H p ys ∨ SqT K H p ys) ∧ ∀ l, H l = none → Q (.ref l) (upd H l (.lst ys))
def qInt1 : List V → Hp → VK → Prop := fun xs H Q => (∃ i, xs = [.int i] ∧ Q (.int i) H) ∨ ∃ k, xs = [.bl k] ∧ Q (.int (if k then 1 else 0)) H
section
variable {X : Cx}
theorem op_isNq : OpR X (compareOp .Is) qIsN := op_isN
theorem op_notNq : OpR X (compareOp .IsNot) qNotN := op_notN
theorem call_lenq : CallR X (.builtin "len") (qLen X.K) := call_len_seq
theorem call_listq : CallR X (.type "list") (qListOf X.K) := call_list_of
theorem call_int1q : CallR X (.type "int") qInt1 := call_int1
end
section
variable {K : PySem.W.Frag} {σ : St} {H : Hp} {Q : VK} {x v : V} {p : Addr} {ys : List V} {i : Int} {b : Bool}
theorem r_qIsN (k : Q (.bl (decide (x = .non))) H) : qIsN x .non H Q := ⟨rfl, k⟩
theorem r_qNotN (k : Q (.bl (!decide (x = .non))) H) : qNotN x .non H Q := ⟨rfl, k⟩
theorem r_qIsN_t (k : Q (.bl true) H) : qIsN .non .non H Q := ⟨rfl, k⟩
theorem r_lenL (h : SqL K H p ys) (k : Q (.int (ys.length : Int)) H) : qLen K [.ref p] H Q := ⟨p, ys, rfl, .inl h, k⟩
theorem r_lenT (h : SqT K H p ys) (k : Q (.int (ys.length : Int)) H) : qLen K [.ref p] H Q := ⟨p, ys, rfl, .inr h, k⟩
theorem r_listL {F0 H0 F : Hp} {L : List (Addr × HO)} (h : SqL K H p ys) (Z : Zs F0 H0 F H L) (k : ∀ l H', Zs F0 H0 F H' ((l, .lst ys) :: L) → Q (.ref l) H') : qListOf K [.ref p] H Q := ⟨p, ys, rfl, .inl h, fun l hl => k l _ (Z.alloc hl)⟩
theorem r_intB (k : Q (.int (if b then 1 else 0)) H) : qInt1 [.bl b] H Q := .inr ⟨b, rfl, k⟩
theorem r_intI (k : Q (.int i) H) : qInt1 [.int i] H Q := .inl ⟨i, rfl, k⟩
end

/-! ### a list's methods over the ledger -/
section
variable {K : PySem.W.Frag} {F0 H0 F H : Hp} {L : List (Addr × HO)} {Q : VK} {l b : Addr} {xs zs : List V} {y : V} {i : Nat}
theorem ty_l (h : SqL K H l xs) : tyV K "list" (.ref l) H := .inl ⟨rfl, _, h⟩
theorem r_append (i : Nat) (Z : Zs F0 H0 F H L) (h : L[i]? = some (l, .lst xs)) (hz : xs.length < 100000) (k : ∀ H', Zs F0 H0 F H' (L.set i (l, .lst (xs ++ [y]))) → Q .non H') : rAppend (.ref l) [y] H Q :=
  ⟨l, xs, y, rfl, rfl, Z.get h, sz_lt hz, k _ (Z.setAt i h)⟩
theorem r_extend (i : Nat) (Z : Zs F0 H0 F H L) (h : L[i]? = some (l, .lst xs)) (hb : H b = some (.lst zs)) (hz : xs.length + zs.length ≤ 100000) (k : ∀ H', Zs F0 H0 F H' (L.set i (l, .lst (xs ++ zs))) → Q .non H') : rExtend (.ref l) [.ref b] H Q :=
  ⟨l, b, xs, zs, rfl, rfl, Z.get h, hb, sz_of hz, k _ (Z.setAt i h)⟩
theorem r_setL (i : Nat) {j : Nat} {v : V} {c : Int} {Q : Hp → Prop} (Z : Zs F0 H0 F H L) (h : L[i]? = some (l, .lst xs)) (hc : c = (j : Int)) (hj : j < xs.length) (k : ∀ H', Zs F0 H0 F H' (L.set i (l, .lst (xs.set j v))) → Q H') : rSetL (.ref l) (.int c) v H Q := by
  subst hc
  refine ⟨l, xs, (j : Int), j, rfl, rfl, Z.get h, ?_, k _ (Z.setAt i h)⟩
  unfold ixN
  rw [if_pos (by omega), if_pos (by omega)]
  simp
theorem r_cat {a : Addr} (Z : Zs F0 H0 F H L) (ha : H a = some (.lst xs)) (hb : H b = some (.lst zs)) (hz : xs.length + zs.length ≤ 100000) (k : ∀ p H', Zs F0 H0 F H' ((p, .lst (xs ++ zs)) :: L) → Q (.ref p) H') : rCat (.ref a) (.ref b) H Q :=
  ⟨a, b, xs, zs, rfl, rfl, ha, hb, sz_of hz, fun p hp => k p _ (Z.alloc hp)⟩
theorem r_rep {a : Addr} {n : Int} (Z : Zs F0 H0 F H L) (ha : H a = some (.lst xs)) (h0 : 0 ≤ n) (h1 : n ≤ 100000) (hz : xs.length * n.toNat ≤ 100000) (k : ∀ p H', Zs F0 H0 F H' ((p, .lst (List.flatten (List.replicate n.toNat xs))) :: L) → Q (.ref p) H') : rRep (.ref a) (.int n) H Q := by
  refine ⟨a, n, xs, rfl, rfl, ha, by omega, by omega, sz_of hz, fun p hp => ?_⟩
  exact k p _ (Z.alloc hp)
theorem r_slL {a : Addr} {lo hi : Option Int} (Z : Zs F0 H0 F H L) (ha : SqL K H a xs) (k : ∀ p H', Zs F0 H0 F H' ((p, .lst (cutV xs lo hi)) :: L) → Q (.ref p) H') : rSlL K (.ref a) lo hi H Q := ⟨a, xs, rfl, ha, fun p hp => k p _ (Z.alloc hp)⟩
end

/-! ### for loops -/
/-- what a for over range(n) asks behind its argument -/
def FR1 (j : Nat) (tb : TS) (D : Ends) (σ : St) (vs : List V) (H1 : Hp) : Prop := ∃ n : Int, vs = [.int n] ∧ -(2 ^ 62) ≤ n ∧ n < 2 ^ 62 ∧ ∃ W : Nat → Nat → St → Hp → Prop, (∃ m, W 0 m σ H1) ∧ ∀ i m σ H, W i m σ H →
  ((Itr 0 n.toNat).stop i H ∧ D.nx σ H) ∨ ((Itr 0 n.toNat).go i H ∧ ∃ N : St → Hp → Prop, (∀ σ' H', N σ' H' → ∃ m', m' < m ∧ W (i + 1) m' σ' H') ∧ ∀ x H', (Itr 0 n.toNat).yld i H x H' → gName j x σ H' fun σ2 H2 => tb { D with nx := N, ct := N, bk := D.nx } σ2 H2)
def FR2 (j : Nat) (tb : TS) (D : Ends) (σ : St) (vs : List V) (H1 : Hp) : Prop := ∃ lo n : Int, vs = [.int lo, .int n] ∧ (-(2 ^ 62) ≤ lo ∧ lo < 2 ^ 62 ∧ -(2 ^ 62) ≤ n ∧ n < 2 ^ 62) ∧ ∃ W : Nat → Nat → St → Hp → Prop, (∃ m, W 0 m σ H1) ∧ ∀ i m σ H, W i m σ H →
  ((Itr lo (n - lo).toNat).stop i H ∧ D.nx σ H) ∨ ((Itr lo (n - lo).toNat).go i H ∧ ∃ N : St → Hp → Prop, (∀ σ' H', N σ' H' → ∃ m', m' < m ∧ W (i + 1) m' σ' H') ∧ ∀ x H', (Itr lo (n - lo).toNat).yld i H x H' → gName j x σ H' fun σ2 H2 => tb { D with nx := N, ct := N, bk := D.nx } σ2 H2)
/-- .. a for over a list -/
def FRL (K : PySem.W.Frag) (g : TG) (tb : TS) (D : Ends) (σ : St) (x : V) (H1 : Hp) : Prop := ∃ a, x = .ref a ∧ (∃ xs, SqL K H1 a xs) ∧ ∃ W : Nat → Nat → St → Hp → Prop, (∃ m, W 0 m σ H1) ∧ ∀ i m σ H, W i m σ H →
  ((Itl K a).stop i H ∧ D.nx σ H) ∨ ((Itl K a).go i H ∧ ∃ N : St → Hp → Prop, (∀ σ' H', N σ' H' → ∃ m', m' < m ∧ W (i + 1) m' σ' H') ∧ ∀ x H', (Itl K a).yld i H x H' → g x σ H' fun σ2 H2 => tb { D with nx := N, ct := N, bk := D.nx } σ2 H2)
/-- .. a for over a tuple -/
def FRT (K : PySem.W.Frag) (g : TG) (tb : TS) (D : Ends) (σ : St) (x : V) (H1 : Hp) : Prop := ∃ a, x = .ref a ∧ (∃ xs, SqT K H1 a xs) ∧ ∃ W : Nat → Nat → St → Hp → Prop, (∃ m, W 0 m σ H1) ∧ ∀ i m σ H, W i m σ H →
  ((Itt K a).stop i H ∧ D.nx σ H) ∨ ((Itt K a).go i H ∧ ∃ N : St → Hp → Prop, (∀ σ' H', N σ' H' → ∃ m', m' < m ∧ W (i + 1) m' σ' H') ∧ ∀ x H', (Itt K a).yld i H x H' → g x σ H' fun σ2 H2 => tb { D with nx := N, ct := N, bk := D.nx } σ2 H2)
/-- .. a for over enumerate(list) -/
def FRE (K : PySem.W.Frag) (g : TG) (tb : TS) (D : Ends) (σ : St) (vs : List V) (H1 : Hp) : Prop := ∃ a xs, vs = [.ref a] ∧ SqL K H1 a xs ∧ ∃ W : Nat → Nat → St → Hp → Prop, (∃ m, W 0 m σ H1) ∧ ∀ i m σ H, W i m σ H →
  ((Ite K a).stop i H ∧ D.nx σ H) ∨ ((Ite K a).go i H ∧ ∃ N : St → Hp → Prop, (∀ σ' H', N σ' H' → ∃ m', m' < m ∧ W (i + 1) m' σ' H') ∧ ∀ x H', (Ite K a).yld i H x H' → g x σ H' fun σ2 H2 => tb { D with nx := N, ct := N, bk := D.nx } σ2 H2)
section
variable {K : PySem.W.Frag} {σ : St} {H : Hp} {Q : VK} {D : Ends} {ta : TA} {te : TE} {tb : TS} {j : Nat} {g : TG} {a : Addr} {xs : List V}
theorem r_forR1 (h : ta σ H (FR1 j tb D σ)) : tFor (iRng1 ta) (gName j) tb D σ H := h
theorem r_forR2 (h : ta σ H (FR2 j tb D σ)) : tFor (iRng2 ta) (gName j) tb D σ H := h
theorem r_forL (h : te σ H (FRL K g tb D σ)) : tFor (iList K te) g tb D σ H := h
theorem r_forT (h : te σ H (FRT K g tb D σ)) : tFor (iTup K te) g tb D σ H := h
theorem r_forE (h : ta σ H (FRE K g tb D σ)) : tFor (iEnum K ta) g tb D σ H := h
theorem r_rng1 {n : Int} (hn : 0 ≤ n ∧ n ≤ 100000) (Pv : Nat → St → Hp → Prop) (h0 : Pv 0 σ H)
    (hs : ∀ (i : Nat) σ' H', (i : Int) < n → Pv i σ' H' → tb { D with nx := Pv (i + 1), ct := Pv (i + 1), bk := D.nx } (σ'.set j (some (.int (i : Int)))) H')
    (hd : ∀ σ' H', Pv n.toNat σ' H' → D.nx σ' H') : FR1 j tb D σ [.int n] H :=
  ⟨n, rfl, by omega, by omega, for_range (lo := 0) (n := n.toNat) Pv h0 (fun i σ' H' hi p => by
    have e0 : (0 : Int) + (i : Int) = (i : Int) := Int.zero_add _
    show tb { D with nx := Pv (i + 1), ct := Pv (i + 1), bk := D.nx } (σ'.set j (some (.int ((0 : Int) + (i : Int))))) H'
    rw [e0]
    exact hs i σ' H' (by omega) p) hd⟩
theorem r_rng2 {lo n : Int} (hn : 0 ≤ lo ∧ lo ≤ 100000 ∧ -100000 ≤ n ∧ n ≤ 100000) (Pv : Nat → St → Hp → Prop) (h0 : Pv 0 σ H)
    (hs : ∀ (i : Nat) σ' H', lo + (i : Int) < n → Pv i σ' H' → tb { D with nx := Pv (i + 1), ct := Pv (i + 1), bk := D.nx } (σ'.set j (some (.int (lo + (i : Int))))) H')
    (hd : ∀ σ' H', Pv (n - lo).toNat σ' H' → D.nx σ' H') : FR2 j tb D σ [.int lo, .int n] H :=
  ⟨lo, n, rfl, ⟨by omega, by omega, by omega, by omega⟩, for_range (lo := lo) (n := (n - lo).toNat) Pv h0 (fun i σ' H' hi p => hs i σ' H' (by omega) p) hd⟩
theorem r_lstI (hx : SqL K H a xs) (Pv : Nat → St → Hp → Prop) (h0 : Pv 0 σ H) (hl : ∀ i σ' H', i ≤ xs.length → Pv i σ' H' → SqL K H' a xs)
    (hs : ∀ i x σ' H', xs[i]? = some x → Pv i σ' H' → g x σ' H' fun σ2 H2 => tb { D with nx := Pv (i + 1), ct := Pv (i + 1), bk := D.nx } σ2 H2)
    (hd : ∀ σ' H', Pv xs.length σ' H' → D.nx σ' H') : FRL K g tb D σ (.ref a) H := ⟨a, rfl, ⟨xs, hx⟩, for_list Pv h0 hl hs hd⟩
theorem r_tupI (hx : SqT K H a xs) (Pv : Nat → St → Hp → Prop) (h0 : Pv 0 σ H) (hl : ∀ i σ' H', i ≤ xs.length → Pv i σ' H' → SqT K H' a xs)
    (hs : ∀ i x σ' H', xs[i]? = some x → Pv i σ' H' → g x σ' H' fun σ2 H2 => tb { D with nx := Pv (i + 1), ct := Pv (i + 1), bk := D.nx } σ2 H2)
    (hd : ∀ σ' H', Pv xs.length σ' H' → D.nx σ' H') : FRT K g tb D σ (.ref a) H := ⟨a, rfl, ⟨xs, hx⟩, for_tup Pv h0 hl hs hd⟩
theorem r_enumI (hx : SqL K H a xs) (Pv : Nat → St → Hp → Prop) (h0 : Pv 0 σ H) (hl : ∀ i σ' H', i ≤ xs.length → Pv i σ' H' → SqL K H' a xs)
    (hs : ∀ i x T σ' H', xs[i]? = some x → Pv i σ' H' → H' T = none → g (.ref T) σ' (upd H' T (.tup [.int (i : Nat), x])) fun σ2 H2 => tb { D with nx := Pv (i + 1), ct := Pv (i + 1), bk := D.nx } σ2 H2)
    (hd : ∀ σ' H', Pv xs.length σ' H' → D.nx σ' H') : FRE K g tb D σ [.ref a] H := by
  refine ⟨a, xs, rfl, hx, fun i m σ H => m = xs.length - i ∧ i ≤ xs.length ∧ Pv i σ H, ⟨xs.length, by simp, Nat.zero_le _, h0⟩, ?_⟩
  rintro i m σ H ⟨rfl, hi, p⟩
  have q := hl i σ H hi p
  by_cases hlt : i < xs.length
  · refine .inr ⟨⟨xs, xs[i], q, by simp [hlt]⟩, Pv (i + 1), fun σ' H' p' => ⟨xs.length - (i + 1), by omega, rfl, hlt, p'⟩, fun x H' y => ?_⟩
    obtain ⟨T, x', rfl, hT, rfl, hx'⟩ := y
    exact hs i x' T σ H (hx' xs q) p hT
  · have e : i = xs.length := by omega
    subst e
    exact .inl ⟨⟨xs, q, Nat.le_refl _⟩, hd σ H p⟩
/-- a while: W falls -/
theorem r_while {tc : TT} (W : Nat → St → Hp → Prop) (m0 : Nat) (h0 : W m0 σ H)
    (hs : ∀ m σ' H', W m σ' H' → tc σ' H' fun b H1 => if b = true then ∃ N : St → Hp → Prop, (∀ σ2 H2, N σ2 H2 → ∃ m', m' < m ∧ W m' σ2 H2) ∧ tb { D with nx := N, ct := N, bk := D.nx } σ' H1 else D.nx σ' H1) : tWhile tc tb D σ H := ⟨W, ⟨m0, h0⟩, hs⟩
end

/-! ### comprehensions -/
def LR1 (j : Nat) (tt : TT) (te : TE) (vs : List Nat) (σ : St) (Q : VK) (us : List V) (H1 : Hp) : Prop := ∃ n : Int, us = [.int n] ∧ -(2 ^ 62) ≤ n ∧ n < 2 ^ 62 ∧ ∀ D, H1 D = none → ∃ W : Nat → Nat → Hp → Prop, (∃ m, W 0 m (upd H1 D (.lst []))) ∧ ∀ i m H, W i m H →
  ((Itr 0 n.toNat).stop i H ∧ Q (.ref D) H) ∨ ((Itr 0 n.toNat).go i H ∧ ∃ Nx : Hp → Prop, (∀ H', Nx H' → ∃ m', m' < m ∧ W (i + 1) m' H') ∧ ∀ x H', (Itr 0 n.toNat).yld i H x H' → gName j x (wipe σ vs) H' fun σ2 H2 => wipe σ2 vs = wipe σ vs ∧ tt σ2 H2 fun b H3 =>
    if b = true then te σ2 H3 fun y H4 => ∃ acc, H4 D = some (.lst acc) ∧ acc.length < sizeLine ∧ Nx (upd H4 D (.lst (acc ++ [y]))) else Nx H3)
def LRL (K : PySem.W.Frag) (g : TG) (tt : TT) (te : TE) (vs : List Nat) (σ : St) (Q : VK) (x : V) (H1 : Hp) : Prop := ∃ a, x = .ref a ∧ (∃ xs, SqL K H1 a xs) ∧ ∀ D, H1 D = none → ∃ W : Nat → Nat → Hp → Prop, (∃ m, W 0 m (upd H1 D (.lst []))) ∧ ∀ i m H, W i m H →
  ((Itl K a).stop i H ∧ Q (.ref D) H) ∨ ((Itl K a).go i H ∧ ∃ Nx : Hp → Prop, (∀ H', Nx H' → ∃ m', m' < m ∧ W (i + 1) m' H') ∧ ∀ x H', (Itl K a).yld i H x H' → g x (wipe σ vs) H' fun σ2 H2 => wipe σ2 vs = wipe σ vs ∧ tt σ2 H2 fun b H3 =>
    if b = true then te σ2 H3 fun y H4 => ∃ acc, H4 D = some (.lst acc) ∧ acc.length < sizeLine ∧ Nx (upd H4 D (.lst (acc ++ [y]))) else Nx H3)
def LRT (K : PySem.W.Frag) (g : TG) (tt : TT) (te : TE) (vs : List Nat) (σ : St) (Q : VK) (x : V) (H1 : Hp) : Prop := ∃ a, x = .ref a ∧ (∃ xs, SqT K H1 a xs) ∧ ∀ D, H1 D = none → ∃ W : Nat → Nat → Hp → Prop, (∃ m, W 0 m (upd H1 D (.lst []))) ∧ ∀ i m H, W i m H →
  ((Itt K a).stop i H ∧ Q (.ref D) H) ∨ ((Itt K a).go i H ∧ ∃ Nx : Hp → Prop, (∀ H', Nx H' → ∃ m', m' < m ∧ W (i + 1) m' H') ∧ ∀ x H', (Itt K a).yld i H x H' → g x (wipe σ vs) H' fun σ2 H2 => wipe σ2 vs = wipe σ vs ∧ tt σ2 H2 fun b H3 =>
    if b = true then te σ2 H3 fun y H4 => ∃ acc, H4 D = some (.lst acc) ∧ acc.length < sizeLine ∧ Nx (upd H4 D (.lst (acc ++ [y]))) else Nx H3)
def LRE (K : PySem.W.Frag) (g : TG) (tt : TT) (te : TE) (vs : List Nat) (σ : St) (Q : VK) (us : List V) (H1 : Hp) : Prop := ∃ a xs, us = [.ref a] ∧ SqL K H1 a xs ∧ ∀ D, H1 D = none → ∃ W : Nat → Nat → Hp → Prop, (∃ m, W 0 m (upd H1 D (.lst []))) ∧ ∀ i m H, W i m H →
  ((Ite K a).stop i H ∧ Q (.ref D) H) ∨ ((Ite K a).go i H ∧ ∃ Nx : Hp → Prop, (∀ H', Nx H' → ∃ m', m' < m ∧ W (i + 1) m' H') ∧ ∀ x H', (Ite K a).yld i H x H' → g x (wipe σ vs) H' fun σ2 H2 => wipe σ2 vs = wipe σ vs ∧ tt σ2 H2 fun b H3 =>
    if b = true then te σ2 H3 fun y H4 => ∃ acc, H4 D = some (.lst acc) ∧ acc.length < sizeLine ∧ Nx (upd H4 D (.lst (acc ++ [y]))) else Nx H3)
/-- what stands between the turns: the list made so far at Dl, the frozen part F', the ledger L -/
def CW (F0 H0 F : Hp) (L : List (Addr × HO)) (P : Nat → List V → Hp → Prop) (Dl : Addr) (i : Nat) (H' : Hp) : Prop := ∃ F' acc, Zs F0 H0 F' H' ((Dl, .lst acc) :: L) ∧ Same F F' ∧ acc.length ≤ i ∧ P i acc F'
/-- what the element's value is wanted for -/
def CY (F0 H0 F : Hp) (L : List (Addr × HO)) (P : Nat → List V → Hp → Prop) (Dl : Addr) (i : Nat) (y : V) (H4 : Hp) : Prop := ∃ acc, H4 Dl = some (.lst acc) ∧ acc.length < sizeLine ∧ CW F0 H0 F L P Dl (i + 1) (upd H4 Dl (.lst (acc ++ [y])))
section
variable {K : PySem.W.Frag} {σ : St} {F0 H0 F H : Hp} {L : List (Addr × HO)} {Q : VK} {ta : TA} {te tl : TE} {tt : TT} {vs : List Nat} {j : Nat} {g : TG} {a : Addr} {xs : List V} {P : Nat → List V → Hp → Prop}
theorem r_lcR1 (h : ta σ H (LR1 j tt te vs σ Q)) : tLc (iRng1 ta) (gName j) tt te vs σ H Q := h
theorem r_lcL (h : tl σ H (LRL K g tt te vs σ Q)) : tLc (iList K tl) g tt te vs σ H Q := h
theorem r_lcT (h : tl σ H (LRT K g tt te vs σ Q)) : tLc (iTup K tl) g tt te vs σ H Q := h
theorem r_lcE (h : ta σ H (LRE K g tt te vs σ Q)) : tLc (iEnum K ta) g tt te vs σ H Q := h
theorem cy {Dl : Addr} {i : Nat} {y : V} {F4 H4 : Hp} {acc : List V} (Z : Zs F0 H0 F4 H4 ((Dl, .lst acc) :: L)) (s : Same F F4) (hl : acc.length ≤ i) (hi : i < 100000) (p : P (i + 1) (acc ++ [y]) F4) : CY F0 H0 F L P Dl i y H4 :=
  ⟨acc, Z.get (i := 0) rfl, sz_lt (by omega), F4, acc ++ [y], Z.setAt 0 rfl, s, by rw [List.length_append, List.length_singleton]; omega, p⟩
theorem cn {Dl : Addr} {i : Nat} {F4 H4 : Hp} {acc : List V} (Z : Zs F0 H0 F4 H4 ((Dl, .lst acc) :: L)) (s : Same F F4) (hl : acc.length ≤ i) (p : P (i + 1) acc F4) : CW F0 H0 F L P Dl (i + 1) H4 := ⟨F4, acc, Z, s, by omega, p⟩
theorem lc_rng {n : Int} (hn : 0 ≤ n ∧ n ≤ 100000) (Z : Zs F0 H0 F H L) (P : Nat → List V → Hp → Prop) (hw : ∀ x, wipe ((wipe σ vs).set j (some x)) vs = wipe σ vs) (h0 : P 0 [] F)
    (hs : ∀ (i : Nat) Dl F' H' acc, (i : Int) < n → Zs F0 H0 F' H' ((Dl, .lst acc) :: L) → Same F F' → acc.length ≤ i → P i acc F' →
      tt ((wipe σ vs).set j (some (.int (i : Int)))) H' fun b H3 => if b = true then te ((wipe σ vs).set j (some (.int (i : Int)))) H3 (CY F0 H0 F L P Dl i) else CW F0 H0 F L P Dl (i + 1) H3)
    (hd : ∀ Dl F' H' acc, Zs F0 H0 F' H' ((Dl, .lst acc) :: L) → Same F F' → P n.toNat acc F' → Q (.ref Dl) H') : LR1 j tt te vs σ Q [.int n] H :=
  ⟨n, rfl, by omega, by omega, fun Dl hD => lc_range (lo := 0) (n := n.toNat) (CW F0 H0 F L P Dl) ⟨F, [], Z.alloc hD, Same.refl _, Nat.le_refl _, h0⟩ (fun i H' hi p => by
    obtain ⟨F', acc, Z', s', hl, p'⟩ := p
    have e0 : (0 : Int) + (i : Int) = (i : Int) := Int.zero_add _
    show wipe ((wipe σ vs).set j (some (.int ((0 : Int) + (i : Int))))) vs = wipe σ vs ∧ tt ((wipe σ vs).set j (some (.int ((0 : Int) + (i : Int))))) H' fun b H3 => if b = true then te ((wipe σ vs).set j (some (.int ((0 : Int) + (i : Int))))) H3 (CY F0 H0 F L P Dl i) else CW F0 H0 F L P Dl (i + 1) H3
    rw [e0]
    exact ⟨hw _, hs i Dl F' H' acc (by omega) Z' s' hl p'⟩) (fun H' p => by
    obtain ⟨F', acc, Z', s', hl, p'⟩ := p
    exact hd Dl F' H' acc Z' s' p')⟩
theorem lc_lst (hx : SqL K H a xs) (Z : Zs F0 H0 F H L) (P : Nat → List V → Hp → Prop) (h0 : P 0 [] F) (hsrc : ∀ F' H', Zs F0 H0 F' H' L → Same F F' → SqL K H' a xs)
    (hs : ∀ (i : Nat) x Dl F' H' acc, xs[i]? = some x → Zs F0 H0 F' H' ((Dl, .lst acc) :: L) → Same F F' → acc.length ≤ i → P i acc F' →
      g x (wipe σ vs) H' fun σ2 H2 => wipe σ2 vs = wipe σ vs ∧ tt σ2 H2 fun b H3 => if b = true then te σ2 H3 (CY F0 H0 F L P Dl i) else CW F0 H0 F L P Dl (i + 1) H3)
    (hd : ∀ Dl F' H' acc, Zs F0 H0 F' H' ((Dl, .lst acc) :: L) → Same F F' → P xs.length acc F' → Q (.ref Dl) H') : LRL K g tt te vs σ Q (.ref a) H :=
  ⟨a, rfl, ⟨xs, hx⟩, fun Dl hD => lc_list (xs := xs) (CW F0 H0 F L P Dl) ⟨F, [], Z.alloc hD, Same.refl _, Nat.le_refl _, h0⟩ (fun i H' hi p => by
    obtain ⟨F', acc, Z', s', hl, p'⟩ := p
    exact hsrc F' H' Z'.drop s') (fun i x H' hi p => by
    obtain ⟨F', acc, Z', s', hl, p'⟩ := p
    exact hs i x Dl F' H' acc hi Z' s' hl p') (fun H' p => by
    obtain ⟨F', acc, Z', s', hl, p'⟩ := p
    exact hd Dl F' H' acc Z' s' p')⟩
theorem lc_tpl (hx : SqT K H a xs) (Z : Zs F0 H0 F H L) (P : Nat → List V → Hp → Prop) (h0 : P 0 [] F) (hsrc : ∀ F' H', Zs F0 H0 F' H' L → Same F F' → SqT K H' a xs)
    (hs : ∀ (i : Nat) x Dl F' H' acc, xs[i]? = some x → Zs F0 H0 F' H' ((Dl, .lst acc) :: L) → Same F F' → acc.length ≤ i → P i acc F' →
      g x (wipe σ vs) H' fun σ2 H2 => wipe σ2 vs = wipe σ vs ∧ tt σ2 H2 fun b H3 => if b = true then te σ2 H3 (CY F0 H0 F L P Dl i) else CW F0 H0 F L P Dl (i + 1) H3)
    (hd : ∀ Dl F' H' acc, Zs F0 H0 F' H' ((Dl, .lst acc) :: L) → Same F F' → P xs.length acc F' → Q (.ref Dl) H') : LRT K g tt te vs σ Q (.ref a) H :=
  ⟨a, rfl, ⟨xs, hx⟩, fun Dl hD => lc_tup (xs := xs) (CW F0 H0 F L P Dl) ⟨F, [], Z.alloc hD, Same.refl _, Nat.le_refl _, h0⟩ (fun i H' hi p => by
    obtain ⟨F', acc, Z', s', hl, p'⟩ := p
    exact hsrc F' H' Z'.drop s') (fun i x H' hi p => by
    obtain ⟨F', acc, Z', s', hl, p'⟩ := p
    exact hs i x Dl F' H' acc hi Z' s' hl p') (fun H' p => by
    obtain ⟨F', acc, Z', s', hl, p'⟩ := p
    exact hd Dl F' H' acc Z' s' p')⟩
theorem lc_enm (hx : SqL K H a xs) (Z : Zs F0 H0 F H L) (P : Nat → List V → Hp → Prop) (h0 : P 0 [] F) (hsrc : ∀ F' H', Zs F0 H0 F' H' L → Same F F' → SqL K H' a xs)
    (hs : ∀ (i : Nat) x T Dl F' H' acc, xs[i]? = some x → Zs F0 H0 F' H' ((T, .tup [.int (i : Nat), x]) :: (Dl, .lst acc) :: L) → Same F F' → acc.length ≤ i → P i acc F' →
      g (.ref T) (wipe σ vs) H' fun σ2 H2 => wipe σ2 vs = wipe σ vs ∧ tt σ2 H2 fun b H3 => if b = true then te σ2 H3 (CY F0 H0 F L P Dl i) else CW F0 H0 F L P Dl (i + 1) H3)
    (hd : ∀ Dl F' H' acc, Zs F0 H0 F' H' ((Dl, .lst acc) :: L) → Same F F' → P xs.length acc F' → Q (.ref Dl) H') : LRE K g tt te vs σ Q [.ref a] H := by
  refine ⟨a, xs, rfl, hx, fun Dl hD => ⟨fun i m H => m = xs.length - i ∧ i ≤ xs.length ∧ CW F0 H0 F L P Dl i H, ⟨xs.length, rfl, Nat.zero_le _, F, [], Z.alloc hD, Same.refl _, Nat.le_refl _, h0⟩, ?_⟩⟩
  rintro i m H' ⟨rfl, hi, p⟩
  obtain ⟨F', acc, Z', s', hl, p'⟩ := p
  have q := hsrc F' H' Z'.drop s'
  by_cases hlt : i < xs.length
  · refine .inr ⟨⟨xs, xs[i], q, by simp [hlt]⟩, CW F0 H0 F L P Dl (i + 1), fun H'' p'' => ⟨xs.length - (i + 1), by omega, rfl, hlt, p''⟩, fun x H'' y => ?_⟩
    obtain ⟨T, x', rfl, hT, rfl, hx'⟩ := y
    exact hs i x' T Dl F' _ acc (hx' xs q) (Z'.alloc hT) s' hl p'
  · have e : i = xs.length := by omega
    subst e
    exact .inl ⟨⟨xs, q, Nat.le_refl _⟩, hd Dl F' H' acc Z' s' p'⟩
end
end SB
/-! Promises by the number of arguments; more readings; a result that is data. -/
namespace SB
open PySem L2
def sp1 (f : V → Hp → VK → XK → Prop) : Sp := fun vs H Q E => ∃ a, vs = [a] ∧ f a H Q E
def sp2 (f : V → V → Hp → VK → XK → Prop) : Sp := fun vs H Q E => ∃ a b, vs = [a, b] ∧ f a b H Q E
def sp3 (f : V → V → V → Hp → VK → XK → Prop) : Sp := fun vs H Q E => ∃ a b c, vs = [a, b, c] ∧ f a b c H Q E
def sp4 (f : V → V → V → V → Hp → VK → XK → Prop) : Sp := fun vs H Q E => ∃ a b c d, vs = [a, b, c, d] ∧ f a b c d H Q E
def sp5 (f : V → V → V → V → V → Hp → VK → XK → Prop) : Sp := fun vs H Q E => ∃ a b c d e, vs = [a, b, c, d, e] ∧ f a b c d e H Q E
def sp6 (f : V → V → V → V → V → V → Hp → VK → XK → Prop) : Sp := fun vs H Q E => ∃ a b c d e g, vs = [a, b, c, d, e, g] ∧ f a b c d e g H Q E
section
variable {K : PySem.W.Frag} {σ : St} {H : Hp} {Q : VK} {D : Ends} {ta tb tc : TE} {v x y a b c d : V} {E : XK}
theorem r_sp1 {f : V → Hp → VK → XK → Prop} (h : f a H Q E) : sp1 f ([a] ++ []) H Q E := ⟨a, rfl, h⟩
theorem r_sp2 {f : V → V → Hp → VK → XK → Prop} (h : f a b H Q E) : sp2 f ([a, b] ++ []) H Q E := ⟨a, b, rfl, h⟩
theorem r_sp3 {f : V → V → V → Hp → VK → XK → Prop} (h : f a b c H Q E) : sp3 f ([a, b, c] ++ []) H Q E := ⟨a, b, c, rfl, h⟩
theorem r_sp4 {f : V → V → V → V → Hp → VK → XK → Prop} (h : f a b c d H Q E) : sp4 f ([a, b, c, d] ++ []) H Q E := ⟨a, b, c, d, rfl, h⟩
theorem r_sp5 {f : V → V → V → V → V → Hp → VK → XK → Prop} {e : V} (h : f a b c d e H Q E) : sp5 f ([a, b, c, d, e] ++ []) H Q E := ⟨a, b, c, d, e, rfl, h⟩
theorem r_sp6 {f : V → V → V → V → V → V → Hp → VK → XK → Prop} {e g : V} (h : f a b c d e g H Q E) : sp6 f ([a, b, c, d, e, g] ++ []) H Q E := ⟨a, b, c, d, e, g, rfl, h⟩
theorem r_sp1m {f : V → Hp → VK → XK → Prop} (h : f a H Q E) : sp1 f (a :: ([] ++ [])) H Q E := ⟨a, rfl, h⟩
theorem r_sp2m {f : V → V → Hp → VK → XK → Prop} (h : f a b H Q E) : sp2 f (a :: ([b] ++ [])) H Q E := ⟨a, b, rfl, h⟩
theorem r_sp3m {f : V → V → V → Hp → VK → XK → Prop} (h : f a b c H Q E) : sp3 f (a :: ([b, c] ++ [])) H Q E := ⟨a, b, c, rfl, h⟩
theorem r_sp4m {f : V → V → V → V → Hp → VK → XK → Prop} (h : f a b c d H Q E) : sp4 f (a :: ([b, c, d] ++ [])) H Q E := ⟨a, b, c, d, rfl, h⟩
theorem r_cut {t u : TS} (Mid : St → Hp → Prop) (h : t { D with nx := Mid } σ H) (k : ∀ σ' H', Mid σ' H' → u D σ' H') : Evl.tCut t u D σ H := ⟨Mid, h, k⟩
theorem r_chain {r r' : R2} (h : ta σ H fun x H1 => tb σ H1 fun y H2 => r x y H2 fun z H3 => ∃ k, z = .bl k ∧ (if k = true then tc σ H3 fun w' H4 => r' y w' H4 Q else Q (.bl false) H3)) : tChain r r' ta tb tc σ H Q := h
theorem r_sl {r : V → Option Int → Option Int → Hp → VK → Prop} {tl th : TO} (h : ta σ H fun x H1 => tl σ H1 fun l H2 => th σ H2 fun u H3 => r x l u H3 Q) : tSl r ta tl th σ H Q := h
theorem r_nopart {Q : Option Int → Hp → Prop} (h : Q none H) : tNoPart σ H Q := h
theorem r_part {Q : Option Int → Hp → Prop} (h : ta σ H fun x H1 => ∃ i, x = .int i ∧ Q (some i) H1) : tPart ta σ H Q := h
theorem r_some {n : Int} {P : Int → Prop} (k : P n) : ∃ i, V.int n = V.int i ∧ P i := ⟨n, rfl, k⟩
theorem r_gsub {t : TSet} {Q : St → Hp → Prop} (h : ta σ H fun o H1 => tb σ H1 fun i H2 => t o i v H2 fun H3 => Q σ H3) : gSub ta tb t v σ H Q := h
end
/-- a def's value that is data: it lies in a frozen part F' that begins as F -/
def Ret (F H : Hp) (Q : VK) (d : PyData) : Prop := ∀ F' H' v, Zs F H F' H' [] → Td F' v d → Q v H'

/-! ### data compared -/
theorem eqv_refl {d : PyData} (h : SeqAt.shaped d = true) : PyData.eqv d d = true := SeqAt.eqv_refl d (SeqAt.canLay_of_shaped h)
theorem shaped_of {d : PyData} (h1 : d.canLay0 = true) (h2 : d.depth ≤ 64) : SeqAt.shaped d = true := by
  show (d.canLay0 && decide (d.depth ≤ 64)) = true
  rw [h1, decide_eq_true h2] <;> rfl
theorem lay_map {α : Type} {f : α → PyData} (h : ∀ a, (f a).canLay0 = true) : ∀ l : List α, PyData.canLayAll0 (l.map f) = true
  | [] => rfl
  | a :: l => by
    show ((f a).canLay0 && PyData.canLayAll0 (l.map f)) = true
    rw [h a, lay_map h l] <;> rfl
theorem dep_map {α : Type} {f : α → PyData} {n : Nat} (h : ∀ a, (f a).depth ≤ n) : ∀ l : List α, PyData.depthAll (l.map f) ≤ n
  | [] => Nat.zero_le _
  | a :: l => by
    show max (f a).depth (PyData.depthAll (l.map f)) ≤ n
    have h1 := h a
    have h2 := dep_map h l
    omega
theorem shaped_map {α : Type} {f : α → PyData} {n : Nat} (hn : n ≤ 60) (h : ∀ a, (f a).canLay0 = true) (h2 : ∀ a, (f a).depth ≤ n) (l : List α) : SeqAt.shaped (.list (l.map f)) = true :=
  shaped_of (lay_map h l) (by have := dep_map h2 l; show PyData.depthAll (l.map f) + 1 ≤ 64; omega)
theorem shaped_ints (l : List Int) : SeqAt.shaped (.list (l.map PyData.int)) = true := shaped_map (n := 0) (by decide) (fun _ => rfl) (fun _ => Nat.le_refl _) l
theorem eqvAll_ints : ∀ l m : List Int, PyData.eqvAll (l.map PyData.int) (m.map PyData.int) = decide (l = m)
  | [], [] => rfl
  | [], _ :: _ => rfl
  | _ :: _, [] => rfl
  | a :: l, b :: m => by
    show ((a == b) && PyData.eqvAll (l.map PyData.int) (m.map PyData.int)) = _
    rw [eqvAll_ints l m]
    by_cases h : a = b
    · subst h
      by_cases h2 : l = m
      · subst h2; simp
      · rw [decide_eq_false h2, decide_eq_false (fun q => h2 (List.cons.inj q).2), Bool.and_false]
    · rw [decide_eq_false (fun q => h (List.cons.inj q).1), beq_eq_false_iff_ne.mpr h, Bool.false_and]
theorem eqv_ints (l m : List Int) : PyData.eqv (.list (l.map PyData.int)) (.list (m.map PyData.int)) = decide (l = m) := eqvAll_ints l m
theorem inV_int {x : Int} : ∀ l : List Int, inV (.int x) (l.map V.int) = decide (x ∈ l)
  | [] => rfl
  | a :: l => by
    have ih := inV_int (x := x) l
    unfold inV at ih ⊢
    rw [List.map_cons, List.any_cons, ih]
    show ((a == x) || decide (x ∈ l)) = _
    by_cases h : a = x
    · subst h; simp
    · rw [beq_eq_false_iff_ne.mpr h, Bool.false_or]
      by_cases h2 : x ∈ l
      · rw [decide_eq_true h2, decide_eq_true (List.mem_cons_of_mem _ h2)]
      · rw [decide_eq_false h2, decide_eq_false (fun q => by rcases List.mem_cons.mp q with e | e; exact h e.symm; exact h2 e)]
theorem flat_ints (l : List Int) : (l.map V.int).all flatV = true := by
  rw [List.all_eq_true]
  intro v hv
  obtain ⟨a, _, rfl⟩ := List.mem_map.mp hv
  rfl
theorem get_ints {l : List Int} {i : Nat} (h : i < l.length) : (l.map V.int)[i]? = some (.int l[i]) := by
  rw [List.getElem?_map, List.getElem?_eq_getElem h] <;> rfl
theorem of_get_ints {l : List Int} {i : Nat} {x : V} (h : (l.map V.int)[i]? = some x) : ∃ n, l[i]? = some n ∧ x = .int n := by
  rw [List.getElem?_map] at h
  cases e : l[i]? with
  | none => rw [e] at h; cases h
  | some n => rw [e] at h; exact ⟨n, rfl, (Option.some.inj h).symm⟩
theorem take_snoc {α : Type} {l : List α} {i : Nat} {a : α} (h : l[i]? = some a) : l.take (i + 1) = l.take i ++ [a] := by
  rw [List.take_add_one, h] <;> rfl

/-! ### addresses that the top has laid -/
structure Ad where
  words : Addr
  cHand : Addr
  cNet : Addr
  cBellError : Addr
  cBadWaits : Addr
  cNoHand : Addr
  cNoLetter : Addr

/-! ### the script and its cells -/
def cellAt (ns : List Int) (k : Int) : Int := ns.getD k.toNat 0
theorem cellAt_lt {ns : List Int} {k : Int} (h0 : 0 ≤ k) (h : k < ns.length) : (ns.map V.int)[k.toNat]? = some (.int (cellAt ns k)) := by
  have hl : k.toNat < ns.length := by omega
  rw [get_ints hl]
  unfold cellAt
  rw [List.getD_eq_getElem?_getD, List.getElem?_eq_getElem hl] <;> rfl
theorem cellAt_ge {ns : List Int} {k : Int} (h : ¬ k < ns.length) : cellAt ns k = 0 := by
  unfold cellAt
  rw [List.getD_eq_getElem?_getD, List.getElem?_eq_none (by omega)] <;> rfl

/-! ### waits -/
/-- a wait: none, or whether it is for any, and whom it is for -/
abbrev Wt := Option (Bool × List Int)
def wd (b : Bool) : Str := if b then "any" else "all"
theorem wd_t : wd true = "any" := rfl
theorem wd_f : wd false = "all" := rfl
theorem wd_any (b : Bool) : decide (wd b = ("any" : Str)) = b := by cases b <;> decide +kernel
theorem wd_all (b : Bool) : decide (wd b = ("all" : Str)) = !b := by cases b <;> decide +kernel
def dW : Wt → PyData
  | none => .none
  | some (b, os) => .tuple [.str (wd b), .list (os.map PyData.int)]
def dWs (ws : List Wt) : PyData := .list (ws.map dW)
def okW (n : Nat) : Wt → Prop
  | none => True
  | some (_, os) => os ≠ [] ∧ os.Nodup ∧ ∀ o ∈ os, 0 ≤ o ∧ o < n
structure OkWs (ws : List Wt) : Prop where
  pos : 1 ≤ ws.length
  most : ws.length ≤ 40
  all : ∀ w ∈ ws, okW ws.length w
theorem dW_lay : ∀ w : Wt, (dW w).canLay0 = true
  | none => rfl
  | some (b, os) => by
    show (PyData.canLay0 (.str (wd b)) && (PyData.canLayAll0 (os.map PyData.int) && true)) = true
    rw [lay_map (fun _ => rfl) os]
    cases b <;> decide +kernel
theorem dW_dep : ∀ w : Wt, (dW w).depth ≤ 2
  | none => Nat.zero_le _
  | some (b, os) => by
    have h : PyData.depthAll (os.map PyData.int) ≤ 0 := dep_map (f := PyData.int) (n := 0) (fun _ => Nat.le_refl 0) os
    show max 0 (max (PyData.depthAll (os.map PyData.int) + 1) 0) + 1 ≤ 2
    omega
theorem dWs_shaped (ws : List Wt) : SeqAt.shaped (dWs ws) = true := shaped_map (n := 2) (by decide) dW_lay dW_dep ws
section
variable {F : Hp} {v : V} {ws : List Wt} {b : Bool} {os : List Int}
theorem Td.inv_ws (h : Td F v (dWs ws)) : ∃ a xs, v = .ref a ∧ F a = some (.lst xs) ∧ TdA F xs (ws.map dW) ∧ xs.length = ws.length := by
  obtain ⟨a, xs, rfl, h1, h2⟩ := Td.inv_lst h
  exact ⟨a, xs, rfl, h1, h2, by rw [h2.len, List.length_map]⟩
theorem Td.inv_w (h : Td F v (dW (some (b, os)))) : ∃ a l, v = .ref a ∧ F a = some (.tup [.str (wd b), .ref l]) ∧ F l = some (.lst (os.map V.int)) := by
  obtain ⟨a, xs, rfl, h1, h2⟩ := Td.inv_tup h
  cases h2 with
  | cons k1 k2 =>
    cases k2 with
    | cons k3 k4 =>
      cases k4
      cases k1
      obtain ⟨l, rfl, k5⟩ := Td.inv_ints k3
      exact ⟨a, l, rfl, h1, k5⟩
theorem Td.mk_w {a l : Addr} (h1 : F a = some (.tup [.str (wd b), .ref l])) (h2 : F l = some (.lst (os.map V.int))) : Td F (.ref a) (dW (some (b, os))) := .tup h1 (.cons (.str _) (.cons (.lst h2 (TdA.ints os)) .nil))
theorem TdA.ws_at {xs : List V} {i : Nat} {x : V} (h : TdA F xs (ws.map dW)) (hi : xs[i]? = some x) : ∃ w, ws[i]? = some w ∧ Td F x (dW w) := by
  obtain ⟨d, h1, h2⟩ := TdA.at h hi
  rw [List.getElem?_map] at h1
  cases e : ws[i]? with
  | none => rw [e] at h1; cases h1
  | some w => rw [e] at h1; cases h1; exact ⟨w, rfl, h2⟩
theorem TdA.ws_get {xs : List V} {i : Nat} {w : Wt} (h : TdA F xs (ws.map dW)) (hi : ws[i]? = some w) : ∃ x, xs[i]? = some x ∧ Td F x (dW w) :=
  TdA.get h (by rw [List.getElem?_map, hi] <;> rfl)
theorem dW_ne_none : dW (some (b, os)) ≠ .none := fun q => nomatch q
theorem Td.w_non {w : Wt} (h : Td F .non (dW w)) : w = none := by
  cases w with
  | none => rfl
  | some p => obtain ⟨b, os⟩ := p; cases h
theorem Td.w_ref {w : Wt} {a : Addr} (h : Td F (.ref a) (dW w)) : ∃ b os, w = some (b, os) := by
  cases w with
  | none => cases h
  | some p => exact ⟨p.1, p.2, rfl⟩
end
end SB
/-! Slices, tuple targets, subdata. -/
namespace SB
open PySem L2
theorem sIx_nat (n d i : Nat) : HT.sIx n d (some (i : Int)) = min i n := by
  unfold HT.sIx
  simp only []
  split <;> omega
theorem cut_take (xs : List V) (i : Nat) : cutV xs none (some (i : Int)) = xs.take i := by
  unfold cutV
  rw [sIx_nat]
  show (xs.drop 0).take (min i xs.length - 0) = _
  rw [List.drop_zero, Nat.sub_zero]
  by_cases h : i ≤ xs.length
  · rw [Nat.min_eq_left h]
  · rw [Nat.min_eq_right (by omega), List.take_of_length_le (Nat.le_refl _), List.take_of_length_le (by omega)]
theorem cut_drop (xs : List V) (i : Nat) : cutV xs (some (i : Int)) none = xs.drop i := by
  unfold cutV
  rw [sIx_nat]
  show (xs.drop (min i xs.length)).take (xs.length - min i xs.length) = _
  rw [List.take_of_length_le (by rw [List.length_drop]; omega)]
  by_cases h : i ≤ xs.length
  · rw [Nat.min_eq_left h]
  · rw [Nat.min_eq_right (by omega), List.drop_eq_nil_of_le (Nat.le_refl _), List.drop_eq_nil_of_le (by omega)]
theorem cut_range (xs : List V) (i j : Nat) : cutV xs (some (i : Int)) (some (j : Int)) = (xs.drop i).take (j - i) := by
  unfold cutV
  rw [sIx_nat, sIx_nat]
  by_cases h : i ≤ xs.length
  · rw [Nat.min_eq_left h]
    by_cases h2 : j ≤ xs.length
    · rw [Nat.min_eq_left h2]
    · rw [Nat.min_eq_right (by omega), List.take_of_length_le (by rw [List.length_drop]; omega), List.take_of_length_le (by rw [List.length_drop]; omega)]
  · rw [Nat.min_eq_right (Nat.le_of_not_le h), List.drop_eq_nil_of_le (Nat.le_refl _), List.drop_eq_nil_of_le (by omega), List.take_nil, List.take_nil]
section
variable {K : PySem.W.Frag} {σ : St} {H : Hp} {i j k : Nat} {v w u : V} {Q : St → Hp → Prop} {p : Addr}
theorem r_gt2 (h : SqT K H p [v, w]) (q : Q ((σ.set i (some v)).set j (some w)) H) : gTup K 2 (gCons (gName i) (gCons (gName j) gNil)) (.ref p) σ H Q :=
  ⟨p, _, rfl, h, rfl, _, _, rfl, _, _, rfl, rfl, q⟩
theorem r_gt3 (h : SqT K H p [v, w, u]) (q : Q (((σ.set i (some v)).set j (some w)).set k (some u)) H) : gTup K 3 (gCons (gName i) (gCons (gName j) (gCons (gName k) gNil))) (.ref p) σ H Q :=
  ⟨p, _, rfl, h, rfl, _, _, rfl, _, _, rfl, _, _, rfl, rfl, q⟩
end
theorem shaped_in {d : PyData} : ∀ {ds : List PyData}, PyData.canLayAll0 ds = true → d ∈ ds → d.canLay0 = true ∧ d.depth ≤ PyData.depthAll ds
  | x :: xs, h, m => by
    have h' : (x.canLay0 && PyData.canLayAll0 xs) = true := h
    rw [Bool.and_eq_true] at h'
    have e : PyData.depthAll (x :: xs) = max x.depth (PyData.depthAll xs) := rfl
    rcases List.mem_cons.mp m with rfl | m
    · exact ⟨h'.1, by omega⟩
    · obtain ⟨a, b⟩ := shaped_in h'.2 m
      exact ⟨a, by omega⟩
theorem shaped_l {d : PyData} {ds : List PyData} (h : SeqAt.shaped (.list ds) = true) (m : d ∈ ds) : SeqAt.shaped d = true := by
  obtain ⟨a, b⟩ := shaped_in (show PyData.canLayAll0 ds = true from SeqAt.canLay_of_shaped h) m
  have c : PyData.depthAll ds + 1 ≤ 64 := SeqAt.depth_of_shaped h
  exact shaped_of a (by omega)
theorem shaped_t {d : PyData} {ds : List PyData} (h : SeqAt.shaped (.tuple ds) = true) (m : d ∈ ds) : SeqAt.shaped d = true := by
  obtain ⟨a, b⟩ := shaped_in (show PyData.canLayAll0 ds = true from SeqAt.canLay_of_shaped h) m
  have c : PyData.depthAll ds + 1 ≤ 64 := SeqAt.depth_of_shaped h
  exact shaped_of a (by omega)
theorem dec_non {v : V} : decide (v = .non) = (match v with | .non => true | _ => false) := by
  cases v <;> first | rfl | exact decide_eq_false (fun q => nomatch q)
theorem Td.non_iff {F : Hp} {v : V} {d : PyData} (h : Td F v d) : v = .non ↔ d = .none := by
  cases h <;> constructor <;> intro q <;> first | rfl | exact (nomatch q)
theorem eqv_nil (ds : List PyData) : PyData.eqv (.list ds) (.list []) = ds.isEmpty := by
  cases ds <;> rfl
end SB
namespace SB
open PySem L2
theorem shaped_map1 (w : Wt) : SeqAt.shaped (dW w) = true := shaped_of (dW_lay w) (by have := dW_dep w; omega)
theorem nodup_nat : ∀ (n : Nat) (l : List Nat), l.Nodup → (∀ x ∈ l, x < n) → l.length ≤ n
  | 0, l, _, h => by
    cases l with
    | nil => exact Nat.le_refl _
    | cons a l => exact absurd (h a List.mem_cons_self) (Nat.not_lt_zero _)
  | n + 1, l, nd, h => by
    have nd2 : (l.erase n).Nodup := nd.erase n
    have h2 : ∀ x ∈ l.erase n, x < n := fun x hx => by
      have := (nd.mem_erase_iff).mp hx
      have := h x this.2
      omega
    have ih := nodup_nat n (l.erase n) nd2 h2
    by_cases m : n ∈ l
    · have := List.length_erase_of_mem m
      omega
    · rw [List.erase_of_not_mem m] at ih
      omega
theorem nodup_bound {n : Nat} {os : List Int} (nd : os.Nodup) (h : ∀ o ∈ os, 0 ≤ o ∧ o < (n : Int)) : os.length ≤ n := by
  have h2 : (os.map Int.toNat).Nodup := by
    rw [List.nodup_iff_pairwise_ne, List.pairwise_map]
    refine List.Pairwise.imp_of_mem (fun {a b} ha hb hne => ?_) (List.nodup_iff_pairwise_ne.mp nd)
    have := h a ha
    have := h b hb
    omega
  have h4 := nodup_nat n _ h2 (fun x hx => by
    obtain ⟨o, ho, rfl⟩ := List.mem_map.mp hx
    have := h o ho
    omega)
  rw [List.length_map] at h4
  exact h4
end SB
/-! A result that is a list of one's own; lists of truths. -/
namespace SB
open PySem L2
/-- a def's value is a new list that nobody else has -/
def RetL (H : Hp) (Q : VK) (xs : List V) : Prop := ∀ H' p, Zs H H H H' [(p, .lst xs)] → Q (.ref p) H'
section
variable {F0 H0 F H F' H' : Hp} {L L2 : List (Addr × HO)}
theorem Zs.callL (Z : Zs F0 H0 F H L) (W : Zs H H H H' L2) : Zs F0 H0 F H' (L2 ++ L) where
  ff := Z.ff
  hh := Z.hh.trans W.hh
  fh := Z.fh.trans W.hh
  sep := Z.sep
  led := fun q hq => by
    rcases List.mem_append.mp hq with hq | hq
    · obtain ⟨a, b, c⟩ := W.led q hq
      exact ⟨a, same_none Z.fh c, same_none Z.hh c⟩
    · obtain ⟨a, b, c⟩ := Z.led q hq
      exact ⟨W.hh _ _ a, b, c⟩
  nd := by
    rw [List.map_append, List.nodup_append]
    refine ⟨W.nd, Z.nd, fun a ha b hb e => ?_⟩
    subst e
    obtain ⟨q, hq, rfl⟩ := List.mem_map.mp ha
    obtain ⟨r, hr, e⟩ := List.mem_map.mp hb
    have h1 := (W.led q hq).2.2
    have h2 := (Z.led r hr).1
    have e' : r.1 = q.1 := e
    rw [e', h1] at h2
    cases h2
/-- a result's new cells over a frozen part that begins as H -/
theorem Zs.up (Z : Zs F0 H0 F H L) (h : Same F0 H0) : Zs H0 H0 H0 H L where
  ff := Same.refl _
  hh := Z.hh
  fh := Z.hh
  sep := fun _ a _ => a
  led := fun q hq => by
    obtain ⟨a, b, c⟩ := Z.led q hq
    exact ⟨a, c, c⟩
  nd := Z.nd
end
theorem flat_bools (l : List Bool) : (l.map V.bl).all flatV = true := by
  rw [List.all_eq_true]
  intro v hv
  obtain ⟨a, _, rfl⟩ := List.mem_map.mp hv
  rfl
theorem get_bools {l : List Bool} {i : Nat} (h : i < l.length) : (l.map V.bl)[i]? = some (.bl l[i]) := by
  rw [List.getElem?_map, List.getElem?_eq_getElem h] <;> rfl
theorem get_boolD {l : List Bool} {i : Nat} (h : i < l.length) : (l.map V.bl)[i]? = some (.bl (l.getD i false)) := by
  rw [get_bools h, List.getD_eq_getElem?_getD, List.getElem?_eq_getElem h] <;> rfl
theorem Td.inv_bools {F : Hp} {v : V} {l : List Bool} (h : Td F v (.list (l.map PyData.bool))) : ∃ a, v = .ref a ∧ F a = some (.lst (l.map V.bl)) := by
  obtain ⟨a, xs, rfl, h1, h2⟩ := h.inv_lst
  rw [h2.of_bools] at h1
  exact ⟨a, rfl, h1⟩
theorem Td.bools_lst {F : Hp} {a : Addr} {l : List Bool} (h : F a = some (.lst (l.map V.bl))) : Td F (.ref a) (.list (l.map PyData.bool)) := .lst h (TdA.bools l)
theorem shaped_bools (l : List Bool) : SeqAt.shaped (.list (l.map PyData.bool)) = true := shaped_map (n := 0) (by decide) (fun _ => rfl) (fun _ => Nat.le_refl _) l
theorem rep_flat {α : Type} (a : α) : ∀ n : Nat, List.flatten (List.replicate n [a]) = List.replicate n a
  | 0 => rfl
  | n + 1 => by rw [List.replicate_succ, List.flatten_cons, rep_flat a n, List.replicate_succ] <;> rfl
end SB
namespace SB
open PySem L2
/-- a smaller frozen part -/
theorem Zs.weak {F0 H0 F F1 H : Hp} {L : List (Addr × HO)} (Z : Zs F0 H0 F H L) (h0 : Same F0 F1) (h : Same F1 F) : Zs F0 H0 F1 H L where
  ff := h0
  hh := Z.hh
  fh := h.trans Z.fh
  sep := fun a e n => same_none h (Z.sep a e n)
  led := fun q hq => by
    obtain ⟨a, b, c⟩ := Z.led q hq
    exact ⟨a, same_none h b, c⟩
  nd := Z.nd
end SB
namespace SB
open PySem L2
/-- what every law promises -/
def pr_law (K : PySem.W.Frag) : V → Hp → VK → XK → Prop := fun a H Q _ => ∃ (p : Addr) (ns : List Int), a = .ref p ∧ SqL K H p (ns.map V.int) ∧ ns.length ≤ 63 ∧ ∀ H', Q (.bl true) H'
abbrev spL (K : PySem.W.Frag) : Sp := sp1 (pr_law K)
abbrev sp_law (K : PySem.W.Frag) (A : Ad) : Sp := spL K
end SB
namespace SB
open PySem L2
/-- [x for x in xs] -/
theorem lc_copy {K : PySem.W.Frag} {σ : St} {F0 H0 F H : Hp} {L : List (Addr × HO)} {Q : VK} {j : Nat} {a : Addr} {xs : List V} (hx : SqL K H a xs) (hz : xs.length ≤ 50000) (Z : Zs F0 H0 F H L)
    (hsrc : ∀ F' H', Zs F0 H0 F' H' L → Same F F' → SqL K H' a xs) (hw : ∀ x, wipe ((wipe σ [j]).set j (some x)) [j] = wipe σ [j]) (hj : ∀ x, ((wipe σ [j]).set j (some x))[j]? = some (some x))
    (k : ∀ Dl H', Zs F0 H0 F H' ((Dl, .lst xs) :: L) → Q (.ref Dl) H') : LRL K (gName j) tYes (tVar j) [j] σ Q (.ref a) H := by
  refine lc_lst hx Z (fun i acc F' => acc = xs.take i) rfl hsrc ?_ ?_
  · intro i x Dl F' H' acc hi Z' s hacc e
    subst e
    refine ⟨hw x, ?_⟩
    refine r_yes (ifT rfl ?_)
    refine ⟨x, hj x, ?_⟩
    have := (List.getElem?_eq_some_iff.mp hi).1
    exact cy Z' s hacc (by omega) (take_snoc hi).symm
  · intro Dl F' H' acc Z' s e
    rw [List.take_length] at e
    subst e
    exact k Dl H' (Z'.weak Z.ff s)
end SB
namespace SB
open PySem L2
def pr_cell_at (K : PySem.W.Frag) (A : Ad) : V → V → Hp → VK → XK → Prop := fun a b H Q _ => ∃ p ns k, a = .ref p ∧ b = .int k ∧ SqL K H p (ns.map V.int) ∧ 0 ≤ k ∧ Q (.int (cellAt ns k)) H
abbrev sp_cell_at (K : PySem.W.Frag) (A : Ad) : Sp := sp2 (pr_cell_at K A)
def t_cell_at (K : PySem.W.Frag) (A : Ad) : TS :=
    (tSeq (tIfS (tTest (tOp qLt (tVar 1) (tCB (qLen K) (tCons (tVar 0) tNil))))
    (tRet (tOp (rIxL K) (tVar 0) (tVar 1)))
    tNext)
    (tRet (tC (.int 0))))
theorem rd_cell_at {K : PySem.W.Frag} {A : Ad} {a b : V} {H : Hp} {Q : VK} {E : XK} (h : pr_cell_at K A a b H Q E) : t_cell_at K A { nx := fun _ H' => Q .non H', rt := Q } [some a, some b] H := by
  obtain ⟨p, ns, k, rfl, rfl, hs, h0, q⟩ := h
  unfold t_cell_at
  walk_at "rd"
  refine r_lenL hs ?_
  walk_at "rd"
  refine ifd (fun h => ?_) (fun h => ?_)
  · walk_at "rd"
    refine r_ixL hs (at_i h0 (cellAt_lt h0 (by simpa using h))) ?_
    exact q
  · walk_at "rd"
    rw [← cellAt_ge (ns := ns) (k := k) (by simpa using h)]
    exact q
end SB
namespace SB
open PySem L2
/-! ### whom a hand of the law waits for -/
def moreBy (c d n m o0 k : Int) : Int := (o0 + 1 + n / (c + d * k) % m) % m
def othersBy (c d n m o0 : Int) : Nat → List Int
  | 0 => [o0]
  | i + 1 => if moreBy c d n m o0 (i : Nat) ∈ othersBy c d n m o0 i then othersBy c d n m o0 i else othersBy c d n m o0 i ++ [moreBy c d n m o0 (i : Nat)]
section
variable {c d n m o0 : Int}
theorem oth_0 : ∀ i : Nat, (othersBy c d n m o0 i)[0]? = some o0
  | 0 => rfl
  | i + 1 => by
    have ih := oth_0 i
    unfold othersBy
    split
    · exact ih
    · rw [List.getElem?_append_left (List.getElem?_eq_some_iff.mp ih).1]; exact ih
theorem oth_len : ∀ i : Nat, (othersBy c d n m o0 i).length ≤ i + 1
  | 0 => Nat.le_refl _
  | i + 1 => by
    have ih := oth_len i
    unfold othersBy
    split
    · omega
    · rw [List.length_append, List.length_singleton]; omega
theorem oth_ne (i : Nat) : othersBy c d n m o0 i ≠ [] := fun q => by
  have h := oth_0 (c := c) (d := d) (n := n) (m := m) (o0 := o0) i
  rw [q] at h
  cases h
theorem oth_nd : ∀ i : Nat, (othersBy c d n m o0 i).Nodup
  | 0 => by unfold othersBy; simp
  | i + 1 => by
    have ih := oth_nd i
    unfold othersBy
    split
    · exact ih
    · rename_i h
      rw [List.nodup_append]
      exact ⟨ih, by simp, fun a ha b hb => by
        rw [List.mem_singleton] at hb
        subst hb
        exact fun q => h (q ▸ ha)⟩
theorem more_in (hm : 0 < m) (k : Int) : 0 ≤ moreBy c d n m o0 k ∧ moreBy c d n m o0 k < m := ⟨Int.emod_nonneg _ (by omega), Int.emod_lt_of_pos _ hm⟩
theorem oth_in (hm : 0 < m) (h0 : 0 ≤ o0 ∧ o0 < m) : ∀ (i : Nat) (o : Int), o ∈ othersBy c d n m o0 i → 0 ≤ o ∧ o < m
  | 0, o, h => by
    unfold othersBy at h
    rw [List.mem_singleton] at h
    subst h
    exact h0
  | i + 1, o, h => by
    unfold othersBy at h
    split at h
    · exact oth_in hm h0 i o h
    · rcases List.mem_append.mp h with h | h
      · exact oth_in hm h0 i o h
      · rw [List.mem_singleton] at h
        subst h
        exact more_in hm _
theorem oth_ok (b : Bool) {z : Nat} (hz : m = (z : Int)) (hm : 0 < m) (h0 : 0 ≤ o0 ∧ o0 < m) (i : Nat) : okW z (some (b, othersBy c d n m o0 i)) :=
  ⟨oth_ne i, oth_nd i, fun o ho => by rw [← hz]; exact oth_in hm h0 i o ho⟩
end
/-- ["all", "any"][i] -/
theorem word_at {i : Int} (h0 : 0 ≤ i) (h1 : i < 2) : atI [V.str "all", V.str "any"] i = some (.str (wd (decide (i = 1)))) := by
  refine at_i h0 ?_
  rcases (show i = 0 ∨ i = 1 by omega) with e | e
  · subst e; rfl
  · subst e; rfl
/-- one hand waits for all hands, from any one on, backwards -/
def allBy (n w : Int) : List Int := (List.range n.toNat).map fun (k : Nat) => (n + w - (k : Int)) % n
theorem emod_inj {n c a b : Int} (ha : 0 ≤ a ∧ a < n) (hb : 0 ≤ b ∧ b < n) (h : (c - a) % n = (c - b) % n) : a = b := by
  have h1 : (b - a) % n = 0 := by
    have := Int.emod_eq_emod_iff_emod_sub_eq_zero.mp h
    rw [show c - a - (c - b) = b - a by omega] at this
    exact this
  have h2 : (a - b) % n = 0 := by
    have := Int.emod_eq_emod_iff_emod_sub_eq_zero.mp h.symm
    rw [show c - b - (c - a) = a - b by omega] at this
    exact this
  by_cases l : a ≤ b
  · rw [Int.emod_eq_of_lt (by omega) (by omega)] at h1; omega
  · rw [Int.emod_eq_of_lt (by omega) (by omega)] at h2; omega
theorem all_ok (b : Bool) {n w : Int} {z : Nat} (hz : n = (z : Int)) (hn : 0 < n) : okW z (some (b, allBy n w)) := by
  refine ⟨fun e => ?_, ?_, fun o m => ?_⟩
  · have : (allBy n w).length = n.toNat := by unfold allBy; rw [List.length_map, List.length_range]
    rw [e, List.length_nil] at this
    omega
  · unfold allBy
    rw [List.nodup_iff_pairwise_ne, List.pairwise_map]
    refine List.Pairwise.imp_of_mem (fun {a b} ha hb hne e => ?_) (List.nodup_iff_pairwise_ne.mp List.nodup_range)
    have := List.mem_range.mp ha
    have := List.mem_range.mp hb
    have := emod_inj (c := n + w) (a := (a : Int)) (b := (b : Int)) (n := n) (by omega) (by omega) e
    omega
  · unfold allBy at m
    obtain ⟨k, _, rfl⟩ := List.mem_map.mp m
    rw [← hz]
    exact ⟨Int.emod_nonneg _ (by omega), Int.emod_lt_of_pos _ hn⟩
theorem okws_set {ws : List Wt} {w : Wt} {j : Nat} (ok : OkWs ws) (h : okW ws.length w) : OkWs (ws.set j w) := by
  refine ⟨by rw [List.length_set]; exact ok.pos, by rw [List.length_set]; exact ok.most, fun x m => ?_⟩
  rw [List.length_set]
  rcases List.mem_or_eq_of_mem_set m with m | rfl
  · exact ok.all x m
  · exact h
end SB
namespace SB
open PySem L2
def mixBy (ns : List Int) (k s : Int) : Int := (cellAt ns k * 40692 + s * 7727) % 999979
theorem mix_nn (ns : List Int) (k s : Int) : 0 ≤ mixBy ns k s := Int.emod_nonneg _ (by decide)
def pr_mixed (K : PySem.W.Frag) (A : Ad) : V → V → V → Hp → VK → XK → Prop := fun a b c H Q _ => ∃ p ns k s, a = .ref p ∧ b = .int k ∧ c = .int s ∧ SqL K H p (ns.map V.int) ∧ 0 ≤ k ∧ Q (.int (mixBy ns k s)) H
abbrev sp_mixed (K : PySem.W.Frag) (A : Ad) : Sp := sp3 (pr_mixed K A)
def t_mixed (K : PySem.W.Frag) (A : Ad) : TS :=
    (tRet (tOp qMod (tOp qAdd (tOp qMul (tCall (sp_cell_at K A) [] E0 (tCons (tVar 0) (tCons (tVar 1) tNil))) (tC (.int 40692))) (tOp qMul (tVar 2) (tC (.int 7727)))) (tC (.int 999979))))
theorem rd_mixed {K : PySem.W.Frag} {A : Ad} {a b c : V} {H : Hp} {Q : VK} {E : XK} (h : pr_mixed K A a b c H Q E) : t_mixed K A { nx := fun _ H' => Q .non H', rt := Q } [some a, some b, some c] H := by
  obtain ⟨p, ns, k, s, rfl, rfl, rfl, hs, h0, q⟩ := h
  unfold t_mixed
  walk_at "rd"
  refine ⟨p, ns, k, rfl, rfl, hs, h0, ?_⟩
  walk_at "rd"
  exact q
def fewBy (f : Int) : Int := [5, 11].getD f.toNat 0
theorem few_pos {f : Int} (h0 : 0 ≤ f) (h1 : f < 2) : 0 < fewBy f ∧ atI [V.int 5, V.int 11] f = some (V.int (fewBy f)) := by
  rcases (show f = 0 ∨ f = 1 by omega) with e | e
  · subst e; exact ⟨by decide, at_i (by decide) rfl⟩
  · subst e; exact ⟨by decide, at_i (by decide) rfl⟩
def waitBy (n m f : Int) : Wt := if n % fewBy f = 0 then none else some (decide (n / 3 % 2 = 1), othersBy 700 89 n m (n / 55 % m) (n / 11 % 4).toNat)
theorem wait_ok {n m f : Int} {z : Nat} (hz : m = (z : Int)) (hm : 0 < m) : okW z (waitBy n m f) := by
  unfold waitBy
  split
  · exact True.intro
  · exact oth_ok _ hz hm ⟨Int.emod_nonneg _ (by omega), Int.emod_lt_of_pos _ hm⟩ _
def pr_wait_by (K : PySem.W.Frag) (A : Ad) : V → V → V → Hp → VK → XK → Prop := fun a b c H Q _ => ∃ F n m f, Same F H ∧ a = .int n ∧ b = .int m ∧ c = .int f ∧ 0 ≤ f ∧ f < 2 ∧ 1 ≤ m ∧ m ≤ 40 ∧ 0 ≤ n ∧ Ret F H Q (dW (waitBy n m f))
abbrev sp_wait_by (K : PySem.W.Frag) (A : Ad) : Sp := sp3 (pr_wait_by K A)
def t_wait_by (K : PySem.W.Frag) (A : Ad) : TS :=
    (tSeq (tIfS (tTest (tOp rEq (tOp qMod (tVar 0) (tOp (rIxL K) (tLst (tCons (tC (.int 5)) (tCons (tC (.int 11)) tNil))) (tVar 2))) (tC (.int 0))))
    (tRet (tC .non))
    tNext)
    (tSeq (tAsg (tLst (tCons (tOp qMod (tOp qDiv (tVar 0) (tC (.int 55))) (tVar 1)) tNil)) (gName 3))
    (tSeq (tFor (iRng1 (tCons (tOp qMod (tOp qDiv (tVar 0) (tC (.int 11))) (tC (.int 4))) tNil)) (gName 4)
    (tSeq (tAsg (tOp qMod (tOp qAdd (tOp qAdd (tOp (rIxL K) (tVar 3) (tC (.int 0))) (tC (.int 1))) (tOp qMod (tOp qDiv (tVar 0) (tOp qAdd (tC (.int 700)) (tOp qMul (tC (.int 89)) (tVar 4)))) (tVar 1))) (tVar 1)) (gName 5))
    (tIfS (tTest (tOp (rIn K true) (tVar 5) (tVar 3)))
    (tDrop (tBM K "list" rAppend (tVar 3) (tCons (tVar 5) tNil)))
    tNext)))
    (tRet (tTup (tCons (tOp (rIxL K) (tLst (tCons (tC (.str "all")) (tCons (tC (.str "any")) tNil))) (tOp qMod (tOp qDiv (tVar 0) (tC (.int 3))) (tC (.int 2)))) (tCons (tVar 3) tNil)))))))
theorem rd_wait_by {K : PySem.W.Frag} {A : Ad} {a b c : V} {H : Hp} {Q : VK} {E : XK} (h : pr_wait_by K A a b c H Q E) : t_wait_by K A { nx := fun _ H' => Q .non H', rt := Q } [some a, some b, some c, none, none, none] H := by
  obtain ⟨F, n, m, f, sF, rfl, rfl, rfl, f0, f1, m1, m40, n0, q⟩ := h
  have Z : Zs F H F H [] := Zs.start sF
  unfold t_wait_by
  walk_at "rd"
  refine r_mk sz2 Z (fun pf Hf Zf => ?_)
  have hf := few_pos f0 f1
  have hf0 := hf.1
  walk_at "rd"
  refine r_ixL (SqL.of (Zf.get (i := 0) rfl)) hf.2 ?_
  replace Z := Zf.drop
  walk_at "rd"
  refine ifd (fun h => ?_) (fun h => ?_)
  · walk_at "rd"
    refine q F _ _ Z ?_
    unfold waitBy
    rw [if_pos h]
    exact .non
  · walk_at "rd"
    refine r_mk sz1 Z (fun l H1 Z1 => ?_)
    walk_at "rd"
    refine r_rng1 (by omega) (fun i σ' H' => ∃ x3 x4, σ' = [some (.int n), some (.int m), some (.int f), some (.ref l), x3, x4] ∧ Zs F H F H' [(l, .lst ((othersBy 700 89 n m (n / 55 % m) i).map V.int))]) ⟨none, none, rfl, Z1⟩ ?_ ?_
    · rintro i σ' H' hi ⟨x3, x4, rfl, Z⟩
      dsimp only [List.set_cons_succ, List.set_cons_zero]
      have hlen := oth_len (c := 700) (d := 89) (n := n) (m := m) (o0 := n / 55 % m) i
      walk_at "rd"
      refine r_ixL (SqL.of (Z.get (i := 0) rfl)) (v := .int (n / 55 % m)) (at_i (by decide) (by rw [List.getElem?_map, show (0 : Int).toNat = 0 from rfl, oth_0] <;> rfl)) ?_
      walk_at "rd"
      refine r_inL (SqL.of (Z.get (i := 0) rfl)) rfl (flat_ints _) ?_
      rw [if_pos rfl, inV_int]
      walk_at "rd"
      refine ifn (fun h2 => ?_) (fun h2 => ?_)
      · walk_at "rd"
        refine ⟨ty_l (SqL.of (Z.get (i := 0) rfl)), ?_⟩
        walk_at "rd"
        refine r_append 0 Z rfl (by rw [List.length_map]; omega) (fun H2 Z2 => ?_)
        walk_at "rd"
        refine ⟨_, _, rfl, ?_⟩
        unfold othersBy
        rw [if_neg (show ¬ moreBy 700 89 n m (n / 55 % m) (i : Nat) ∈ _ from h2), List.map_append]
        exact Z2
      · walk_at "rd"
        refine ⟨_, _, rfl, ?_⟩
        unfold othersBy
        rw [if_pos (show moreBy 700 89 n m (n / 55 % m) (i : Nat) ∈ _ from h2)]
        exact Z
    · rintro σ' H' ⟨x3, x4, rfl, Z⟩
      walk_at "rd"
      refine r_mk sz2 Z (fun p H2 Z2 => ?_)
      walk_at "rd"
      refine r_ixL (SqL.of (Z2.get (i := 0) rfl)) (word_at (by omega) (by omega)) ?_
      walk_at "rd"
      refine r_mk sz2 Z2.drop (fun t H3 Z3 => ?_)
      obtain ⟨F1, Z4, s1, e1⟩ := Z3.frzAt 1 rfl
      obtain ⟨F2, Z5, s2, e2⟩ := Z4.frzAt 0 rfl
      refine q F2 _ _ Z5 ?_
      unfold waitBy
      rw [if_neg h]
      exact Td.mk_w e2 (s2 _ _ e1)
end SB
namespace SB
open PySem L2
/-! ### the program: waits.py -/
/-- isinstance over data -/
def tyD : PyData → String
  | .none => "NoneType"
  | .bool _ => "bool"
  | .int _ => "int"
  | .str _ => "str"
  | .list _ => "list"
  | .tuple _ => "tuple"
  | .dict _ => "dict"
theorem ty_of {K : PySem.W.Frag} {H : Hp} {v : V} {d : PyData} (h : Td H v d) : TyX K H v (.type (tyD d)) := by
  cases h with
  | non => exact .base .non
  | bl b => exact .base (.bl b)
  | int i => exact .base (.int i)
  | str x => exact .base (.str x)
  | lst a b => exact .base (.lst a)
  | tup a b => exact .base (.tup a)
def isD (d : PyData) (n : String) : Bool := (kitB (tyD d) n).getD false
theorem r_isi {K : PySem.W.Frag} {H : Hp} {v : V} {d : PyData} {n : String} {b : Bool} {Q : VK} (h : Td H v d) (hb : kitB (tyD d) n = some b) (k : Q (.bl b) H) : rIsi K [v, .ty n] H Q :=
  ⟨v, .ty n, .type (tyD d), .type n, b, rfl, .ty n, ty_of h, kit_ty hb, k⟩
theorem ki_int : ∀ d : PyData, kitB (tyD d) "int" = some (match d with | .int _ => true | .bool _ => true | _ => false)
  | .none => by decide +kernel
  | .bool _ => by show kitB "bool" "int" = some true; decide +kernel
  | .int _ => by show kitB "int" "int" = some true; decide +kernel
  | .str _ => by show kitB "str" "int" = some false; decide +kernel
  | .list _ => by show kitB "list" "int" = some false; decide +kernel
  | .tuple _ => by show kitB "tuple" "int" = some false; decide +kernel
  | .dict _ => by show kitB "dict" "int" = some false; decide +kernel
theorem ki_bool : ∀ d : PyData, kitB (tyD d) "bool" = some (match d with | .bool _ => true | _ => false)
  | .none => by decide +kernel
  | .bool _ => by show kitB "bool" "bool" = some true; decide +kernel
  | .int _ => by show kitB "int" "bool" = some false; decide +kernel
  | .str _ => by show kitB "str" "bool" = some false; decide +kernel
  | .list _ => by show kitB "list" "bool" = some false; decide +kernel
  | .tuple _ => by show kitB "tuple" "bool" = some false; decide +kernel
  | .dict _ => by show kitB "dict" "bool" = some false; decide +kernel
theorem ki_str : ∀ d : PyData, kitB (tyD d) "str" = some (match d with | .str _ => true | _ => false)
  | .none => by decide +kernel
  | .bool _ => by show kitB "bool" "str" = some false; decide +kernel
  | .int _ => by show kitB "int" "str" = some false; decide +kernel
  | .str _ => by show kitB "str" "str" = some true; decide +kernel
  | .list _ => by show kitB "list" "str" = some false; decide +kernel
  | .tuple _ => by show kitB "tuple" "str" = some false; decide +kernel
  | .dict _ => by show kitB "dict" "str" = some false; decide +kernel
theorem ki_list : ∀ d : PyData, kitB (tyD d) "list" = some (match d with | .list _ => true | _ => false)
  | .none => by decide +kernel
  | .bool _ => by show kitB "bool" "list" = some false; decide +kernel
  | .int _ => by show kitB "int" "list" = some false; decide +kernel
  | .str _ => by show kitB "str" "list" = some false; decide +kernel
  | .list _ => by show kitB "list" "list" = some true; decide +kernel
  | .tuple _ => by show kitB "tuple" "list" = some false; decide +kernel
  | .dict _ => by show kitB "dict" "list" = some false; decide +kernel
theorem ki_tuple : ∀ d : PyData, kitB (tyD d) "tuple" = some (match d with | .tuple _ => true | _ => false)
  | .none => by decide +kernel
  | .bool _ => by show kitB "bool" "tuple" = some false; decide +kernel
  | .int _ => by show kitB "int" "tuple" = some false; decide +kernel
  | .str _ => by show kitB "str" "tuple" = some false; decide +kernel
  | .list _ => by show kitB "list" "tuple" = some false; decide +kernel
  | .tuple _ => by show kitB "tuple" "tuple" = some true; decide +kernel
  | .dict _ => by show kitB "dict" "tuple" = some false; decide +kernel

/-- is_hand -/
def handD : PyData → Int → Bool
  | .int i, m => decide (0 ≤ i) && decide (i < m)
  | _, _ => false
def pr_is_hand (K : PySem.W.Frag) (A : Ad) : V → V → Hp → VK → XK → Prop := fun a b H Q _ => ∃ d m, Td H a d ∧ b = .int m ∧ Q (.bl (handD d m)) H
abbrev sp_is_hand (K : PySem.W.Frag) (A : Ad) : Sp := sp2 (pr_is_hand K A)
def t_is_hand (K : PySem.W.Frag) (A : Ad) : TS :=
    (tRet (tAndV (tCB (rIsi K) (tCons (tVar 0) (tCons (tC (.ty "int")) tNil))) (tAndV (tNotV (tCB (rIsi K) (tCons (tVar 0) (tCons (tC (.ty "bool")) tNil)))) (tChain qLe qLt (tC (.int 0)) (tVar 0) (tVar 1)))))
theorem rd_is_hand {K : PySem.W.Frag} {A : Ad} {a b : V} {H : Hp} {Q : VK} {E : XK} (h : pr_is_hand K A a b H Q E) : t_is_hand K A { nx := fun _ H' => Q .non H', rt := Q } [some a, some b] H := by
  obtain ⟨d, m, hd, rfl, q⟩ := h
  unfold t_is_hand
  walk_at "rd"
  refine r_isi hd (ki_int d) ?_
  walk_at "rd"
  refine ifb (fun h => ?_) (fun h => ?_)
  · walk_at "rd"
    refine r_isi hd (ki_bool d) ?_
    walk_at "rd"
    refine ifnb (fun h2 => ?_) (fun h2 => ?_)
    · cases hd with
      | int i =>
        walk_at "rd"
        refine ifd (fun h3 => ?_) (fun h3 => ?_)
        · walk_at "rd"
          have e : handD (.int i) m = decide (i < m) := by
            show (decide (0 ≤ i) && decide (i < m)) = _
            rw [decide_eq_true h3, Bool.true_and]
          rw [← e]
          exact q
        · have e : handD (.int i) m = false := by
            show (decide (0 ≤ i) && decide (i < m)) = _
            rw [decide_eq_false h3, Bool.false_and]
          rw [← e]
          exact q
      | bl b => cases h2
      | non => cases h
      | str x => cases h
      | lst x y => cases h
      | tup x y => cases h
    · cases hd with
      | bl b => exact q
      | int i => cases h2
      | non => cases h
      | str x => cases h
      | lst x y => cases h
      | tup x y => cases h
  · cases hd with
    | bl b => cases h
    | int i => cases h
    | non => exact q
    | str x => exact q
    | lst x y => exact q
    | tup x y => exact q
/-- need_hand of a hand -/
def pr_need_hand (K : PySem.W.Frag) (A : Ad) : V → V → Hp → VK → XK → Prop := fun a b H Q _ => ∃ m i, a = .int m ∧ b = .int i ∧ 0 ≤ i ∧ i < m ∧ Q (.int i) H
abbrev sp_need_hand (K : PySem.W.Frag) (A : Ad) : Sp := sp2 (pr_need_hand K A)
def t_need_hand (K : PySem.W.Frag) (A : Ad) : TS :=
    (tSeq (tIfS (tNot (tB (tCall (sp_is_hand K A) [] E0 (tCons (tVar 1) (tCons (tVar 0) tNil)))))
    tNever
    tNext)
    (tRet (tVar 1)))
theorem rd_need_hand {K : PySem.W.Frag} {A : Ad} {a b : V} {H : Hp} {Q : VK} {E : XK} (h : pr_need_hand K A a b H Q E) : t_need_hand K A { nx := fun _ H' => Q .non H', rt := Q } [some a, some b] H := by
  obtain ⟨m, i, rfl, rfl, h0, h1, q⟩ := h
  unfold t_need_hand
  walk_at "rd"
  refine ⟨_, m, .int i, rfl, ?_⟩
  walk_at "rd"
  have e : handD (.int i) m = true := by
    show (decide (0 ≤ i) && decide (i < m)) = true
    rw [decide_eq_true h0, decide_eq_true h1] <;> rfl
  rw [e]
  refine ifF rfl ?_
  walk_at "rd"
  exact q
end SB
namespace SB
open PySem L2
/-! ### the program: is_wait of any data -/
def WaitP (d : PyData) (m : Nat) : Prop := ∃ w : Wt, d = dW w ∧ okW m w
noncomputable def waitD (d : PyData) (m : Nat) : Bool := @decide (WaitP d m) (Classical.propDecidable _)
theorem waitD_t {d : PyData} {m : Nat} (h : WaitP d m) : waitD d m = true := @decide_eq_true _ (Classical.propDecidable _) h
theorem waitD_f {d : PyData} {m : Nat} (h : ¬ WaitP d m) : waitD d m = false := @decide_eq_false _ (Classical.propDecidable _) h
def pr_is_wait (K : PySem.W.Frag) (A : Ad) : V → V → Hp → VK → XK → Prop := fun a b H Q _ => ∃ d m, Td H a d ∧ SeqAt.shaped d = true ∧ b = .int (m : Nat) ∧ ∀ H', Same H H' → Q (.bl (waitD d m)) H'
abbrev sp_is_wait (K : PySem.W.Frag) (A : Ad) : Sp := sp2 (pr_is_wait K A)
/-- what the top has laid: the words -/
def WordsOk (K : PySem.W.Frag) (A : Ad) : Prop := ∀ H, SqT K H A.words [.str "all", .str "any"]
def t_is_wait (K : PySem.W.Frag) (A : Ad) : TS :=
    (tSeq (tIfS (tTest (tOp qIsN (tVar 0) (tC .non)))
    (tRet (tC (.bl true)))
    tNext)
    (tSeq (tIfS (tOr (tNot (tB (tCB (rIsi K) (tCons (tVar 0) (tCons (tC (.ty "tuple")) tNil))))) (tOr (tTest (tOp rNe (tCB (qLen K) (tCons (tVar 0) tNil)) (tC (.int 2)))) (tOr (tNot (tB (tCB (rIsi K) (tCons (tOp (rIxT K) (tVar 0) (tC (.int 0))) (tCons (tC (.ty "str")) tNil))))) (tTest (tOp (rIn K true) (tOp (rIxT K) (tVar 0) (tC (.int 0))) (tC (.ref A.words)))))))
    (tRet (tC (.bl false)))
    tNext)
    (tSeq (tIfS (tOr (tNot (tB (tCB (rIsi K) (tCons (tOp (rIxT K) (tVar 0) (tC (.int 1))) (tCons (tC (.ty "list")) tNil))))) (tTest (tOp (rEqD K) (tOp (rIxT K) (tVar 0) (tC (.int 1))) (tLst tNil))))
    (tRet (tC (.bl false)))
    tNext)
    (tSeq (tFor (iEnum K (tCons (tOp (rIxT K) (tVar 0) (tC (.int 1))) tNil)) (gTup K 2 (gCons (gName 2) (gCons (gName 3) gNil)))
    (tIfS (tOr (tNot (tB (tCall (sp_is_hand K A) [] E0 (tCons (tVar 3) (tCons (tVar 1) tNil))))) (tTest (tOp (rIn K false) (tVar 3) (tSl (rSlL K) (tOp (rIxT K) (tVar 0) (tC (.int 1))) tNoPart (tPart (tVar 2))))))
    (tRet (tC (.bl false)))
    tNext))
    (tRet (tC (.bl true)))))))
theorem tup_inj2 {a b c d : PyData} (h : PyData.tuple [a, b] = .tuple [c, d]) : a = c ∧ b = d := by
  injection h with h
  injection h with h1 h2
  injection h2 with h2 _
  exact ⟨h1, h2⟩
theorem wd_inj {b c : Bool} (h : wd b = wd c) : b = c := by
  cases b <;> cases c <;> first | rfl | exact absurd h (by decide +kernel)
theorem words_in (x : Str) : inV (.str x) [.str "all", .str "any"] = true ↔ ∃ b, x = wd b := by
  unfold inV
  rw [List.any_cons, List.any_cons, List.any_nil, Bool.or_false]
  show (((("all" : Str) == x) || (("any" : Str) == x)) = true) ↔ _
  rw [Bool.or_eq_true, beq_iff_eq, beq_iff_eq]
  constructor
  · rintro (e | e)
    · exact ⟨false, e.symm⟩
    · exact ⟨true, e.symm⟩
  · rintro ⟨b, rfl⟩
    cases b
    · exact .inl rfl
    · exact .inr rfl
theorem rd_is_wait {K : PySem.W.Frag} {A : Ad} (W : WordsOk K A) {a b : V} {H : Hp} {Q : VK} {E : XK} (h : pr_is_wait K A a b H Q E) : t_is_wait K A { nx := fun _ H' => Q .non H', rt := Q } [some a, some b, none, none] H := by
  obtain ⟨d, m, hd, hsh, rfl, q⟩ := h
  have no : ¬ WaitP d m → ∀ H', Same H H' → Q (.bl false) H' := fun n H' s => by
    rw [← waitD_f n]; exact q H' s
  have yes : WaitP d m → ∀ H', Same H H' → Q (.bl true) H' := fun n H' s => by
    rw [← waitD_t n]; exact q H' s
  have Z : Zs H H H H [] := Zs.start (Same.refl _)
  unfold t_is_wait
  walk_at "rd"
  refine ifd (fun h => ?_) (fun h => ?_)
  · walk_at "rd"
    exact yes ⟨none, hd.non_iff.mp h, True.intro⟩ H (Same.refl _)
  have hn : ¬ d = .none := fun q => h (hd.non_iff.mpr q)
  walk_at "rd"
  refine r_isi hd (ki_tuple d) ?_
  walk_at "rd"
  refine ifnb (fun h1 => ?_) (fun h1 => ?_)
  · walk_at "rd"
    refine ifT rfl ?_
    walk_at "rd"
    refine no (fun ⟨w, e, _⟩ => ?_) H (Same.refl _)
    subst e
    cases w with
    | none => exact hn rfl
    | some p => cases h1
  obtain ⟨ds, rfl⟩ : ∃ ds, d = .tuple ds := by
    cases d <;> first | exact ⟨_, rfl⟩ | cases h1
  obtain ⟨p, xs, rfl, hp, hx⟩ := hd.inv_tup
  walk_at "rd"
  refine r_lenT (SqT.of hp) ?_
  walk_at "rd"
  refine ifn (fun h2 => ?_) (fun h2 => ?_)
  · walk_at "rd"
    refine ifT rfl ?_
    walk_at "rd"
    refine no (fun ⟨w, e, _⟩ => ?_) H (Same.refl _)
    cases w with
    | none => cases e
    | some p =>
      cases e
      exact h2 (by rw [hx.len] <;> rfl)
  obtain ⟨x0, x1, d0, d1, rfl, rfl, h0, h1'⟩ : ∃ x0 x1 d0 d1, xs = [x0, x1] ∧ ds = [d0, d1] ∧ Td H x0 d0 ∧ Td H x1 d1 := by
    cases hx with
    | nil => exact absurd h2 (by decide)
    | cons a hx =>
      cases hx with
      | nil => exact absurd h2 (by simp)
      | cons b hx =>
        cases hx with
        | nil => exact ⟨_, _, _, _, rfl, rfl, a, b⟩
        | cons c hx =>
          rw [List.length_cons, List.length_cons, List.length_cons] at h2
          omega
  walk_at "rd"
  refine r_ixT (SqT.of hp) (at_i (by decide) rfl) ?_
  walk_at "rd"
  refine r_isi h0 (ki_str d0) ?_
  walk_at "rd"
  refine ifnb (fun h3 => ?_) (fun h3 => ?_)
  · walk_at "rd"
    refine ifT rfl ?_
    walk_at "rd"
    refine no (fun ⟨w, e, _⟩ => ?_) H (Same.refl _)
    cases w with
    | none => cases e
    | some p => cases e; cases h3
  obtain ⟨s0, rfl⟩ : ∃ s, d0 = .str s := by
    cases d0 <;> first | exact ⟨_, rfl⟩ | cases h3
  cases h0
  walk_at "rd"
  refine r_ixT (SqT.of hp) (at_i (by decide) rfl) ?_
  walk_at "rd"
  refine r_inT (W H) rfl rfl ?_
  rw [if_pos rfl]
  walk_at "rd"
  refine ifnb (fun h4 => ?_) (fun h4 => ?_)
  · walk_at "rd"
    refine no (fun ⟨w, e, _⟩ => ?_) H (Same.refl _)
    cases w with
    | none => cases e
    | some p =>
      cases e
      rw [(words_in _).mpr ⟨p.1, rfl⟩] at h4
      cases h4
  obtain ⟨bw, rfl⟩ := (words_in _).mp h4
  walk_at "rd"
  refine r_ixT (SqT.of hp) (at_i (by decide) rfl) ?_
  walk_at "rd"
  refine r_isi h1' (ki_list d1) ?_
  walk_at "rd"
  refine ifnb (fun h5 => ?_) (fun h5 => ?_)
  · walk_at "rd"
    refine ifT rfl ?_
    walk_at "rd"
    refine no (fun ⟨w, e, _⟩ => ?_) H (Same.refl _)
    cases w with
    | none => cases e
    | some p => rw [(tup_inj2 e).2] at h5; cases h5
  obtain ⟨es, rfl⟩ : ∃ s, d1 = .list s := by
    cases d1 <;> first | exact ⟨_, rfl⟩ | cases h5
  obtain ⟨l, ys, rfl, hl, hy⟩ := h1'.inv_lst
  have shl : SeqAt.shaped (.list es) = true := shaped_t hsh (by simp)
  walk_at "rd"
  refine r_ixT (SqT.of hp) (at_i (by decide) rfl) ?_
  walk_at "rd"
  refine r_mk sz0 Z (fun p1 H1 Z1 => ?_)
  refine r_eqD (d := .list es) (e := .list []) (h1'.up Z1.hh) (.lst (Z1.get (i := 0) rfl) .nil) shl rfl ?_
  rw [eqv_nil]
  walk_at "rd"
  have fin : ∀ b os, PyData.tuple [.str (wd bw), .list es] = dW (some (b, os)) → es = os.map PyData.int := fun b os e => by
    have := (tup_inj2 e).2
    injection this
  refine ifb (fun h6 => ?_) (fun h6 => ?_)
  · walk_at "rd"
    refine no (fun ⟨w, e, k⟩ => ?_) H1 Z1.hh
    cases w with
    | none => cases e
    | some p =>
      have e2 := fin _ _ e
      have k1 := k.1
      cases hh : p.2 with
      | nil => exact k1 hh
      | cons x y => rw [e2, hh] at h6; cases h6
  walk_at "rd"
  refine r_ixT (SqT.of (Z1.fh _ _ hp)) (at_i (by decide) rfl) ?_
  walk_at "rd"
  have hlen := hy.len
  refine r_enumI (xs := ys) (SqL.of (Z1.fh _ _ hl)) (fun i σ' H' => ∃ x2 x3, σ' = [some (.ref p), some (.int (m : Nat)), x2, x3] ∧ Zs H H H H' [] ∧ ∃ os : List Int, es.take i = os.map PyData.int ∧ os.Nodup ∧ ∀ o ∈ os, 0 ≤ o ∧ o < (m : Int))
    ⟨none, none, rfl, Z1.nil, [], by simp, List.nodup_nil, fun _ q => (nomatch q)⟩ (fun i σ' H' _ ⟨_, _, _, Z', _⟩ => SqL.of (Z'.fh _ _ hl)) ?_ ?_
  · rintro i x T σ' H' hi ⟨x2, x3, rfl, Z', os, o1, o2, o3⟩ hT
    have Z2 := Z'.alloc (o := .tup [.int (i : Nat), x]) hT
    refine r_gt2 (SqT.of (Z2.get (i := 0) rfl)) ?_
    dsimp only [List.set_cons_succ, List.set_cons_zero]
    replace Z2 := Z2.drop
    obtain ⟨di, hdi, hxi⟩ := hy.at hi
    walk_at "rd"
    refine ⟨di, (m : Nat), hxi.up Z2.fh, rfl, ?_⟩
    walk_at "rd"
    have bad : ∀ os' : List Int, es = os'.map PyData.int → ∃ o, os'[i]? = some o ∧ di = .int o ∧ os = os'.take i := fun os' e => by
      subst e
      rw [List.getElem?_map] at hdi
      cases e2 : os'[i]? with
      | none => rw [e2] at hdi; cases hdi
      | some o =>
        rw [e2] at hdi
        refine ⟨o, rfl, (Option.some.inj hdi).symm, ?_⟩
        rw [← List.map_take] at o1
        exact ((List.map_inj_right (fun a b q => by cases q; rfl)).mp o1).symm
    refine ifnb (fun h7 => ?_) (fun h7 => ?_)
    · walk_at "rd"
      refine ifT rfl ?_
      walk_at "rd"
      refine no (fun ⟨w, e, k⟩ => ?_) _ Z2.hh
      cases w with
      | none => cases e
      | some p =>
        obtain ⟨o, ho, rfl, _⟩ := bad _ (fin _ _ e)
        have := k.2.2 o (List.mem_of_getElem? ho)
        have h7' : (decide (0 ≤ o) && decide (o < (m : Int))) = false := h7
        rw [decide_eq_true this.1, decide_eq_true this.2] at h7'
        cases h7'
    obtain ⟨o, rfl, h8, h9⟩ : ∃ o, di = .int o ∧ 0 ≤ o ∧ o < (m : Int) := by
      cases di with
      | int o =>
        have h7' : (decide (0 ≤ o) && decide (o < (m : Int))) = true := h7
        rw [Bool.and_eq_true] at h7'
        exact ⟨o, rfl, of_decide_eq_true h7'.1, of_decide_eq_true h7'.2⟩
      | _ => cases h7
    cases hxi
    walk_at "rd"
    refine r_ixT (SqT.of (Z2.fh _ _ hp)) (at_i (by decide) rfl) ?_
    walk_at "rd"
    refine r_slL Z2 (SqL.of (Z2.fh _ _ hl)) (fun p3 H3 Z3 => ?_)
    have ey : ys.take i = os.map V.int := by
      have := (hy.take i)
      rw [o1] at this
      exact this.of_ints
    rw [cut_take, ey] at Z3
    refine r_inL (SqL.of (Z3.get (i := 0) rfl)) rfl (flat_ints _) ?_
    rw [if_neg (by decide), inV_int]
    walk_at "rd"
    refine ifd (fun h10 => ?_) (fun h10 => ?_)
    · walk_at "rd"
      refine no (fun ⟨w, e, k⟩ => ?_) _ Z3.hh
      cases w with
      | none => cases e
      | some p =>
        obtain ⟨o', ho, e3, e4⟩ := bad _ (fin _ _ e)
        cases e3
        rw [e4] at h10
        have nd := k.2.1
        obtain ⟨j, hj⟩ := List.mem_iff_getElem?.mp h10
        rw [List.getElem?_take] at hj
        split at hj
        · rename_i lt
          have := nd_ix nd ho hj
          omega
        · cases hj
    · walk_at "rd"
      refine ⟨_, _, rfl, Z3.nil, os ++ [o], ?_, ?_, ?_⟩
      · rw [take_snoc hdi, o1, List.map_append] <;> rfl
      · rw [List.nodup_append]
        exact ⟨o2, by simp, fun a ha b hb => by
          rw [List.mem_singleton] at hb
          subst hb
          exact fun q => h10 (q ▸ ha)⟩
      · intro a ha
        rcases List.mem_append.mp ha with ha | ha
        · exact o3 a ha
        · rw [List.mem_singleton] at ha
          subst ha
          exact ⟨h8, h9⟩
  · rintro σ' H' ⟨x2, x3, rfl, Z', os, o1, o2, o3⟩
    rw [hlen, List.take_length] at o1
    walk_at "rd"
    refine yes ⟨some (bw, os), ?_, ?_, o2, o3⟩ _ Z'.hh
    · rw [o1] <;> rfl
    · intro e
      subst e
      rw [o1] at h6
      cases h6
end SB
namespace SB
open PySem L2
/-! ### the program: need of good waits -/
def pr_need (K : PySem.W.Frag) (A : Ad) : V → Hp → VK → XK → Prop := fun a H Q _ => ∃ ws, Td H a (dWs ws) ∧ OkWs ws ∧ ∀ H', Same H H' → Q (.bl true) H'
abbrev sp_need (K : PySem.W.Frag) (A : Ad) : Sp := sp1 (pr_need K A)
def t_need (K : PySem.W.Frag) (A : Ad) : TS :=
    (tSeq (tIfS (tOr (tNot (tB (tCB (rIsi K) (tCons (tVar 0) (tCons (tC (.ty "list")) tNil))))) (tNot (tTest (tChain qLe qLe (tC (.int 1)) (tCB (qLen K) (tCons (tVar 0) tNil)) (tC (.int 40))))))
    tNever
    tNext)
    (tSeq (tFor (iEnum K (tCons (tVar 0) tNil)) (gTup K 2 (gCons (gName 1) (gCons (gName 2) gNil)))
    (tIfS (tNot (tB (tCall (sp_is_wait K A) [] E0 (tCons (tVar 2) (tCons (tCB (qLen K) (tCons (tVar 0) tNil)) tNil)))))
    tNever
    tNext))
    (tRet (tC (.bl true)))))
theorem rd_need {K : PySem.W.Frag} {A : Ad} {a : V} {H : Hp} {Q : VK} {E : XK} (h : pr_need K A a H Q E) : t_need K A { nx := fun _ H' => Q .non H', rt := Q } [some a, none, none] H := by
  obtain ⟨ws, hd, ok, q⟩ := h
  have Z : Zs H H H H [] := Zs.start (Same.refl _)
  have hd0 := hd
  obtain ⟨p, xs, rfl, hp, hx, hl⟩ := Td.inv_ws hd0
  unfold t_need
  walk_at "rd"
  refine r_isi hd (ki_list _) ?_
  walk_at "rd"
  refine ifF rfl ?_
  walk_at "rd"
  refine r_lenL (SqL.of hp) ?_
  have o1 := ok.pos
  have o2 := ok.most
  walk_at "rd"
  refine ifd (fun _ => ?_) (fun h => absurd (by omega) h)
  walk_at "rd"
  refine ifF (by rw [decide_eq_true (by omega)]; rfl) ?_
  walk_at "rd"
  refine r_enumI (xs := xs) (SqL.of hp) (fun i σ' H' => ∃ x2 x3, σ' = [some (.ref p), x2, x3] ∧ Zs H H H H' []) ⟨none, none, rfl, Z⟩ (fun i σ' H' _ ⟨_, _, _, Z'⟩ => SqL.of (Z'.fh _ _ hp)) ?_ ?_
  · rintro i x T σ' H' hi ⟨x2, x3, rfl, Z'⟩ hT
    have Z2 := Z'.alloc (o := .tup [.int (i : Nat), x]) hT
    refine r_gt2 (SqT.of (Z2.get (i := 0) rfl)) ?_
    dsimp only [List.set_cons_succ, List.set_cons_zero]
    replace Z2 := Z2.drop
    obtain ⟨w, hw, hxw⟩ := TdA.ws_at hx hi
    walk_at "rd"
    refine r_lenL (SqL.of (Z2.fh _ _ hp)) ?_
    walk_at "rd"
    refine ⟨dW w, ws.length, hxw.up Z2.fh, shaped_map1 w, by rw [hl], fun H3 s3 => ?_⟩
    walk_at "rd"
    rw [waitD_t ⟨w, rfl, ok.all w (List.mem_of_getElem? hw)⟩]
    refine ifF rfl ?_
    walk_at "rd"
    exact ⟨_, _, rfl, Z2.ext s3⟩
  · rintro σ' H' ⟨x2, x3, rfl, Z'⟩
    walk_at "rd"
    exact q _ Z'.hh

/-! ### the program: shows of good waits and of hands -/
def showsAt (ws : List Wt) (hs : List Int) (h : Int) : Bool := match ws[h.toNat]? with
  | some (some (b, os)) => let w := os.filter fun o => decide (o ∈ hs)
    !w.isEmpty && (!b || decide (w.length = os.length))
  | _ => false
def showsB (ws : List Wt) (hs : List Int) : Bool := hs.all (showsAt ws hs)
def pr_shows (K : PySem.W.Frag) (A : Ad) : V → V → Hp → VK → XK → Prop := fun a b H Q _ => ∃ ws hs, Td H a (dWs ws) ∧ OkWs ws ∧ Td H b (.list (hs.map PyData.int)) ∧ (∀ h ∈ hs, 0 ≤ h ∧ h < (ws.length : Int)) ∧ hs.length ≤ 1000 ∧ ∀ H', Same H H' → Q (.bl (showsB ws hs)) H'
abbrev sp_shows (K : PySem.W.Frag) (A : Ad) : Sp := sp2 (pr_shows K A)
def t_shows (K : PySem.W.Frag) (A : Ad) : TS :=
    (tSeq (tDrop (tCall (sp_need K A) [] E0 (tCons (tVar 0) tNil)))
    (tSeq (tFor (iList K (tVar 1)) (gName 2)
    (tDrop (tCall (sp_need_hand K A) [] E0 (tCons (tCB (qLen K) (tCons (tVar 0) tNil)) (tCons (tVar 2) tNil)))))
    (tSeq (tFor (iList K (tVar 1)) (gName 2)
    (tSeq (tAsg (tOp (rIxL K) (tVar 0) (tVar 2)) (gName 3))
    (tSeq (tIfS (tTest (tOp qIsN (tVar 3) (tC .non)))
    (tRet (tC (.bl false)))
    tNext)
    (tSeq (tAsg (tLc (iList K (tOp (rIxT K) (tVar 3) (tC (.int 1)))) (gName 4) (tTest (tOp (rIn K false) (tVar 4) (tVar 1))) (tVar 4) [4]) (gName 5))
    (tIfS (tOr (tTest (tOp (rEqD K) (tVar 5) (tLst tNil))) (tAnd (tTest (tOp rEq (tOp (rIxT K) (tVar 3) (tC (.int 0))) (tC (.str "any")))) (tTest (tOp qLt (tCB (qLen K) (tCons (tVar 5) tNil)) (tCB (qLen K) (tCons (tOp (rIxT K) (tVar 3) (tC (.int 1))) tNil))))))
    (tRet (tC (.bl false)))
    tNext)))))
    (tRet (tC (.bl true))))))
theorem rd_shows {K : PySem.W.Frag} {A : Ad} {a b : V} {H : Hp} {Q : VK} {E : XK} (h : pr_shows K A a b H Q E) : t_shows K A { nx := fun _ H' => Q .non H', rt := Q } [some a, some b, none, none, none, none] H := by
  obtain ⟨ws, hs, hd, ok, hb, hr, hsz, q⟩ := h
  have hd0 := hd
  obtain ⟨p, xs, rfl, hp, hx, hl⟩ := Td.inv_ws hd0
  obtain ⟨l, rfl, hl2⟩ := Td.inv_ints hb
  have Z : Zs H H H H [] := Zs.start (Same.refl _)
  unfold t_shows
  walk_at "rd"
  refine ⟨ws, hd, ok, fun H1 s1 => ?_⟩
  replace Z := Z.ext s1
  walk_at "rd"
  refine r_lstI (xs := hs.map V.int) (SqL.of (Z.fh _ _ hl2)) (fun i σ' H' => ∃ x2, σ' = [some (.ref p), some (.ref l), x2, none, none, none] ∧ Zs H H H H' []) ⟨none, rfl, Z⟩ (fun i σ' H' _ ⟨_, _, Z'⟩ => SqL.of (Z'.fh _ _ hl2)) ?_ ?_
  · rintro i x σ' H' hi ⟨x2, rfl, Z'⟩
    obtain ⟨n, hn, rfl⟩ := of_get_ints hi
    have hn2 := hr n (List.mem_of_getElem? hn)
    walk_at "rd"
    refine r_lenL (SqL.of (Z'.fh _ _ hp)) ?_
    walk_at "rd"
    refine ⟨_, n, rfl, rfl, hn2.1, by omega, ?_⟩
    exact ⟨_, rfl, Z'⟩
  · rintro σ' H' ⟨x2, rfl, Z'⟩
    walk_at "rd"
    refine r_lstI (xs := hs.map V.int) (SqL.of (Z'.fh _ _ hl2)) (fun i σ' H' => ∃ x2 x3 x4 x5, σ' = [some (.ref p), some (.ref l), x2, x3, x4, x5] ∧ Zs H H H H' [] ∧ (hs.take i).all (showsAt ws hs) = true)
      ⟨x2, none, none, none, rfl, Z', rfl⟩ (fun i σ' H' _ ⟨_, _, _, _, _, Z', _⟩ => SqL.of (Z'.fh _ _ hl2)) ?_ ?_
    · rintro i x σ' H' hi ⟨x2, x3, x4, x5, rfl, Z', ha⟩
      obtain ⟨n, hn, rfl⟩ := of_get_ints hi
      have hn2 := hr n (List.mem_of_getElem? hn)
      have hnl : n.toNat < ws.length := by omega
      have no : showsAt ws hs n = false → ∀ H', Same H H' → Q (.bl false) H' := fun e H' s => by
        have : showsB ws hs = false := by
          unfold showsB
          rw [List.all_eq_false]
          exact ⟨n, List.mem_of_getElem? hn, by rw [e]; decide⟩
        rw [← this]
        exact q H' s
      have wsn : ws[n.toNat]? = some ws[n.toNat] := List.getElem?_eq_getElem hnl
      obtain ⟨y, hy, hyw⟩ := TdA.ws_get hx wsn
      walk_at "rd"
      refine r_ixL (SqL.of (Z'.fh _ _ hp)) (at_i hn2.1 hy) ?_
      walk_at "rd"
      refine ifd (fun h => ?_) (fun h => ?_)
      · walk_at "rd"
        subst h
        refine no ?_ _ Z'.hh
        unfold showsAt
        rw [wsn, Td.w_non hyw]
      obtain ⟨bw, os, ew⟩ : ∃ b os, ws[n.toNat] = some (b, os) := by
        cases e : ws[n.toNat] with
        | none => rw [e] at hyw; exact absurd (Td.inv_non hyw) h
        | some z => exact ⟨z.1, z.2, rfl⟩
      rw [ew] at hyw wsn
      have okw := ok.all _ (List.mem_of_getElem? wsn)
      obtain ⟨t, o, rfl, ht, ho⟩ := Td.inv_w hyw
      have osz : os.length ≤ 100000 := by
        have : os.length ≤ ws.length := nodup_bound okw.2.1 (fun o ho => okw.2.2 o ho)
        have := ok.most
        omega
      walk_at "rd"
      refine r_ixT (SqT.of (Z'.fh _ _ ht)) (at_i (by decide) rfl) ?_
      refine lc_lst (xs := os.map V.int) (SqL.of (Z'.fh _ _ ho)) Z' (fun i acc F' => acc = ((os.take i).filter fun o => decide (o ∈ hs)).map V.int) rfl (fun F' H' Z'' s => SqL.of (Z''.fh _ _ (s _ _ ho))) ?_ ?_
      · intro j x Dl F' H'' acc hj Z'' s hacc e
        subst e
        obtain ⟨c, hc, rfl⟩ := of_get_ints hj
        dsimp only [wipe]
        walk_at "rd"
        refine ⟨rfl, ?_⟩
        walk_at "rd"
        refine r_inL (SqL.of (Z''.fh _ _ (s _ _ hl2))) rfl (flat_ints _) ?_
        rw [if_neg (by decide), inV_int]
        walk_at "rd"
        refine ifd (fun h2 => ?_) (fun h2 => ?_)
        · walk_at "rd"
          have hjl : j < os.length := (List.getElem?_eq_some_iff.mp hc).1
          refine cy Z'' s hacc (by omega) ?_
          rw [take_snoc hc, List.filter_append, List.filter_cons, if_pos (decide_eq_true h2), List.map_append] <;> rfl
        · refine cn Z'' s hacc ?_
          rw [take_snoc hc, List.filter_append, List.filter_cons, if_neg (by rw [decide_eq_false h2]; decide), List.filter_nil, List.append_nil]
      · intro Dl F' H'' acc Z'' s e
        rw [List.length_map, List.take_length] at e
        subst e
        have Zn := Z''.ff
        walk_at "rd"
        refine r_mk sz0 Z'' (fun p3 H3 Z3 => ?_)
        refine r_eqD (Td.ints_lst (Z3.get (i := 1) rfl)) (.lst (Z3.get (i := 0) rfl) .nil) (shaped_ints _) rfl ?_
        rw [eqv_nil]
        replace Z3 := Z3.drop
        walk_at "rd"
        have hs' : showsAt ws hs n = (!(os.filter fun o => decide (o ∈ hs)).isEmpty && (!bw || decide ((os.filter fun o => decide (o ∈ hs)).length = os.length))) := by
          unfold showsAt
          rw [wsn]
        have em : ((os.filter fun o => decide (o ∈ hs)).map PyData.int).isEmpty = (os.filter fun o => decide (o ∈ hs)).isEmpty := by
          cases (os.filter fun o => decide (o ∈ hs)) <;> rfl
        rw [em]
        refine ifb (fun h3 => ?_) (fun h3 => ?_)
        · walk_at "rd"
          refine no ?_ _ Z3.hh
          rw [hs', h3] <;> rfl
        have goOn : showsAt ws hs n = true → ∃ y2 y3 y4 y5, [some (V.ref p), some (V.ref l), some (V.int n), some (V.ref t), x4, some (V.ref Dl)] = [some (V.ref p), some (V.ref l), y2, y3, y4, y5] ∧ Zs H H H H3 [] ∧ (hs.take (i + 1)).all (showsAt ws hs) = true := fun e => by
          refine ⟨_, _, _, _, rfl, Z3.back (Same.refl _), ?_⟩
          rw [take_snoc hn, List.all_append, ha, List.all_cons, e] <;> rfl
        walk_at "rd"
        refine r_ixT (SqT.of (Z3.fh _ _ (s _ _ ht))) (at_i (by decide) rfl) ?_
        walk_at "rd"
        rw [wd_any]
        refine ifb (fun h4 => ?_) (fun h4 => ?_)
        · walk_at "rd"
          refine r_lenL (SqL.of (Z3.get (i := 0) rfl)) ?_
          walk_at "rd"
          refine r_ixT (SqT.of (Z3.fh _ _ (s _ _ ht))) (at_i (by decide) rfl) ?_
          walk_at "rd"
          refine r_lenL (SqL.of (Z3.fh _ _ (s _ _ ho))) ?_
          rw [List.length_map, List.length_map]
          have le : (os.filter fun o => decide (o ∈ hs)).length ≤ os.length := List.length_filter_le _ _
          walk_at "rd"
          refine ifd (fun h5 => ?_) (fun h5 => ?_)
          · walk_at "rd"
            refine no ?_ _ Z3.hh
            rw [hs', h4, decide_eq_false (by omega)]
            simp
          · walk_at "rd"
            refine goOn ?_
            rw [hs', h3, decide_eq_true (by omega)]
            simp
        · refine ifF rfl ?_
          walk_at "rd"
          refine goOn ?_
          rw [hs', h3, h4] <;> rfl
    · rintro σ' H' ⟨x2, x3, x4, x5, rfl, Z', ha⟩
      rw [List.length_map, List.take_length] at ha
      walk_at "rd"
      have : showsB ws hs = true := ha
      rw [← this]
      exact q _ Z'.hh
end SB
/-! ## rounds: who is freed when; plain Lean -/
namespace SB
/-- whether a hand is freed in a round below t -/
def fr (ws : List Wt) : Nat → Nat → Bool
  | 0, _ => false
  | t + 1, h => match ws[h]? with
    | some (some (b, os)) => if b then os.any (fun o => fr ws t o.toNat) else os.all (fun o => fr ws t o.toNat)
    | some none => true
    | none => false
/-- the round of a hand, if it is below t -/
def rnd (ws : List Wt) : Nat → Nat → Option Nat
  | 0, _ => none
  | t + 1, h => match rnd ws t h with
    | some r => some r
    | none => if fr ws (t + 1) h then some t else none
section
variable {ws : List Wt} {t h : Nat}
theorem fr_none (e : ws[h]? = some none) : fr ws (t + 1) h = true := by
  show (match ws[h]? with | some (some (b, os)) => _ | some none => true | none => false) = true
  rw [e]
theorem fr_some {b : Bool} {os : List Int} (e : ws[h]? = some (some (b, os))) : fr ws (t + 1) h = if b then os.any (fun o => fr ws t o.toNat) else os.all (fun o => fr ws t o.toNat) := by
  show (match ws[h]? with | some (some (b, os)) => _ | some none => true | none => false) = _
  rw [e]
theorem fr_out (e : ws[h]? = none) : ∀ t, fr ws t h = false
  | 0 => rfl
  | t + 1 => by
    show (match ws[h]? with | some (some (b, os)) => _ | some none => true | none => false) = false
    rw [e]
theorem fr_up : ∀ t h, fr ws t h = true → fr ws (t + 1) h = true
  | 0, h, q => by cases q
  | t + 1, h, q => by
    cases e : ws[h]? with
    | none => rw [fr_out e] at q; cases q
    | some w =>
      cases w with
      | none => exact fr_none e
      | some p =>
        obtain ⟨b, os⟩ := p
        rw [fr_some e] at q ⊢
        cases b with
        | true =>
          rw [if_pos rfl] at q ⊢
          rw [List.any_eq_true] at q ⊢
          obtain ⟨o, m, z⟩ := q
          exact ⟨o, m, fr_up t _ z⟩
        | false =>
          rw [if_neg Bool.false_ne_true] at q ⊢
          rw [List.all_eq_true] at q ⊢
          exact fun o m => fr_up t _ (q o m)
theorem fr_mono {s : Nat} : ∀ {t : Nat}, s ≤ t → fr ws s h = true → fr ws t h = true
  | 0, l, q => by
    obtain rfl : s = 0 := Nat.le_zero.mp l
    exact q
  | t + 1, l, q => by
    by_cases e : s = t + 1
    · subst e; exact q
    · exact fr_up t h (fr_mono (by omega) q)
theorem rnd_succ_some {r : Nat} (e : rnd ws t h = some r) : rnd ws (t + 1) h = some r := by
  show (match rnd ws t h with | some r => some r | none => _) = _
  rw [e]
theorem rnd_succ_none (e : rnd ws t h = none) : rnd ws (t + 1) h = if fr ws (t + 1) h then some t else none := by
  show (match rnd ws t h with | some r => some r | none => _) = _
  rw [e]
theorem rnd_some : ∀ {t r : Nat}, rnd ws t h = some r → r < t ∧ fr ws (r + 1) h = true ∧ fr ws r h = false
  | 0, r, e => by cases e
  | t + 1, r, e => by
    cases q : rnd ws t h with
    | some x =>
      rw [rnd_succ_some q] at e
      cases e
      obtain ⟨a, b⟩ := rnd_some q
      exact ⟨by omega, b⟩
    | none =>
      rw [rnd_succ_none q] at e
      split at e
      · rename_i z
        cases e
        refine ⟨by omega, z, ?_⟩
        cases c : fr ws t h with
        | false => rfl
        | true =>
          have := rnd_has t c
          rw [q] at this
          cases this
      · cases e
where
  rnd_has : ∀ t, fr ws t h = true → (rnd ws t h).isSome = true
    | 0, q => by cases q
    | t + 1, q => by
      cases e : rnd ws t h with
      | some x => rw [rnd_succ_some e] <;> rfl
      | none => rw [rnd_succ_none e, if_pos q] <;> rfl
theorem rnd_iff (t : Nat) : rnd ws t h = none ↔ fr ws t h = false := by
  constructor
  · intro e
    cases c : fr ws t h with
    | false => rfl
    | true =>
      have := rnd_some.rnd_has (ws := ws) (h := h) t c
      rw [e] at this
      cases this
  · intro q
    cases e : rnd ws t h with
    | none => rfl
    | some r =>
      obtain ⟨a, b, _⟩ := rnd_some e
      rw [fr_mono (by omega : r + 1 ≤ t) b] at q
      cases q
theorem rnd_of {r : Nat} (l : r < t) (a : fr ws (r + 1) h = true) (b : fr ws r h = false) : rnd ws t h = some r := by
  cases e : rnd ws t h with
  | none =>
    have := (rnd_iff t).mp e
    rw [fr_mono (by omega : r + 1 ≤ t) a] at this
    cases this
  | some x =>
    obtain ⟨c, d, f⟩ := rnd_some e
    by_cases q1 : x < r
    · rw [fr_mono (by omega : x + 1 ≤ r) d] at b; cases b
    · by_cases q2 : r < x
      · rw [fr_mono (by omega : r + 1 ≤ x) a] at f; cases f
      · rw [show x = r by omega]
/-- nothing new at t: nothing new ever -/
theorem fr_still (q : ∀ h, h < ws.length → fr ws (t + 1) h = true → fr ws t h = true) : ∀ s h, t ≤ s → fr ws s h = true → fr ws t h = true
  | 0, h, l, z => by
    obtain rfl : t = 0 := Nat.le_zero.mp l
    exact z
  | s + 1, h, l, z => by
    by_cases e : t = s + 1
    · subst e; exact z
    have ih := fr_still q s
    cases e1 : ws[h]? with
    | none => rw [fr_out e1] at z; cases z
    | some w =>
      have hl : h < ws.length := (List.getElem?_eq_some_iff.mp e1).1
      refine q h hl ?_
      cases w with
      | none => exact fr_none e1
      | some p =>
        obtain ⟨b, os⟩ := p
        rw [fr_some e1] at z ⊢
        cases b with
        | true =>
          rw [if_pos rfl] at z ⊢
          rw [List.any_eq_true] at z ⊢
          obtain ⟨o, m, c⟩ := z
          exact ⟨o, m, ih _ (by omega) c⟩
        | false =>
          rw [if_neg Bool.false_ne_true] at z ⊢
          rw [List.all_eq_true] at z ⊢
          exact fun o m => ih _ (by omega) (z o m)
def cnt (ws : List Wt) (t : Nat) : Nat := ((List.range ws.length).filter (fr ws t)).length
theorem filter_le {p q : Nat → Bool} : ∀ l : List Nat, (∀ x ∈ l, p x = true → q x = true) → (l.filter p).length ≤ (l.filter q).length
  | [], _ => Nat.le_refl _
  | a :: l, h => by
    have ih := filter_le l fun x m => h x (List.mem_cons_of_mem _ m)
    rw [List.filter_cons, List.filter_cons]
    cases e : p a with
    | true => rw [h a List.mem_cons_self e]; simp; exact ih
    | false =>
      cases q a with
      | true => simp; omega
      | false => simpa using ih
theorem filter_lt {p q : Nat → Bool} : ∀ l : List Nat, (∀ x ∈ l, p x = true → q x = true) → (∃ x ∈ l, q x = true ∧ p x = false) → (l.filter p).length < (l.filter q).length
  | [], _, ⟨_, m, _⟩ => (nomatch m)
  | a :: l, h, ⟨x, m, z1, z2⟩ => by
    have h' : ∀ x ∈ l, p x = true → q x = true := fun x m => h x (List.mem_cons_of_mem _ m)
    rw [List.filter_cons, List.filter_cons]
    rcases List.mem_cons.mp m with rfl | m
    · rw [z1, z2]
      have := filter_le l h'
      simp
      omega
    · have ih := filter_lt l h' ⟨x, m, z1, z2⟩
      cases e : p a with
      | true => rw [h a List.mem_cons_self e]; simp; exact ih
      | false =>
        cases q a with
        | true => simp; omega
        | false => simpa using ih
/-- all is settled after as many turns as there are hands -/
theorem fr_end (s h : Nat) (z : fr ws s h = true) : fr ws ws.length h = true := by
  have main : ∃ t, t ≤ ws.length ∧ ∀ h, h < ws.length → fr ws (t + 1) h = true → fr ws t h = true := by
    refine Classical.byContradiction fun no => ?_
    have grow : ∀ t, t ≤ ws.length + 1 → t ≤ cnt ws t := by
      intro t
      induction t with
      | zero => intro _; exact Nat.zero_le _
      | succ t ih =>
        intro l
        have ih := ih (by omega)
        have q : ∃ x ∈ List.range ws.length, fr ws (t + 1) x = true ∧ fr ws t x = false := by
          refine Classical.byContradiction fun n2 => no ⟨t, by omega, fun h hl a => ?_⟩
          cases c : fr ws t h with
          | true => rfl
          | false => exact absurd ⟨h, List.mem_range.mpr hl, a, c⟩ n2
        have := filter_lt (p := fr ws t) (q := fr ws (t + 1)) (List.range ws.length) (fun x _ => fr_up t x) q
        unfold cnt at ih ⊢
        omega
    have h1 := grow (ws.length + 1) (Nat.le_refl _)
    have h2 := List.length_filter_le (fr ws (ws.length + 1)) (List.range ws.length)
    rw [List.length_range] at h2
    unfold cnt at h1
    omega
  obtain ⟨t, l, q⟩ := main
  by_cases c : t ≤ s
  · exact fr_mono l (fr_still q s h c z)
  · exact fr_mono (by omega) z
/-- rounds below t are all rounds, where nothing is new at t -/
theorem rnd_still (q : ∀ h, h < ws.length → fr ws (t + 1) h = true → fr ws t h = true) (h : Nat) : rnd ws t h = rnd ws ws.length h := by
  cases e : rnd ws t h with
  | some r =>
    obtain ⟨a, b, c⟩ := rnd_some e
    refine (rnd_of (r := r) ?_ b c).symm
    refine Classical.byContradiction fun n => ?_
    have := fr_mono (by omega : ws.length ≤ r) (fr_end _ _ b)
    rw [c] at this
    cases this
  | none =>
    have e' := (rnd_iff t).mp e
    refine ((rnd_iff _).mpr ?_).symm
    cases c : fr ws ws.length h with
    | false => rfl
    | true =>
      by_cases l : t ≤ ws.length
      · rw [fr_still q _ _ l c] at e'; cases e'
      · rw [fr_mono (by omega : ws.length ≤ t) c] at e'; cases e'
end
/-- the rounds of all hands -/
def rnds (ws : List Wt) (t : Nat) : List (Option Nat) := (List.range ws.length).map (rnd ws t)
def rndF (ws : List Wt) : List (Option Nat) := rnds ws ws.length
theorem rnds_len (ws : List Wt) (t : Nat) : (rnds ws t).length = ws.length := by unfold rnds; rw [List.length_map, List.length_range]
theorem rnds_get {ws : List Wt} {t h : Nat} (l : h < ws.length) : (rnds ws t)[h]? = some (rnd ws t h) := by
  unfold rnds
  rw [List.getElem?_map, List.getElem?_range l] <;> rfl
end SB
namespace SB
open PySem L2
/-! ### the program: comes_free, freed, stuck -/
def rV : Option Nat → V
  | none => .non
  | some n => .int (n : Int)
def dR : Option Nat → PyData
  | none => .none
  | some n => .int (n : Int)
theorem td_r {F : Hp} (r : Option Nat) : Td F (rV r) (dR r) := by cases r; exact .non; exact .int _
theorem tdA_r {F : Hp} (rs : List (Option Nat)) : TdA F (rs.map rV) (rs.map dR) := TdA.of_map td_r rs
theorem rV_non {r : Option Nat} : rV r = .non ↔ r = none := by cases r <;> constructor <;> intro h <;> first | rfl | exact (nomatch h)
theorem get_r {rs : List (Option Nat)} {i : Nat} {r : Option Nat} (h : rs[i]? = some r) : (rs.map rV)[i]? = some (rV r) := by rw [List.getElem?_map, h] <;> rfl
def hasR (rs : List (Option Nat)) (o : Int) : Bool := (rs.getD o.toNat none).isSome
def comesB (b : Bool) (os : List Int) (rs : List (Option Nat)) : Bool := if b then os.any (hasR rs) else os.all (hasR rs)
def pr_comes_free (K : PySem.W.Frag) (A : Ad) : V → V → Hp → VK → XK → Prop := fun a b H Q _ => ∃ (bw : Bool) (os : List Int) (rs : List (Option Nat)) (p : Addr), Td H a (dW (some (bw, os))) ∧ okW rs.length (some (bw, os)) ∧ rs.length ≤ 40 ∧ b = .ref p ∧ H p = some (.lst (rs.map rV)) ∧ ∀ H', Same H H' → Q (.bl (comesB bw os rs)) H'
abbrev sp_comes_free (K : PySem.W.Frag) (A : Ad) : Sp := sp2 (pr_comes_free K A)
def t_comes_free (K : PySem.W.Frag) (A : Ad) : TS :=
    (tSeq (tAsg (tLc (iList K (tOp (rIxT K) (tVar 0) (tC (.int 1)))) (gName 2) (tTest (tOp qNotN (tOp (rIxL K) (tVar 1) (tVar 2)) (tC .non))) (tVar 2) [2]) (gName 3))
    (tSeq (tIfS (tTest (tOp rEq (tOp (rIxT K) (tVar 0) (tC (.int 0))) (tC (.str "any"))))
    (tRet (tOp (rNeD K) (tVar 3) (tLst tNil)))
    tNext)
    (tRet (tOp rEq (tCB (qLen K) (tCons (tVar 3) tNil)) (tCB (qLen K) (tCons (tOp (rIxT K) (tVar 0) (tC (.int 1))) tNil))))))
theorem filter_any {p : Int → Bool} : ∀ os : List Int, (os.filter p).isEmpty = !os.any p
  | [] => rfl
  | a :: os => by
    have ih := filter_any (p := p) os
    rw [List.filter_cons, List.any_cons]
    cases p a with
    | true => rfl
    | false => rw [if_neg Bool.false_ne_true, ih, Bool.false_or]
theorem filter_all {p : Int → Bool} (os : List Int) : decide ((os.filter p).length = os.length) = os.all p := by
  by_cases h : os.all p = true
  · rw [h, List.filter_eq_self.mpr (List.all_eq_true.mp h), decide_eq_true rfl]
  · have h' : os.all p = false := by simpa using h
    rw [h', decide_eq_false fun q => ?_]
    exact h (List.all_eq_true.mpr (List.filter_eq_self.mp (List.filter_sublist.eq_of_length q)))
theorem rd_comes_free {K : PySem.W.Frag} {A : Ad} {a b : V} {H : Hp} {Q : VK} {E : XK} (h : pr_comes_free K A a b H Q E) : t_comes_free K A { nx := fun _ H' => Q .non H', rt := Q } [some a, some b, none, none] H := by
  obtain ⟨bw, os, rs, p, hw, ok, h40, rfl, hp, q⟩ := h
  obtain ⟨t, o, rfl, ht, ho⟩ := Td.inv_w hw
  have Z : Zs H H H H [] := Zs.start (Same.refl _)
  have osz : os.length ≤ rs.length := nodup_bound ok.2.1 (fun o ho => ok.2.2 o ho)
  unfold t_comes_free
  walk_at "rd"
  refine r_ixT (SqT.of ht) (at_i (by decide) rfl) ?_
  refine lc_lst (xs := os.map V.int) (SqL.of ho) Z (fun i acc F' => acc = ((os.take i).filter (hasR rs)).map V.int) rfl (fun F' H' Z'' s => SqL.of (Z''.fh _ _ (s _ _ ho))) ?_ ?_
  · intro j x Dl F' H'' acc hj Z'' s hacc e
    subst e
    obtain ⟨c, hc, rfl⟩ := of_get_ints hj
    have okc := ok.2.2 c (List.mem_of_getElem? hc)
    dsimp only [wipe]
    walk_at "rd"
    refine ⟨rfl, ?_⟩
    have hcl : c.toNat < rs.length := by omega
    have hce : rs[c.toNat]? = some rs[c.toNat] := List.getElem?_eq_getElem hcl
    have hhas : hasR rs c = (rs[c.toNat]).isSome := by unfold hasR; rw [List.getD_eq_getElem?_getD, hce] <;> rfl
    walk_at "rd"
    refine r_ixL (SqL.of (Z''.fh _ _ (s _ _ hp))) (at_i okc.1 (get_r hce)) ?_
    walk_at "rd"
    refine ifn (fun h2 => ?_) (fun h2 => ?_)
    · walk_at "rd"
      have hjl : j < os.length := (List.getElem?_eq_some_iff.mp hc).1
      refine cy Z'' s hacc (by omega) ?_
      have e : hasR rs c = true := by
        rw [hhas]
        cases q : rs[c.toNat] with
        | none => rw [q] at h2; exact absurd rfl h2
        | some r => rfl
      rw [take_snoc hc, List.filter_append, List.filter_cons, if_pos e, List.map_append] <;> rfl
    · refine cn Z'' s hacc ?_
      have e : hasR rs c = false := by rw [hhas, rV_non.mp h2] <;> rfl
      rw [take_snoc hc, List.filter_append, List.filter_cons, if_neg (by rw [e]; decide), List.filter_nil, List.append_nil]
  · intro Dl F' H'' acc Z'' s e
    rw [List.length_map, List.take_length] at e
    subst e
    walk_at "rd"
    refine r_ixT (SqT.of (Z''.fh _ _ (s _ _ ht))) (at_i (by decide) rfl) ?_
    walk_at "rd"
    rw [wd_any]
    refine ifb (fun h3 => ?_) (fun h3 => ?_)
    · walk_at "rd"
      refine r_mk sz0 Z'' (fun p3 H3 Z3 => ?_)
      refine r_neD (Td.ints_lst (Z3.get (i := 1) rfl)) (.lst (Z3.get (i := 0) rfl) .nil) (shaped_ints _) rfl ?_
      rw [eqv_nil]
      have em : (((os.filter (hasR rs))).map PyData.int).isEmpty = (os.filter (hasR rs)).isEmpty := by
        cases (os.filter (hasR rs)) <;> rfl
      rw [em, filter_any, Bool.not_not]
      have e : comesB bw os rs = os.any (hasR rs) := by unfold comesB; rw [if_pos h3]
      rw [← e]
      exact q _ Z3.hh
    · walk_at "rd"
      refine r_lenL (SqL.of (Z''.get (i := 0) rfl)) ?_
      walk_at "rd"
      refine r_ixT (SqT.of (Z''.fh _ _ (s _ _ ht))) (at_i (by decide) rfl) ?_
      walk_at "rd"
      refine r_lenL (SqL.of (Z''.fh _ _ (s _ _ ho))) ?_
      walk_at "rd"
      rw [List.length_map, List.length_map]
      have e : comesB bw os rs = decide (((os.filter (hasR rs)).length : Int) = (os.length : Int)) := by
        unfold comesB
        rw [if_neg (by rw [h3]; decide), ← filter_all]
        by_cases z : (os.filter (hasR rs)).length = os.length
        · rw [decide_eq_true z, decide_eq_true (by omega)]
        · rw [decide_eq_false z, decide_eq_false (by omega)]
      rw [← e]
      exact q _ Z''.hh

/-- the hands that come free at t -/
def newAt (ws : List Wt) (t : Nat) : List Int := ((List.range ws.length).filter fun h => fr ws (t + 1) h && !fr ws t h).map fun (i : Nat) => (i : Int)
def setAll (rs : List (Option Nat)) (hs : List Int) (t : Nat) : List (Option Nat) := hs.foldl (fun rs h => rs.set h.toNat (some t)) rs
theorem setAll_snoc (rs : List (Option Nat)) (hs : List Int) (h : Int) (t : Nat) : setAll rs (hs ++ [h]) t = (setAll rs hs t).set h.toNat (some t) := by unfold setAll; rw [List.foldl_append] <;> rfl
theorem setAll_len (t : Nat) : ∀ (hs : List Int) (rs : List (Option Nat)), (setAll rs hs t).length = rs.length
  | [], _ => rfl
  | h :: hs, rs => by
    show (setAll (rs.set h.toNat (some t)) hs t).length = _
    rw [setAll_len t hs, List.length_set]
theorem setAll_get (t : Nat) (j : Nat) : ∀ (hs : List Int) (rs : List (Option Nat)), (∀ h ∈ hs, 0 ≤ h) → j < rs.length → (setAll rs hs t)[j]? = if (j : Int) ∈ hs then some (some t) else rs[j]?
  | [], rs, _, _ => by rw [if_neg (by simp)] <;> rfl
  | h :: hs, rs, p, l => by
    show (setAll (rs.set h.toNat (some t)) hs t)[j]? = _
    rw [setAll_get t j hs _ (fun x m => p x (List.mem_cons_of_mem _ m)) (by rw [List.length_set]; exact l), List.getElem?_set]
    have h0 := p h List.mem_cons_self
    by_cases m : (j : Int) ∈ hs
    · rw [if_pos m, if_pos (List.mem_cons_of_mem _ m)]
    · rw [if_neg m]
      by_cases e : h.toNat = j
      · rw [if_pos e, if_pos (by rw [e]; exact l), if_pos (by rw [show (j : Int) = h by omega]; exact List.mem_cons_self)]
      · rw [if_neg e, if_neg]
        intro q
        rcases List.mem_cons.mp q with q | q
        · exact e (by omega)
        · exact m q
theorem new_in {ws : List Wt} {t : Nat} {h : Int} : h ∈ newAt ws t ↔ 0 ≤ h ∧ h < (ws.length : Int) ∧ fr ws (t + 1) h.toNat = true ∧ fr ws t h.toNat = false := by
  unfold newAt
  rw [List.mem_map]
  constructor
  · rintro ⟨i, m, rfl⟩
    rw [List.mem_filter, List.mem_range, Bool.and_eq_true] at m
    refine ⟨by omega, by omega, ?_, ?_⟩
    · rw [Int.toNat_natCast]; exact m.2.1
    · rw [Int.toNat_natCast]; simpa using m.2.2
  · rintro ⟨h0, h1, h2, h3⟩
    exact ⟨h.toNat, by rw [List.mem_filter, List.mem_range, h2, h3]; exact ⟨by omega, rfl⟩, by omega⟩
theorem setAll_new (ws : List Wt) (t : Nat) : setAll (rnds ws t) (newAt ws t) t = rnds ws (t + 1) := by
  refine List.ext_getElem? fun j => ?_
  by_cases l : j < ws.length
  · rw [setAll_get t j _ _ (fun h m => (new_in.mp m).1) (by rw [rnds_len]; exact l), rnds_get l, rnds_get l]
    by_cases m : (j : Int) ∈ newAt ws t
    · rw [if_pos m]
      obtain ⟨_, _, a, b⟩ := new_in.mp m
      rw [Int.toNat_natCast] at a b
      rw [rnd_of (by omega) a b]
    · rw [if_neg m]
      cases e : rnd ws t j with
      | some r => rw [rnd_succ_some e]
      | none =>
        rw [rnd_succ_none e]
        cases c : fr ws (t + 1) j with
        | false => rfl
        | true => exact absurd (new_in.mpr ⟨by omega, by omega, by rw [Int.toNat_natCast]; exact c, by rw [Int.toNat_natCast]; exact (rnd_iff t).mp e⟩) m
  · rw [List.getElem?_eq_none (by rw [setAll_len, rnds_len]; omega), List.getElem?_eq_none (by rw [rnds_len]; omega)]
theorem new_nil {ws : List Wt} {t : Nat} (e : newAt ws t = []) : rnds ws t = rndF ws := by
  unfold rndF rnds
  refine List.map_congr_left fun h m => rnd_still (fun h l a => ?_) h
  cases c : fr ws t h with
  | true => rfl
  | false =>
    have : (h : Int) ∈ newAt ws t := new_in.mpr ⟨by omega, by omega, by rw [Int.toNat_natCast]; exact a, by rw [Int.toNat_natCast]; exact c⟩
    rw [e] at this
    cases this
theorem new_cons {ws : List Wt} {t : Nat} (e : newAt ws t ≠ []) : t < ws.length := by
  cases q : newAt ws t with
  | nil => exact absurd q e
  | cons h r =>
    obtain ⟨_, _, a, b⟩ := new_in.mp (by rw [q]; exact List.mem_cons_self : h ∈ newAt ws t)
    refine Classical.byContradiction fun n => ?_
    rw [fr_mono (by omega : ws.length ≤ t) (fr_end _ _ a)] at b
    cases b
/-- who is left and comes free by the rounds below t + 1 -/
theorem comes_eq {ws : List Wt} {t h : Nat} {b : Bool} {os : List Int} (ok : OkWs ws) (e : ws[h]? = some (some (b, os))) : comesB b os (rnds ws t) = fr ws (t + 1) h := by
  have okw := ok.all _ (List.mem_of_getElem? e)
  have one : ∀ o ∈ os, hasR (rnds ws t) o = fr ws t o.toNat := fun o m => by
    have := okw.2.2 o m
    have l : o.toNat < ws.length := by omega
    unfold hasR
    rw [List.getD_eq_getElem?_getD, rnds_get l]
    show (rnd ws t o.toNat).isSome = _
    cases q : rnd ws t o.toNat with
    | none => rw [(rnd_iff t).mp q] <;> rfl
    | some r =>
      cases c : fr ws t o.toNat with
      | true => rfl
      | false => rw [(rnd_iff t).mpr c] at q; cases q
  rw [fr_some e]
  unfold comesB
  cases b with
  | true => rw [if_pos rfl, if_pos rfl]; exact List.any_congr_mem one
  | false => rw [if_neg Bool.false_ne_true, if_neg Bool.false_ne_true]; exact List.all_congr_mem one
where
  List.any_congr_mem {os : List Int} {p q : Int → Bool} (h : ∀ o ∈ os, p o = q o) : os.any p = os.any q := by
    induction os with
    | nil => rfl
    | cons a l ih => rw [List.any_cons, List.any_cons, h a List.mem_cons_self, ih fun o m => h o (List.mem_cons_of_mem _ m)]
  List.all_congr_mem {os : List Int} {p q : Int → Bool} (h : ∀ o ∈ os, p o = q o) : os.all p = os.all q := by
    induction os with
    | nil => rfl
    | cons a l ih => rw [List.all_cons, List.all_cons, h a List.mem_cons_self, ih fun o m => h o (List.mem_cons_of_mem _ m)]
/-- the hands below n of which p -/
def pick (p : Nat → Bool) (n : Nat) : List Int := ((List.range n).filter p).map fun (i : Nat) => (i : Int)
theorem pick_succ (p : Nat → Bool) (n : Nat) : pick p (n + 1) = if p n = true then pick p n ++ [(n : Int)] else pick p n := by
  unfold pick
  rw [List.range_succ, List.filter_append, List.map_append, List.filter_cons]
  cases p n with
  | true => rfl
  | false => simp
theorem pick_len (p : Nat → Bool) (n : Nat) : (pick p n).length ≤ n := by
  unfold pick
  rw [List.length_map]
  have := List.length_filter_le p (List.range n)
  rw [List.length_range] at this
  exact this
theorem pick_in {p : Nat → Bool} {n : Nat} {h : Int} : h ∈ pick p n ↔ 0 ≤ h ∧ h < (n : Int) ∧ p h.toNat = true := by
  unfold pick
  rw [List.mem_map]
  constructor
  · rintro ⟨i, m, rfl⟩
    rw [List.mem_filter, List.mem_range] at m
    exact ⟨by omega, by omega, by rw [Int.toNat_natCast]; exact m.2⟩
  · rintro ⟨h0, h1, h2⟩
    exact ⟨h.toNat, by rw [List.mem_filter, List.mem_range]; exact ⟨by omega, h2⟩, by omega⟩
theorem pick_pick (p q : Nat → Bool) (n : Nat) : (pick p n).filter (fun h => q h.toNat) = pick (fun i => p i && q i) n := by
  unfold pick
  rw [List.filter_map]
  congr 1
  have : ((fun h : Int => q h.toNat) ∘ fun (i : Nat) => (i : Int)) = q := by funext i; show q (i : Int).toNat = _; rw [Int.toNat_natCast]
  rw [this, List.filter_filter]
  congr 1
  funext i
  exact Bool.and_comm _ _
theorem pick_congr {p q : Nat → Bool} {n : Nat} (h : ∀ i, i < n → p i = q i) : pick p n = pick q n := by
  unfold pick
  rw [List.filter_congr fun i m => h i (List.mem_range.mp m)]
def pr_freed (K : PySem.W.Frag) (A : Ad) : V → Hp → VK → XK → Prop := fun a H Q _ => ∃ ws, Td H a (dWs ws) ∧ OkWs ws ∧ RetL H Q ((rndF ws).map rV)
abbrev sp_freed (K : PySem.W.Frag) (A : Ad) : Sp := sp1 (pr_freed K A)
def t_freed (K : PySem.W.Frag) (A : Ad) : TS :=
    (tSeq (tDrop (tCall (sp_need K A) [] E0 (tCons (tVar 0) tNil)))
    (tSeq (tAsg (tOp rRep (tLst (tCons (tC .non) tNil)) (tCB (qLen K) (tCons (tVar 0) tNil))) (gName 1))
    (tSeq (tAsg (tLc (iRng1 (tCons (tCB (qLen K) (tCons (tVar 0) tNil)) tNil)) (gName 2) (tTest (tOp qIsN (tOp (rIxL K) (tVar 0) (tVar 2)) (tC .non))) (tVar 2) [2]) (gName 3))
    (tSeq (tAsg (tC (.int 0)) (gName 4))
    (tSeq (tWhile (tTest (tOp (rNeD K) (tVar 3) (tLst tNil)))
    (tSeq (tFor (iList K (tVar 3)) (gName 2)
    (tAsg (tVar 4) (gSub (tVar 1) (tVar 2) rSetL)))
    (tSeq (tAsg (tOp qAdd (tVar 4) (tC (.int 1))) (gName 4))
    (tSeq (tAsg (tLc (iRng1 (tCons (tCB (qLen K) (tCons (tVar 0) tNil)) tNil)) (gName 2) (tTest (tOp qIsN (tOp (rIxL K) (tVar 1) (tVar 2)) (tC .non))) (tVar 2) [2]) (gName 5))
    (tAsg (tLc (iList K (tVar 5)) (gName 2) (tB (tCall (sp_comes_free K A) [] E0 (tCons (tOp (rIxL K) (tVar 0) (tVar 2)) (tCons (tVar 1) tNil)))) (tVar 2) [2]) (gName 3))))))
    (tRet (tVar 1)))))))
theorem rd_freed {K : PySem.W.Frag} {A : Ad} {a : V} {H : Hp} {Q : VK} {E : XK} (h : pr_freed K A a H Q E) : t_freed K A { nx := fun _ H' => Q .non H', rt := Q } [some a, none, none, none, none, none] H := by
  obtain ⟨ws, hd, ok, q⟩ := h
  have hd0 := hd
  obtain ⟨p, xs, rfl, hp, hx, hl⟩ := Td.inv_ws hd0
  have o1 := ok.pos
  have o2 := ok.most
  have Z : Zs H H H H [] := Zs.start (Same.refl _)
  unfold t_freed
  walk_at "rd"
  refine ⟨ws, hd, ok, fun H1 s1 => ?_⟩
  replace Z := Z.ext s1
  walk_at "rd"
  refine r_mk sz1 Z (fun p1 H1 Z1 => ?_)
  walk_at "rd"
  refine r_lenL (SqL.of (Z1.fh _ _ hp)) ?_
  refine r_rep Z1 (Z1.get (i := 0) rfl) (by omega) (by omega) (by rw [List.length_singleton]; omega) (fun p2 H2 Z2 => ?_)
  replace Z2 := Z2.dropAt 1
  rw [Int.toNat_natCast, rep_flat, hl] at Z2
  walk_at "rd"
  refine r_lenL (SqL.of (Z2.fh _ _ hp)) ?_
  rw [hl]
  walk_at "rd"
  refine lc_rng (by omega) Z2 (fun j acc F' => acc = (pick (fun h => fr ws 1 h && !fr ws 0 h) j).map V.int) (fun _ => rfl) rfl ?_ ?_
  · rintro j Dl F' H3 acc hj Z3 s hacc rfl
    dsimp only [wipe]
    have hjn : j < ws.length := by omega
    have wsj : ws[j]? = some ws[j] := List.getElem?_eq_getElem hjn
    obtain ⟨y, hy, hyw⟩ := TdA.ws_get hx wsj
    walk_at "rd"
    refine r_ixL (SqL.of (Z3.fh _ _ (s _ _ hp))) (at_i (by omega) (by rw [Int.toNat_natCast]; exact hy)) ?_
    walk_at "rd"
    refine ifd (fun h2 => ?_) (fun h2 => ?_)
    · walk_at "rd"
      refine cy Z3 s hacc (by omega) ?_
      subst h2
      have e := Td.w_non hyw
      rw [e] at wsj
      rw [pick_succ, if_pos (by show (fr ws (0 + 1) j && !fr ws 0 j) = true; rw [fr_none wsj] <;> rfl), List.map_append] <;> rfl
    · refine cn Z3 s hacc ?_
      obtain ⟨bw, os, ew⟩ : ∃ b os, ws[j] = some (b, os) := by
        cases e : ws[j] with
        | none => rw [e] at hyw; exact absurd (Td.inv_non hyw) h2
        | some z => exact ⟨z.1, z.2, rfl⟩
      rw [ew] at wsj
      have okw := ok.all _ (List.mem_of_getElem? wsj)
      have e : fr ws (0 + 1) j = false := by
        rw [fr_some wsj]
        cases hos : os with
        | nil => exact absurd hos okw.1
        | cons x y => cases bw <;> simp [fr]
      rw [pick_succ, if_neg (by show ¬ (fr ws (0 + 1) j && !fr ws 0 j) = true; rw [e]; simp)]
  rintro Dl F' H3 acc Z3 s rfl
  replace Z3 := Z3.weak (Same.refl _) s
  rw [Int.toNat_natCast] at Z3
  clear s
  walk_at "rd"
  refine r_while (fun m σ' H' => ∃ (t : Nat) (r f : Addr) (x2 x5 : Option V), m = ws.length - t ∧ σ' = [some (.ref p), some (.ref r), x2, some (.ref f), some (.int (t : Int)), x5] ∧ Zs H H H H' [(f, .lst ((newAt ws t).map V.int)), (r, .lst ((rnds ws t).map rV))])
    ws.length ⟨0, p2, Dl, none, none, by omega, rfl, ?_⟩ ?_
  · have e : (rnds ws 0).map rV = List.replicate ws.length V.non := by
      unfold rnds
      rw [List.map_map]
      refine List.ext_getElem? fun j => ?_
      by_cases l : j < ws.length
      · rw [List.getElem?_map, List.getElem?_range l, List.getElem?_replicate_of_lt l] <;> rfl
      · rw [List.getElem?_eq_none (by simp; omega), List.getElem?_eq_none (by simp; omega)]
    rw [e]
    exact Z3
  rintro m σ' H' ⟨t, r, f, x2, x5, rfl, rfl, Z4⟩
  walk_at "rd"
  refine r_mk sz0 Z4 (fun p5 H5 Z5 => ?_)
  refine r_neD (Td.ints_lst (Z5.get (i := 1) rfl)) (.lst (Z5.get (i := 0) rfl) .nil) (shaped_ints _) rfl ?_
  rw [eqv_nil]
  replace Z5 := Z5.drop
  walk_at "rd"
  refine ifnb (fun h2 => ?_) (fun h2 => ?_)
  · have ht : t < ws.length := new_cons fun e => by rw [e] at h2; cases h2
    refine ⟨fun σ2 H2 => ∃ m', m' < ws.length - t ∧ _, fun σ2 H2 n => n, ?_⟩
    have hn0 : ∀ h ∈ newAt ws t, 0 ≤ h ∧ h < (ws.length : Int) := fun h m => ⟨(new_in.mp m).1, (new_in.mp m).2.1⟩
    walk_at "rd"
    refine r_lstI (xs := (newAt ws t).map V.int) (SqL.of (Z5.get (i := 0) rfl)) (fun i σ' H' => ∃ (x2 : Option V), σ' = [some (.ref p), some (.ref r), x2, some (.ref f), some (.int (t : Int)), x5] ∧ Zs H H H H' [(f, .lst ((newAt ws t).map V.int)), (r, .lst ((setAll (rnds ws t) ((newAt ws t).take i) t).map rV))])
      ⟨x2, rfl, Z5⟩ (fun i σ' H' _ ⟨_, _, Z'⟩ => SqL.of (Z'.get (i := 0) rfl)) ?_ ?_
    · rintro i x σ' H' hi ⟨x2, rfl, Z6⟩
      obtain ⟨n, hn, rfl⟩ := of_get_ints hi
      have hn2 := hn0 n (List.mem_of_getElem? hn)
      walk_at "rd"
      refine r_setL (j := n.toNat) 1 Z6 rfl (by omega) (by rw [List.length_map, setAll_len, rnds_len]; omega) (fun H7 Z7 => ?_)
      refine ⟨_, rfl, ?_⟩
      rw [take_snoc hn, setAll_snoc, List.map_set]
      exact Z7
    rintro σ' H' ⟨x2, rfl, Z6⟩
    rw [List.length_map, List.take_length, setAll_new] at Z6
    replace Z6 := Z6.drop
    walk_at "rd"
    refine r_lenL (SqL.of (Z6.fh _ _ hp)) ?_
    rw [hl]
    walk_at "rd"
    refine lc_rng (by omega) Z6 (fun j acc F' => acc = (pick (fun h => !fr ws (t + 1) h) j).map V.int) (fun _ => rfl) rfl ?_ ?_
    · rintro j Dl F' H7 acc hj Z7 s hacc rfl
      dsimp only [wipe]
      walk_at "rd"
      refine r_ixL (SqL.of (Z7.get (i := 1) rfl)) (at_i (by omega) (by rw [Int.toNat_natCast]; exact get_r (rnds_get (by omega)))) ?_
      walk_at "rd"
      refine ifd (fun h2 => ?_) (fun h2 => ?_)
      · walk_at "rd"
        refine cy Z7 s hacc (by omega) ?_
        rw [pick_succ, if_pos (by rw [(rnd_iff _).mp (rV_non.mp h2)] <;> rfl), List.map_append] <;> rfl
      · refine cn Z7 s hacc ?_
        rw [pick_succ, if_neg]
        intro c
        exact h2 (rV_non.mpr ((rnd_iff _).mpr (by simpa using c)))
    rintro Dl F' H7 acc Z7 s rfl
    replace Z7 := Z7.weak (Same.refl _) s
    rw [Int.toNat_natCast] at Z7
    clear s
    walk_at "rd"
    have hpl := pick_len (fun h => !fr ws (t + 1) h) ws.length
    refine lc_lst (xs := (pick (fun h => !fr ws (t + 1) h) ws.length).map V.int) (SqL.of (Z7.get (i := 0) rfl)) Z7 (fun j acc F' => acc = (((pick (fun h => !fr ws (t + 1) h) ws.length).take j).filter (fun h => fr ws (t + 2) h.toNat)).map V.int) rfl (fun F4 H4 Z4 s4 => SqL.of (Z4.get (i := 0) rfl)) ?_ ?_
    · rintro j x Dl2 F4 H8 acc hj Z8 s hacc rfl
      obtain ⟨n, hn, rfl⟩ := of_get_ints hj
      obtain ⟨n0, n1, n2⟩ := pick_in.mp (List.mem_of_getElem? hn)
      have n2' : fr ws (t + 1) n.toNat = false := by simpa using n2
      have hnl : n.toNat < ws.length := by omega
      have wsn : ws[n.toNat]? = some ws[n.toNat] := List.getElem?_eq_getElem hnl
      obtain ⟨y, hy, hyw⟩ := TdA.ws_get hx wsn
      obtain ⟨bw, os, ew⟩ : ∃ b os, ws[n.toNat] = some (b, os) := by
        cases e : ws[n.toNat] with
        | none => rw [e] at wsn; rw [fr_none wsn] at n2'; cases n2'
        | some z => exact ⟨z.1, z.2, rfl⟩
      rw [ew] at wsn hyw
      dsimp only [wipe]
      walk_at "rd"
      refine ⟨rfl, ?_⟩
      walk_at "rd"
      refine r_ixL (SqL.of (Z8.fh _ _ (s _ _ hp))) (at_i n0 hy) ?_
      walk_at "rd"
      refine ⟨bw, os, rnds ws (t + 1), r, hyw.up (s.trans Z8.fh), by rw [rnds_len]; exact ok.all _ (List.mem_of_getElem? wsn), by rw [rnds_len]; omega, rfl, Z8.get (i := 2) rfl, fun H9 s9 => ?_⟩
      rw [comes_eq ok wsn]
      walk_at "rd"
      refine ifb (fun h3 => ?_) (fun h3 => ?_)
      · walk_at "rd"
        refine cy (Z8.ext s9) s hacc (by have := (List.getElem?_eq_some_iff.mp hn).1; omega) ?_
        rw [take_snoc hn, List.filter_append, List.filter_cons, if_pos h3, List.map_append] <;> rfl
      · refine cn (Z8.ext s9) s hacc ?_
        rw [take_snoc hn, List.filter_append, List.filter_cons, if_neg (by rw [h3]; decide), List.filter_nil, List.append_nil]
    · rintro Dl2 F4 H8 acc Z8 s rfl
      replace Z8 := Z8.weak (Same.refl _) s
      rw [List.length_map, List.take_length, pick_pick] at Z8
      walk_at "rd"
      refine ⟨ws.length - (t + 1), by omega, t + 1, r, Dl2, _, _, rfl, rfl, ?_⟩
      have e : newAt ws (t + 1) = pick (fun i => !fr ws (t + 1) i && fr ws (t + 2) i) ws.length := by
        unfold newAt pick
        congr 1
        refine List.filter_congr fun i _ => Bool.and_comm _ _
      rw [e]
      exact Z8.dropAt 1
  · walk_at "rd"
    have e : newAt ws t = [] := by
      cases q : newAt ws t with
      | nil => rfl
      | cons x y => rw [q] at h2; cases h2
    rw [new_nil e] at Z5
    exact q _ _ (Z5.drop)

/-! ### stuck -/
def stuckOf (ws : List Wt) : List Int := pick (fun h => !fr ws ws.length h) ws.length
def pr_stuck (K : PySem.W.Frag) (A : Ad) : V → Hp → VK → XK → Prop := fun a H Q _ => ∃ ws, Td H a (dWs ws) ∧ OkWs ws ∧ RetL H Q ((stuckOf ws).map V.int)
abbrev sp_stuck (K : PySem.W.Frag) (A : Ad) : Sp := sp1 (pr_stuck K A)
def t_stuck (K : PySem.W.Frag) (A : Ad) : TS :=
    (tSeq (tAsg (tCall (sp_freed K A) [] E0 (tCons (tVar 0) tNil)) (gName 1))
    (tRet (tLc (iRng1 (tCons (tCB (qLen K) (tCons (tVar 0) tNil)) tNil)) (gName 2) (tTest (tOp qIsN (tOp (rIxL K) (tVar 1) (tVar 2)) (tC .non))) (tVar 2) [2])))
theorem rd_stuck {K : PySem.W.Frag} {A : Ad} {a : V} {H : Hp} {Q : VK} {E : XK} (h : pr_stuck K A a H Q E) : t_stuck K A { nx := fun _ H' => Q .non H', rt := Q } [some a, none, none] H := by
  obtain ⟨ws, hd, ok, q⟩ := h
  have hd0 := hd
  obtain ⟨p, xs, rfl, hp, hx, hl⟩ := Td.inv_ws hd0
  have o1 := ok.pos
  have o2 := ok.most
  unfold t_stuck
  walk_at "rd"
  refine ⟨ws, hd, ok, fun H1 r Z1 => ?_⟩
  walk_at "rd"
  refine r_lenL (SqL.of (Z1.fh _ _ hp)) ?_
  rw [hl]
  walk_at "rd"
  refine lc_rng (by omega) Z1 (fun j acc F' => acc = (pick (fun h => !fr ws ws.length h) j).map V.int) (fun _ => rfl) rfl ?_ ?_
  · rintro j Dl F' H7 acc hj Z7 s hacc rfl
    dsimp only [wipe]
    walk_at "rd"
    refine r_ixL (SqL.of (Z7.get (i := 1) rfl)) (at_i (by omega) (by rw [Int.toNat_natCast]; exact get_r (rnds_get (by omega)))) ?_
    walk_at "rd"
    refine ifd (fun h2 => ?_) (fun h2 => ?_)
    · walk_at "rd"
      refine cy Z7 s hacc (by omega) ?_
      rw [pick_succ, if_pos (by rw [(rnd_iff _).mp (rV_non.mp h2)] <;> rfl), List.map_append] <;> rfl
    · refine cn Z7 s hacc ?_
      rw [pick_succ, if_neg]
      intro c
      exact h2 (rV_non.mpr ((rnd_iff _).mpr (by simpa using c)))
  · rintro Dl F' H7 acc Z7 s rfl
    rw [Int.toNat_natCast] at Z7
    exact q _ _ ((Z7.weak (Same.refl _) s).dropAt 1)
end SB
namespace SB
open PySem L2
/-! ### the law k04 -/
def sizeBy (ns : List Int) : Int := if cellAt ns 0 / 8 % 4 = 1 then 1 + cellAt ns 0 / 32 % 40 else 1 + cellAt ns 0 % 8
theorem size_in (ns : List Int) : 1 ≤ sizeBy ns ∧ sizeBy ns ≤ 40 := by unfold sizeBy; split <;> omega
def waitAt (ns : List Int) (i : Nat) : Wt := waitBy (mixBy ns (2 + (i : Int) % 40) i) (sizeBy ns) (cellAt ns 1 % 2)
def waitsOf (ns : List Int) : List Wt := (List.range (sizeBy ns).toNat).map (waitAt ns)
theorem waits_len (ns : List Int) : (waitsOf ns).length = (sizeBy ns).toNat := by unfold waitsOf; rw [List.length_map, List.length_range]
theorem waits_ok (ns : List Int) : OkWs (waitsOf ns) := by
  have h := size_in ns
  refine ⟨by rw [waits_len]; omega, by rw [waits_len]; omega, fun w hw => ?_⟩
  obtain ⟨i, _, rfl⟩ := List.mem_map.mp hw
  exact wait_ok (by rw [waits_len]; omega) (by omega)
/-! ### whole_list -/
def pr_whole_list (K : PySem.W.Frag) (A : Ad) : V → V → Hp → VK → XK → Prop := fun a b H Q _ => ∃ (hs : List Int) (n : Int), Td H a (.list (hs.map PyData.int)) ∧ b = .int n ∧ (∀ h ∈ hs, 0 ≤ h ∧ h < n) ∧ Q (.bl true) H
abbrev sp_whole_list (K : PySem.W.Frag) (A : Ad) : Sp := sp2 (pr_whole_list K A)
def t_whole_list (K : PySem.W.Frag) (A : Ad) : TS :=
    (tSeq (tIfS (tNot (tB (tCB (rIsi K) (tCons (tVar 0) (tCons (tC (.ty "list")) tNil)))))
    (tRet (tC (.bl false)))
    tNext)
    (tSeq (tFor (iList K (tVar 0)) (gName 2)
    (tIfS (tOr (tNot (tB (tCB (rIsi K) (tCons (tVar 2) (tCons (tC (.ty "int")) tNil))))) (tOr (tB (tCB (rIsi K) (tCons (tVar 2) (tCons (tC (.ty "bool")) tNil)))) (tNot (tTest (tChain qLe qLt (tC (.int 0)) (tVar 2) (tVar 1))))))
    (tRet (tC (.bl false)))
    tNext))
    (tRet (tC (.bl true)))))
theorem rd_whole_list {K : PySem.W.Frag} {A : Ad} {a b : V} {H : Hp} {Q : VK} {E : XK} (h : pr_whole_list K A a b H Q E) : t_whole_list K A { nx := fun _ H' => Q .non H', rt := Q } [some a, some b, none] H := by
  obtain ⟨hs, n, hd, rfl, hr, q⟩ := h
  have hd0 := hd
  obtain ⟨l, rfl, hl⟩ := Td.inv_ints hd0
  unfold t_whole_list
  walk_at "rd"
  refine r_isi hd (ki_list _) ?_
  walk_at "rd"
  refine ifF rfl ?_
  walk_at "rd"
  refine r_lstI (xs := hs.map V.int) (SqL.of hl) (fun i σ' H' => ∃ (x2 : Option V), σ' = [some (.ref l), some (.int n), x2] ∧ H = H') ⟨none, rfl, rfl⟩ (fun i σ' H' _ ⟨_, _, e⟩ => by subst e; exact SqL.of hl) ?_ ?_
  · rintro i x σ' H' hi ⟨x2, rfl, rfl⟩
    obtain ⟨c, hc, rfl⟩ := of_get_ints hi
    have hc2 := hr c (List.mem_of_getElem? hc)
    walk_at "rd"
    refine r_isi (d := .int c) (.int _) (ki_int _) ?_
    walk_at "rd"
    refine ifF rfl ?_
    walk_at "rd"
    refine r_isi (d := .int c) (.int _) (ki_bool _) ?_
    walk_at "rd"
    refine ifF rfl ?_
    walk_at "rd"
    refine ifd (fun _ => ?_) (fun h => absurd hc2.1 h)
    walk_at "rd"
    refine ifF (by rw [decide_eq_true hc2.2]; rfl) ?_
    walk_at "rd"
    exact ⟨some (.int c), rfl, rfl⟩
  · rintro σ' H' ⟨x2, rfl, rfl⟩
    walk_at "rd"
    exact q
/-! ### closed -/
def thereAt (bs : List Bool) (o : Int) : Bool := bs.getD o.toNat false
def closedAt (ws : List Wt) (bs : List Bool) (i : Nat) : Bool := !bs.getD i false || (match ws.getD i none with
  | some (b, os) => !(os.filter (thereAt bs)).isEmpty && (!b || decide ((os.filter (thereAt bs)).length = os.length))
  | none => false)
def closedB (ws : List Wt) (bs : List Bool) : Bool := (List.range ws.length).all (closedAt ws bs)
def pr_closed (K : PySem.W.Frag) (A : Ad) : V → V → Hp → VK → XK → Prop := fun a b H Q _ => ∃ (ws : List Wt) (bs : List Bool), Td H a (dWs ws) ∧ OkWs ws ∧ Td H b (.list (bs.map PyData.bool)) ∧ bs.length = ws.length ∧ ∀ H', Same H H' → Q (.bl (closedB ws bs)) H'
abbrev sp_closed (K : PySem.W.Frag) (A : Ad) : Sp := sp2 (pr_closed K A)
def t_closed (K : PySem.W.Frag) (A : Ad) : TS :=
    (tSeq (tFor (iRng1 (tCons (tCB (qLen K) (tCons (tVar 0) tNil)) tNil)) (gName 2)
    (tIfS (tB (tOp (rIxL K) (tVar 1) (tVar 2)))
    (tSeq (tIfS (tTest (tOp qIsN (tOp (rIxL K) (tVar 0) (tVar 2)) (tC .non)))
    (tRet (tC (.bl false)))
    tNext)
    (tSeq (tAsg (tLc (iList K (tOp (rIxT K) (tOp (rIxL K) (tVar 0) (tVar 2)) (tC (.int 1)))) (gName 3) (tB (tOp (rIxL K) (tVar 1) (tVar 3))) (tVar 3) [3]) (gName 4))
    (tIfS (tOr (tTest (tOp (rEqD K) (tVar 4) (tLst tNil))) (tAnd (tTest (tOp rEq (tOp (rIxT K) (tOp (rIxL K) (tVar 0) (tVar 2)) (tC (.int 0))) (tC (.str "any")))) (tTest (tOp qLt (tCB (qLen K) (tCons (tVar 4) tNil)) (tCB (qLen K) (tCons (tOp (rIxT K) (tOp (rIxL K) (tVar 0) (tVar 2)) (tC (.int 1))) tNil))))))
    (tRet (tC (.bl false)))
    tNext)))
    tNext))
    (tRet (tC (.bl true))))
theorem rd_closed {K : PySem.W.Frag} {A : Ad} {a b : V} {H : Hp} {Q : VK} {E : XK} (h : pr_closed K A a b H Q E) : t_closed K A { nx := fun _ H' => Q .non H', rt := Q } [some a, some b, none, none, none] H := by
  obtain ⟨ws, bs, hd, ok, hb, hbl, q⟩ := h
  obtain ⟨p, xs, rfl, hp, hx, hl⟩ := Td.inv_ws hd
  obtain ⟨l, rfl, hlb⟩ := Td.inv_bools hb
  have Z : Zs H H H H [] := Zs.start (Same.refl _)
  have o2 := ok.most
  unfold t_closed
  walk_at "rd"
  refine r_lenL (SqL.of hp) ?_
  rw [hl]
  walk_at "rd"
  refine r_rng1 (by omega) (fun i σ' H' => ∃ (x2 x3 x4 : Option V), σ' = [some (.ref p), some (.ref l), x2, x3, x4] ∧ Zs H H H H' [] ∧ (List.range i).all (closedAt ws bs) = true) ⟨none, none, none, rfl, Z, rfl⟩ ?_ ?_
  · rintro i σ' H' hi ⟨x2, x3, x4, rfl, Z', ha⟩
    dsimp only [List.set_cons_succ, List.set_cons_zero]
    have hin : i < ws.length := by omega
    have wsi : ws[i]? = some ws[i] := List.getElem?_eq_getElem hin
    have ewi : ws.getD i none = ws[i] := by rw [List.getD_eq_getElem?_getD, wsi] <;> rfl
    obtain ⟨y, hy, hyw⟩ := TdA.ws_get hx wsi
    have e1 : (List.range (i + 1)).all (closedAt ws bs) = closedAt ws bs i := by
      rw [List.range_succ, List.all_append, List.all_cons, List.all_nil, Bool.and_true, ha, Bool.true_and]
    have no : closedAt ws bs i = false → ∀ H', Same H H' → Q (.bl false) H' := fun e H' s => by
      have : closedB ws bs = false := by
        unfold closedB
        rw [List.all_eq_false]
        exact ⟨i, List.mem_range.mpr hin, by rw [e]; decide⟩
      rw [← this]
      exact q H' s
    walk_at "rd"
    refine r_ixL (SqL.of (Z'.fh _ _ hlb)) (at_i (by omega) (get_boolD (by rw [Int.toNat_natCast]; omega))) ?_
    rw [Int.toNat_natCast]
    walk_at "rd"
    refine ifb (fun h => ?_) (fun h => ?_)
    · walk_at "rd"
      refine r_ixL (SqL.of (Z'.fh _ _ hp)) (at_i (by omega) (by rw [Int.toNat_natCast]; exact hy)) ?_
      walk_at "rd"
      refine ifd (fun h2 => ?_) (fun h2 => ?_)
      · walk_at "rd"
        subst h2
        refine no ?_ _ Z'.hh
        unfold closedAt
        rw [h, ewi, Td.w_non hyw] <;> rfl
      obtain ⟨bw, os, ew⟩ : ∃ b os, ws[i] = some (b, os) := by
        cases e : ws[i] with
        | none => rw [e] at hyw; exact absurd (Td.inv_non hyw) h2
        | some z => exact ⟨z.1, z.2, rfl⟩
      rw [ew] at hyw wsi
      have okw := ok.all _ (List.mem_of_getElem? wsi)
      obtain ⟨t, o, rfl, ht, ho⟩ := Td.inv_w hyw
      have osz : os.length ≤ ws.length := nodup_bound okw.2.1 (fun o ho => okw.2.2 o ho)
      have hc : closedAt ws bs i = (!(os.filter (thereAt bs)).isEmpty && (!bw || decide ((os.filter (thereAt bs)).length = os.length))) := by
        unfold closedAt
        rw [h, ewi, ew] <;> rfl
      walk_at "rd"
      refine r_ixL (SqL.of (Z'.fh _ _ hp)) (at_i (by omega) (by rw [Int.toNat_natCast]; exact hy)) ?_
      walk_at "rd"
      refine r_ixT (SqT.of (Z'.fh _ _ ht)) (at_i (by decide) rfl) ?_
      refine lc_lst (xs := os.map V.int) (SqL.of (Z'.fh _ _ ho)) Z' (fun i acc F' => acc = ((os.take i).filter (thereAt bs)).map V.int) rfl (fun F' H' Z'' s => SqL.of (Z''.fh _ _ (s _ _ ho))) ?_ ?_
      · intro j x Dl F' H'' acc hj Z'' s hacc e
        subst e
        obtain ⟨c, hc, rfl⟩ := of_get_ints hj
        have okc := okw.2.2 c (List.mem_of_getElem? hc)
        dsimp only [wipe]
        walk_at "rd"
        refine ⟨rfl, ?_⟩
        walk_at "rd"
        refine r_ixL (SqL.of (Z''.fh _ _ (s _ _ hlb))) (at_i okc.1 (get_boolD (by omega))) ?_
        walk_at "rd"
        refine ifb (fun h2 => ?_) (fun h2 => ?_)
        · walk_at "rd"
          have hjl : j < os.length := (List.getElem?_eq_some_iff.mp hc).1
          refine cy Z'' s hacc (by omega) ?_
          rw [take_snoc hc, List.filter_append, List.filter_cons, if_pos (show thereAt bs c = true from h2), List.map_append] <;> rfl
        · refine cn Z'' s hacc ?_
          rw [take_snoc hc, List.filter_append, List.filter_cons, if_neg (by show ¬ bs.getD c.toNat false = true; rw [h2]; decide), List.filter_nil, List.append_nil]
      · intro Dl F' H'' acc Z'' s e
        rw [List.length_map, List.take_length] at e
        subst e
        replace Z'' := Z''.weak (Same.refl _) s
        clear s
        walk_at "rd"
        refine r_mk sz0 Z'' (fun p3 H3 Z3 => ?_)
        refine r_eqD (Td.ints_lst (Z3.get (i := 1) rfl)) (.lst (Z3.get (i := 0) rfl) .nil) (shaped_ints _) rfl ?_
        rw [eqv_nil]
        have em : ((os.filter (thereAt bs)).map PyData.int).isEmpty = (os.filter (thereAt bs)).isEmpty := by
          cases (os.filter (thereAt bs)) <;> rfl
        rw [em]
        replace Z3 := Z3.drop
        walk_at "rd"
        refine ifb (fun h3 => ?_) (fun h3 => ?_)
        · walk_at "rd"
          refine no ?_ _ Z3.hh
          rw [hc, h3] <;> rfl
        have goOn : closedAt ws bs i = true → ∃ y2 y3 y4, [some (V.ref p), some (V.ref l), some (V.int (i : Int)), x3, some (V.ref Dl)] = [some (V.ref p), some (V.ref l), y2, y3, y4] ∧ Zs H H H H3 [] ∧ (List.range (i + 1)).all (closedAt ws bs) = true := fun e =>
          ⟨_, _, _, rfl, Z3.nil, by rw [e1, e]⟩
        walk_at "rd"
        refine r_ixL (SqL.of (Z3.fh _ _ hp)) (at_i (by omega) (by rw [Int.toNat_natCast]; exact hy)) ?_
        walk_at "rd"
        refine r_ixT (SqT.of (Z3.fh _ _ ht)) (at_i (by decide) rfl) ?_
        walk_at "rd"
        rw [wd_any]
        refine ifb (fun h4 => ?_) (fun h4 => ?_)
        · walk_at "rd"
          refine r_lenL (SqL.of (Z3.get (i := 0) rfl)) ?_
          walk_at "rd"
          refine r_ixL (SqL.of (Z3.fh _ _ hp)) (at_i (by omega) (by rw [Int.toNat_natCast]; exact hy)) ?_
          walk_at "rd"
          refine r_ixT (SqT.of (Z3.fh _ _ ht)) (at_i (by decide) rfl) ?_
          walk_at "rd"
          refine r_lenL (SqL.of (Z3.fh _ _ ho)) ?_
          rw [List.length_map, List.length_map]
          have le : (os.filter (thereAt bs)).length ≤ os.length := List.length_filter_le _ _
          walk_at "rd"
          refine ifd (fun h5 => ?_) (fun h5 => ?_)
          · walk_at "rd"
            refine no ?_ _ Z3.hh
            rw [hc, h4, decide_eq_false (by omega)]
            simp
          · walk_at "rd"
            refine goOn ?_
            rw [hc, h3, decide_eq_true (by omega)]
            simp
        · refine ifF rfl ?_
          walk_at "rd"
          refine goOn ?_
          rw [hc, h3, h4] <;> rfl
    · walk_at "rd"
      refine ⟨_, _, _, rfl, Z', ?_⟩
      rw [e1]
      unfold closedAt
      rw [h] <;> rfl
  · rintro σ' H' ⟨x2, x3, x4, rfl, Z', ha⟩
    rw [Int.toNat_natCast] at ha
    walk_at "rd"
    have : closedB ws bs = true := ha
    rw [← this]
    exact q _ Z'.hh
/-! ### free: a hand of a round is freed by lesser ones -/
def pr_free (K : PySem.W.Frag) (A : Ad) : V → V → V → Hp → VK → XK → Prop := fun a b c H Q _ => ∃ (ws : List Wt) (w : Wt) (h r : Nat) (p : Addr), OkWs ws ∧ ws[h]? = some w ∧ Td H a (dW w) ∧ b = .ref p ∧ H p = some (.lst ((rndF ws).map rV)) ∧ c = .int (r : Int) ∧ rnd ws ws.length h = some r ∧ ∀ H', Same H H' → Q (.bl true) H'
abbrev sp_free (K : PySem.W.Frag) (A : Ad) : Sp := sp3 (pr_free K A)
def t_free (K : PySem.W.Frag) (A : Ad) : TS :=
    (tSeq (tIfS (tTest (tOp qIsN (tVar 0) (tC .non)))
    (tRet (tOp rEq (tVar 2) (tC (.int 0))))
    tNext)
    (tSeq (tAsg (tLc (iList K (tOp (rIxT K) (tVar 0) (tC (.int 1)))) (gName 3) (tAnd (tTest (tOp qNotN (tOp (rIxL K) (tVar 1) (tVar 3)) (tC .non))) (tTest (tOp qLt (tOp (rIxL K) (tVar 1) (tVar 3)) (tVar 2)))) (tVar 3) [3]) (gName 4))
    (tSeq (tIfS (tTest (tOp rEq (tOp (rIxT K) (tVar 0) (tC (.int 0))) (tC (.str "any"))))
    (tRet (tOp (rNeD K) (tVar 4) (tLst tNil)))
    tNext)
    (tRet (tOp rEq (tCB (qLen K) (tCons (tVar 4) tNil)) (tCB (qLen K) (tCons (tOp (rIxT K) (tVar 0) (tC (.int 1))) tNil)))))))
def lessR (ws : List Wt) (r : Nat) (o : Int) : Bool := match rnd ws ws.length o.toNat with
  | some x => decide (x < r)
  | none => false
theorem less_of {ws : List Wt} {r : Nat} {o : Int} (h : fr ws r o.toNat = true) : lessR ws r o = true := by
  unfold lessR
  cases e : rnd ws ws.length o.toNat with
  | none =>
    have := (rnd_iff _).mp e
    rw [fr_end _ _ h] at this
    cases this
  | some x =>
    obtain ⟨_, _, c⟩ := rnd_some e
    show decide (x < r) = true
    refine decide_eq_true (Classical.byContradiction fun n => ?_)
    rw [fr_mono (by omega : r ≤ x) h] at c
    cases c
theorem rd_free {K : PySem.W.Frag} {A : Ad} {a b c : V} {H : Hp} {Q : VK} {E : XK} (h : pr_free K A a b c H Q E) : t_free K A { nx := fun _ H' => Q .non H', rt := Q } [some a, some b, some c, none, none] H := by
  obtain ⟨ws, w, hn, r, p, ok, ew, hw, rfl, hp, rfl, er, q⟩ := h
  have Z : Zs H H H H [] := Zs.start (Same.refl _)
  obtain ⟨_, f1, f2⟩ := rnd_some er
  unfold t_free
  walk_at "rd"
  refine ifd (fun h2 => ?_) (fun h2 => ?_)
  · subst h2
    have e := Td.w_non hw
    subst e
    walk_at "rd"
    have r0 : r = 0 := by
      cases r with
      | zero => rfl
      | succ r => rw [fr_none ew] at f2; cases f2
    subst r0
    exact q H (Same.refl _)
  obtain ⟨bw, os, rfl⟩ : ∃ b os, w = some (b, os) := by
    cases w with
    | none => exact absurd (Td.inv_non hw) h2
    | some z => exact ⟨z.1, z.2, rfl⟩
  obtain ⟨tp, o, rfl, ht, ho⟩ := Td.inv_w hw
  have okw := ok.all _ (List.mem_of_getElem? ew)
  have osz : os.length ≤ ws.length := nodup_bound okw.2.1 (fun o ho => okw.2.2 o ho)
  have o2 := ok.most
  walk_at "rd"
  refine r_ixT (SqT.of ht) (at_i (by decide) rfl) ?_
  refine lc_lst (xs := os.map V.int) (SqL.of ho) Z (fun i acc F' => acc = ((os.take i).filter (lessR ws r)).map V.int) rfl (fun F' H' Z'' s => SqL.of (Z''.fh _ _ (s _ _ ho))) ?_ ?_
  · intro j x Dl F' H'' acc hj Z'' s hacc e
    subst e
    obtain ⟨c, hc, rfl⟩ := of_get_ints hj
    have okc := okw.2.2 c (List.mem_of_getElem? hc)
    have hcl : c.toNat < ws.length := by omega
    have hjl : j < os.length := (List.getElem?_eq_some_iff.mp hc).1
    dsimp only [wipe]
    walk_at "rd"
    refine ⟨rfl, ?_⟩
    walk_at "rd"
    refine r_ixL (SqL.of (Z''.fh _ _ (s _ _ hp))) (at_i okc.1 (get_r (rnds_get hcl))) ?_
    walk_at "rd"
    have miss : lessR ws r c = false → CW H H H [] (fun i acc F' => acc = ((os.take i).filter (lessR ws r)).map V.int) Dl (j + 1) H'' := fun e => by
      refine cn Z'' s hacc ?_
      rw [take_snoc hc, List.filter_append, List.filter_cons, if_neg (by rw [e]; decide), List.filter_nil, List.append_nil]
    refine ifn (fun h2 => ?_) (fun h2 => ?_)
    · cases e : rnd ws ws.length c.toNat with
      | none => rw [e] at h2; exact absurd rfl h2
      | some x =>
        walk_at "rd"
        refine r_ixL (SqL.of (Z''.fh _ _ (s _ _ hp))) (at_i okc.1 (get_r (rnds_get hcl))) ?_
        rw [e]
        dsimp only [rV]
        walk_at "rd"
        have el : lessR ws r c = decide (x < r) := by unfold lessR; rw [e]
        refine ifd (fun h3 => ?_) (fun h3 => ?_)
        · walk_at "rd"
          refine cy Z'' s hacc (by omega) ?_
          rw [take_snoc hc, List.filter_append, List.filter_cons, if_pos (by rw [el]; exact decide_eq_true (by omega)), List.map_append] <;> rfl
        · exact miss (by rw [el]; exact decide_eq_false (by omega))
    · refine ifF rfl ?_
      exact miss (by unfold lessR; rw [rV_non.mp h2])
  intro Dl F' H'' acc Z'' s e
  rw [List.length_map, List.take_length] at e
  subst e
  replace Z'' := Z''.weak (Same.refl _) s
  clear s
  walk_at "rd"
  refine r_ixT (SqT.of (Z''.fh _ _ ht)) (at_i (by decide) rfl) ?_
  walk_at "rd"
  rw [wd_any]
  rw [fr_some ew] at f1
  cases bw with
  | true =>
    refine ifT rfl ?_
    walk_at "rd"
    refine r_mk sz0 Z'' (fun p3 H3 Z3 => ?_)
    refine r_neD (Td.ints_lst (Z3.get (i := 1) rfl)) (.lst (Z3.get (i := 0) rfl) .nil) (shaped_ints _) rfl ?_
    rw [eqv_nil]
    rw [if_pos rfl, List.any_eq_true] at f1
    obtain ⟨x, mx, fx⟩ := f1
    have e : ((os.filter (lessR ws r)).map PyData.int).isEmpty = false := by
      cases z : os.filter (lessR ws r) with
      | nil =>
        have : x ∈ os.filter (lessR ws r) := List.mem_filter.mpr ⟨mx, less_of fx⟩
        rw [z] at this
        cases this
      | cons u v => rfl
    rw [e]
    exact q _ Z3.hh
  | false =>
    refine ifF rfl ?_
    walk_at "rd"
    refine r_lenL (SqL.of (Z''.get (i := 0) rfl)) ?_
    walk_at "rd"
    refine r_ixT (SqT.of (Z''.fh _ _ ht)) (at_i (by decide) rfl) ?_
    walk_at "rd"
    refine r_lenL (SqL.of (Z''.fh _ _ ho)) ?_
    walk_at "rd"
    rw [if_neg Bool.false_ne_true, List.all_eq_true] at f1
    rw [List.length_map, List.length_map, List.filter_eq_self.mpr fun x mx => less_of (f1 x mx), decide_eq_true rfl]
    exact q _ Z''.hh
/-! ### stuck hands are closed; what is closed is stuck -/
def stuckB (ws : List Wt) : List Bool := (List.range ws.length).map fun h => !fr ws ws.length h
theorem stuckB_len (ws : List Wt) : (stuckB ws).length = ws.length := by unfold stuckB; rw [List.length_map, List.length_range]
theorem stuckB_get {ws : List Wt} {h : Nat} (l : h < ws.length) : (stuckB ws).getD h false = !fr ws ws.length h := by
  unfold stuckB
  rw [List.getD_eq_getElem?_getD, List.getElem?_map, List.getElem?_range l] <;> rfl
theorem stuck_closed {ws : List Wt} (ok : OkWs ws) : closedB ws (stuckB ws) = true := by
  unfold closedB
  rw [List.all_eq_true]
  intro h m
  have l := List.mem_range.mp m
  unfold closedAt
  rw [stuckB_get l]
  cases f : fr ws ws.length h with
  | true => rfl
  | false =>
    have wsi : ws[h]? = some ws[h] := List.getElem?_eq_getElem l
    have f' : fr ws (ws.length + 1) h = false := by
      cases c : fr ws (ws.length + 1) h with
      | false => rfl
      | true => rw [fr_end _ _ c] at f; cases f
    rw [List.getD_eq_getElem?_getD, wsi]
    show (!!false || (match ws[h] with | some (b, os) => _ | none => false)) = true
    cases e : ws[h] with
    | none => rw [e] at wsi; rw [fr_none wsi] at f'; cases f'
    | some p =>
      obtain ⟨b, os⟩ := p
      rw [e] at wsi
      have okw := ok.all _ (List.mem_of_getElem? wsi)
      have one : ∀ o ∈ os, thereAt (stuckB ws) o = !fr ws ws.length o.toNat := fun o mo => by
        have := okw.2.2 o mo
        exact stuckB_get (by omega)
      rw [fr_some wsi] at f'
      show (!!false || (!(os.filter (thereAt (stuckB ws))).isEmpty && (!b || decide ((os.filter (thereAt (stuckB ws))).length = os.length)))) = true
      cases b with
      | true =>
        rw [if_pos rfl, List.any_eq_false] at f'
        have : os.filter (thereAt (stuckB ws)) = os := List.filter_eq_self.mpr fun o mo => by
          rw [one o mo]
          have := f' o mo
          simpa using this
        rw [this]
        cases z : os with
        | nil => exact absurd z okw.1
        | cons x y => simp
      | false =>
        rw [if_neg Bool.false_ne_true, List.all_eq_false] at f'
        obtain ⟨o, mo, fo⟩ := f'
        cases z : os.filter (thereAt (stuckB ws)) with
        | nil =>
          have : o ∈ os.filter (thereAt (stuckB ws)) := List.mem_filter.mpr ⟨mo, by rw [one o mo]; simpa using fo⟩
          rw [z] at this
          cases this
        | cons x y => simp
theorem closed_stuck {ws : List Wt} {bs : List Bool} (ok : OkWs ws) (c : closedB ws bs = true) : ∀ t h, h < ws.length → bs.getD h false = true → fr ws t h = false
  | 0, _, _, _ => rfl
  | t + 1, h, l, m => by
    unfold closedB at c
    rw [List.all_eq_true] at c
    have ch := c h (List.mem_range.mpr l)
    have wsi : ws[h]? = some ws[h] := List.getElem?_eq_getElem l
    unfold closedAt at ch
    rw [m, List.getD_eq_getElem?_getD, wsi] at ch
    have ch' : (match ws[h] with | some (b, os) => !(os.filter (thereAt bs)).isEmpty && (!b || decide ((os.filter (thereAt bs)).length = os.length)) | none => false) = true := ch
    cases e : ws[h] with
    | none => rw [e] at ch'; cases ch'
    | some p =>
      obtain ⟨b, os⟩ := p
      rw [e] at wsi ch'
      have okw := ok.all _ (List.mem_of_getElem? wsi)
      have ch2 : (!(os.filter (thereAt bs)).isEmpty && (!b || decide ((os.filter (thereAt bs)).length = os.length))) = true := ch'
      rw [Bool.and_eq_true] at ch2
      rw [fr_some wsi]
      cases b with
      | true =>
        rw [if_pos rfl, List.any_eq_false]
        intro o mo q
        have hall : (os.filter (thereAt bs)).length = os.length := by simpa using ch2.2
        have := List.filter_eq_self.mp (List.filter_sublist.eq_of_length hall) o mo
        have o2 := okw.2.2 o mo
        rw [closed_stuck ok (by unfold closedB; rw [List.all_eq_true]; exact c) t o.toNat (by omega) this] at q
        cases q
      | false =>
        rw [if_neg Bool.false_ne_true, List.all_eq_false]
        cases z : os.filter (thereAt bs) with
        | nil => rw [z] at ch2; exact absurd ch2.1 (by decide)
        | cons x y =>
          have mx : x ∈ os.filter (thereAt bs) := by rw [z]; exact List.mem_cons_self
          rw [List.mem_filter] at mx
          have o2 := okw.2.2 x mx.1
          exact ⟨x, mx.1, by rw [closed_stuck ok (by unfold closedB; rw [List.all_eq_true]; exact c) t x.toNat (by omega) mx.2]; decide⟩
end SB
namespace SB
open PySem L2
def t_law (K : PySem.W.Frag) (A : Ad) : TS :=
    (tSeq (tAsg (tCall (sp_cell_at K A) [] E0 (tCons (tVar 0) (tCons (tC (.int 0)) tNil))) (gName 1))
    (tSeq (tAsg (tOp qAdd (tC (.int 1)) (tOp qMod (tVar 1) (tC (.int 8)))) (gName 2))
    (Evl.tCut (tIfS (tTest (tOp rEq (tOp qMod (tOp qDiv (tVar 1) (tC (.int 8))) (tC (.int 4))) (tC (.int 1))))
    (tAsg (tOp qAdd (tC (.int 1)) (tOp qMod (tOp qDiv (tVar 1) (tC (.int 32))) (tC (.int 40)))) (gName 2))
    tNext)
    (tSeq (tAsg (tOp qMod (tCall (sp_cell_at K A) [] E0 (tCons (tVar 0) (tCons (tC (.int 1)) tNil))) (tC (.int 2))) (gName 3))
    (tSeq (tAsg (tLc (iRng1 (tCons (tVar 2) tNil)) (gName 4) tYes (tCall (sp_wait_by K A) [] E0 (tCons (tCall (sp_mixed K A) [] E0 (tCons (tVar 0) (tCons (tOp qAdd (tC (.int 2)) (tOp qMod (tVar 4) (tC (.int 40)))) (tCons (tVar 4) tNil)))) (tCons (tVar 2) (tCons (tVar 3) tNil)))) [4]) (gName 5))
    (tSeq (tAsg (tCall (sp_stuck K A) [] E0 (tCons (tLc (iList K (tVar 5)) (gName 6) tYes (tVar 6) [6]) tNil)) (gName 7))
    (tSeq (tAsg (tCall (sp_freed K A) [] E0 (tCons (tLc (iList K (tVar 5)) (gName 6) tYes (tVar 6) [6]) tNil)) (gName 8))
    (tSeq (tIfS (tOr (tNot (tB (tCall (sp_whole_list K A) [] E0 (tCons (tVar 7) (tCons (tVar 2) tNil))))) (tOr (tNot (tB (tCB (rIsi K) (tCons (tVar 8) (tCons (tC (.ty "list")) tNil))))) (tTest (tOp rNe (tCB (qLen K) (tCons (tVar 8) tNil)) (tVar 2)))))
    (tRet (tC (.bl false)))
    tNext)
    (tSeq (tAsg (tLc (iRng1 (tCons (tVar 2) tNil)) (gName 9) tYes (tOp (rIn K false) (tVar 9) (tVar 7)) [9]) (gName 10))
    (tSeq (tIfS (tOr (tTest (tOp (rNeD K) (tVar 7) (tLc (iRng1 (tCons (tVar 2) tNil)) (gName 9) (tB (tOp (rIxL K) (tVar 10) (tVar 9))) (tVar 9) [9]))) (tNot (tB (tCall (sp_closed K A) [] E0 (tCons (tVar 5) (tCons (tVar 10) tNil))))))
    (tRet (tC (.bl false)))
    tNext)
    (tSeq (tFor (iRng1 (tCons (tVar 2) tNil)) (gName 9)
    (tSeq (tAsg (tOp (rIxL K) (tVar 8) (tVar 9)) (gName 11))
    (tSeq (tIfS (tAnd (tTest (tOp qIsN (tVar 11) (tC .non))) (tNot (tB (tOp (rIxL K) (tVar 10) (tVar 9)))))
    (tRet (tC (.bl false)))
    tNext)
    (tIfS (tNot (tB (tOp (rIxL K) (tVar 10) (tVar 9))))
    (tIfS (tOr (tNot (tB (tCB (rIsi K) (tCons (tVar 11) (tCons (tC (.ty "int")) tNil))))) (tOr (tB (tCB (rIsi K) (tCons (tVar 11) (tCons (tC (.ty "bool")) tNil)))) (tNot (tB (tCall (sp_free K A) [] E0 (tCons (tOp (rIxL K) (tVar 5) (tVar 9)) (tCons (tVar 8) (tCons (tVar 11) tNil))))))))
    (tRet (tC (.bl false)))
    tNext)
    tNext))))
    (tSeq (tFor (iRng1 (tCons (tC (.int 8)) tNil)) (gName 12)
    (tSeq (tAsg (tLc (iRng1 (tCons (tVar 2) tNil)) (gName 4) tYes (tOp qGt (tOp qMod (tCall (sp_mixed K A) [] E0 (tCons (tVar 0) (tCons (tOp qAdd (tC (.int 2)) (tOp qMod (tVar 4) (tC (.int 40)))) (tCons (tOp qAdd (tC (.int 60)) (tVar 12)) tNil)))) (tOp qAdd (tVar 12) (tC (.int 2)))) (tC (.int 0))) [4]) (gName 13))
    (tIfS (tB (tCall (sp_closed K A) [] E0 (tCons (tVar 5) (tCons (tVar 13) tNil))))
    (tIfS (tTest (tOp (rNeD K) (tLc (iRng1 (tCons (tVar 2) tNil)) (gName 9) (tAnd (tB (tOp (rIxL K) (tVar 13) (tVar 9))) (tNot (tB (tOp (rIxL K) (tVar 10) (tVar 9))))) (tVar 9) [9]) (tLst tNil)))
    (tRet (tC (.bl false)))
    tNext)
    tNext)))
    (tRet (tC (.bl true)))))))))))))))
theorem stuck_mem {ws : List Wt} {h : Nat} (l : h < ws.length) : decide ((h : Int) ∈ stuckOf ws) = !fr ws ws.length h := by
  unfold stuckOf
  cases c : fr ws ws.length h with
  | true =>
    exact decide_eq_false fun m => by
      have := (pick_in.mp m).2.2
      rw [Int.toNat_natCast, c] at this
      cases this
  | false => exact decide_eq_true (pick_in.mpr ⟨by omega, by omega, by rw [Int.toNat_natCast, c] <;> rfl⟩)
theorem stuckB_of (ws : List Wt) : stuckB ws = (List.range ws.length).map fun (h : Nat) => decide ((h : Int) ∈ stuckOf ws) := by
  unfold stuckB
  exact List.map_congr_left fun h m => (stuck_mem (List.mem_range.mp m)).symm
theorem stuckOf_B (ws : List Wt) : pick (fun h => (stuckB ws).getD h false) ws.length = stuckOf ws := pick_congr fun h l => stuckB_get l
theorem rd_law {K : PySem.W.Frag} {A : Ad} {a : V} {H : Hp} {Q : VK} {E : XK} (h : pr_law K a H Q E) : t_law K A { nx := fun _ H' => Q .non H', rt := Q } [some a, none, none, none, none, none, none, none, none, none, none, none, none, none] H := by
  obtain ⟨p, ns, rfl, hs, hn63, q⟩ := h
  have Z : Zs H H H H [] := Zs.start (Same.refl _)
  have hsz := size_in ns
  unfold t_law
  walk_at "rd"
  refine ⟨p, ns, 0, rfl, rfl, hs, by decide, ?_⟩
  walk_at "rd"
  refine r_cut (fun σ' H' => σ' = [some (.ref p), some (.int (cellAt ns 0)), some (.int (sizeBy ns)), none, none, none, none, none, none, none, none, none, none, none] ∧ H = H') ?_ ?_
  · walk_at "rd"
    refine ifd (fun h => ?_) (fun h => ?_)
    · walk_at "rd"
      exact ⟨by unfold sizeBy; rw [if_pos h], rfl⟩
    · walk_at "rd"
      exact ⟨by unfold sizeBy; rw [if_neg h], rfl⟩
  rintro σ' H' ⟨rfl, rfl⟩
  walk_at "rd"
  refine ⟨p, ns, 1, rfl, rfl, hs, by decide, ?_⟩
  walk_at "rd"
  refine lc_rng (by omega) Z (fun i acc F' => TdA F' acc (((List.range i).map (waitAt ns)).map dW)) (fun _ => rfl) .nil ?_ ?_
  · intro i Dl F' H' acc hi Z' s hacc hP
    dsimp only [wipe]
    walk_at "rd"
    refine ifT rfl ?_
    walk_at "rd"
    refine ⟨p, ns, _, _, rfl, rfl, rfl, Z'.hh.seq hs, by omega, ?_⟩
    walk_at "rd"
    refine ⟨F', _, _, _, Z'.fh, rfl, rfl, rfl, by omega, by omega, hsz.1, hsz.2, mix_nn _ _ _, fun F2 H2 v Z2 hv => ?_⟩
    refine cy (Z'.call Z2) (s.trans Z2.ff) hacc (by omega) ?_
    show TdA F2 _ _
    rw [List.range_succ, List.map_append, List.map_append]
    exact (hP.up Z2.ff).snoc hv
  intro pw F1' H1 xs Z1' s1 hx'
  obtain ⟨F1, Z1, s2, hp⟩ := Z1'.frzAt 0 rfl
  replace Z1 : Zs H H F1 H1 [] := Z1
  have ewn : (sizeBy ns) = ((waitsOf ns).length : Int) := by rw [waits_len]; omega
  have ok := waits_ok ns
  have hx : TdA F1 xs ((waitsOf ns).map dW) := hx'.up s2
  rw [ewn]
  generalize waitsOf ns = ws at ok hx ewn
  clear hsz Z1' hx'
  have hl : xs.length = ws.length := by rw [hx.len, List.length_map]
  have hv : Td F1 (.ref pw) (dWs ws) := .lst hp hx
  have o1 := ok.pos
  have o2 := ok.most
  walk_at "rd"
  refine lc_copy (SqL.of (Z1.fh _ _ hp)) (by omega) Z1 (fun F' H' Z' s => SqL.of (Z'.fh _ _ (s _ _ hp))) (fun _ => rfl) (fun _ => rfl) (fun D2 H2 Z2 => ?_)
  walk_at "rd"
  refine ⟨ws, .lst (Z2.get (i := 0) rfl) (hx.up Z2.fh), ok, fun H3 r3 W3 => ?_⟩
  have Z3 : Zs H H F1 H3 [(r3, .lst ((stuckOf ws).map V.int))] := (Z2.callL W3).dropAt 1
  walk_at "rd"
  refine lc_copy (SqL.of (Z3.fh _ _ hp)) (by omega) Z3 (fun F' H' Z' s => SqL.of (Z'.fh _ _ (s _ _ hp))) (fun _ => rfl) (fun _ => rfl) (fun D4 H4 Z4 => ?_)
  walk_at "rd"
  refine ⟨ws, .lst (Z4.get (i := 0) rfl) (hx.up Z4.fh), ok, fun H5 r5 W5 => ?_⟩
  have Z5 : Zs H H F1 H5 [(r5, .lst ((rndF ws).map rV)), (r3, .lst ((stuckOf ws).map V.int))] := (Z4.callL W5).dropAt 1
  have rl : (rndF ws).length = ws.length := rnds_len ws _
  clear W3 W5 Z2 Z4 Z3
  walk_at "rd"
  refine ⟨stuckOf ws, ws.length, Td.ints_lst (Z5.get (i := 1) rfl), rfl, fun h m => ⟨(pick_in.mp m).1, (pick_in.mp m).2.1⟩, ?_⟩
  walk_at "rd"
  refine ifF rfl ?_
  walk_at "rd"
  refine r_isi (d := .list ((rndF ws).map dR)) (.lst (Z5.get (i := 0) rfl) (tdA_r _)) (ki_list _) ?_
  walk_at "rd"
  refine ifF rfl ?_
  walk_at "rd"
  refine r_lenL (SqL.of (Z5.get (i := 0) rfl)) ?_
  walk_at "rd"
  rw [List.length_map, rl]
  refine ifn (fun h => absurd rfl h) (fun _ => ?_)
  walk_at "rd"
  refine lc_rng (by omega) Z5 (fun j acc F' => acc = ((List.range j).map fun (h : Nat) => decide ((h : Int) ∈ stuckOf ws)).map V.bl) (fun _ => rfl) rfl ?_ ?_
  · rintro j Dl F' H6 acc hj Z6 s hacc rfl
    dsimp only [wipe]
    walk_at "rd"
    refine ifT rfl ?_
    walk_at "rd"
    refine r_inL (SqL.of (Z6.get (i := 2) rfl)) rfl (flat_ints _) ?_
    rw [if_neg (by decide), inV_int]
    refine cy Z6 s hacc (by omega) ?_
    rw [List.range_succ, List.map_append, List.map_append] <;> rfl
  rintro lt F' H6 acc Z6 s rfl
  replace Z6 := Z6.weak Z5.ff s
  rw [Int.toNat_natCast, ← stuckB_of] at Z6
  clear s
  have tl := stuckB_len ws
  walk_at "rd"
  refine lc_rng (by omega) Z6 (fun j acc F' => acc = (pick (fun h => (stuckB ws).getD h false) j).map V.int) (fun _ => rfl) rfl ?_ ?_
  · rintro j Dl F' H7 acc hj Z7 s hacc rfl
    dsimp only [wipe]
    walk_at "rd"
    refine r_ixL (SqL.of (Z7.get (i := 1) rfl)) (at_i (by omega) (get_boolD (by rw [Int.toNat_natCast]; omega))) ?_
    rw [Int.toNat_natCast]
    walk_at "rd"
    refine ifb (fun h2 => ?_) (fun h2 => ?_)
    · walk_at "rd"
      refine cy Z7 s hacc (by omega) ?_
      rw [pick_succ, if_pos h2, List.map_append] <;> rfl
    · refine cn Z7 s hacc ?_
      rw [pick_succ, if_neg (by rw [h2]; decide)]
  rintro D7 F' H7 acc Z7 s rfl
  replace Z7 := Z7.weak Z5.ff s
  rw [Int.toNat_natCast, stuckOf_B] at Z7
  clear s
  refine r_neD (Td.ints_lst (Z7.get (i := 3) rfl)) (Td.ints_lst (Z7.get (i := 0) rfl)) (shaped_ints _) (shaped_ints _) ?_
  rw [eqv_refl (shaped_ints _)]
  replace Z7 := Z7.drop
  walk_at "rd"
  refine ifF rfl ?_
  walk_at "rd"
  refine ⟨ws, stuckB ws, hv.up Z7.fh, ok, Td.bools_lst (Z7.get (i := 0) rfl), tl, fun H8 s8 => ?_⟩
  have Z8 := Z7.ext s8
  rw [stuck_closed ok]
  walk_at "rd"
  refine ifF rfl ?_
  walk_at "rd"
  -- each hand
  refine r_rng1 (by omega) (fun i σ' H' => ∃ (x9 x11 : Option V), σ' = [some (.ref p), some (.int (cellAt ns 0)), some (.int (ws.length : Int)), some (.int (cellAt ns 1 % 2)), none, some (.ref pw), none, some (.ref r3), some (.ref r5), x9, some (.ref lt), x11, none, none] ∧ Zs H H F1 H' [(lt, .lst ((stuckB ws).map V.bl)), (r5, .lst ((rndF ws).map rV)), (r3, .lst ((stuckOf ws).map V.int))])
    ⟨none, none, rfl, Z8⟩ ?_ ?_
  · rintro i σ' H' hi ⟨x9, x11, rfl, Z9⟩
    dsimp only [List.set_cons_succ, List.set_cons_zero]
    have hin : i < ws.length := by omega
    have wsi : ws[i]? = some ws[i] := List.getElem?_eq_getElem hin
    obtain ⟨y, hy, hyw⟩ := TdA.ws_get hx wsi
    have eB := stuckB_get (ws := ws) hin
    walk_at "rd"
    refine r_ixL (SqL.of (Z9.get (i := 1) rfl)) (at_i (by omega) (by rw [Int.toNat_natCast]; exact get_r (rnds_get hin))) ?_
    walk_at "rd"
    refine ifd (fun h2 => ?_) (fun h2 => ?_)
    · have e := (rnd_iff _).mp (rV_non.mp h2)
      rw [e] at eB
      walk_at "rd"
      refine r_ixL (SqL.of (Z9.get (i := 0) rfl)) (at_i (by omega) (get_boolD (by rw [Int.toNat_natCast]; omega))) ?_
      rw [Int.toNat_natCast, eB]
      walk_at "rd"
      refine ifF rfl ?_
      walk_at "rd"
      refine r_ixL (SqL.of (Z9.get (i := 0) rfl)) (at_i (by omega) (get_boolD (by rw [Int.toNat_natCast]; omega))) ?_
      rw [Int.toNat_natCast, eB]
      walk_at "rd"
      refine ifF rfl ?_
      walk_at "rd"
      exact ⟨_, _, rfl, Z9⟩
    · cases er : rnd ws ws.length i with
      | none => rw [er] at h2; exact absurd rfl h2
      | some r =>
        have e : fr ws ws.length i = true := by
          cases c : fr ws ws.length i with
          | true => rfl
          | false => rw [(rnd_iff _).mpr c] at er; cases er
        rw [e] at eB
        refine ifF rfl ?_
        walk_at "rd"
        refine r_ixL (SqL.of (Z9.get (i := 0) rfl)) (at_i (by omega) (get_boolD (by rw [Int.toNat_natCast]; omega))) ?_
        rw [Int.toNat_natCast, eB]
        dsimp only [rV]
        walk_at "rd"
        refine ifT rfl ?_
        walk_at "rd"
        refine r_isi (d := .int (r : Int)) (.int _) (ki_int _) ?_
        walk_at "rd"
        refine ifF rfl ?_
        walk_at "rd"
        refine r_isi (d := .int (r : Int)) (.int _) (ki_bool _) ?_
        walk_at "rd"
        refine ifF rfl ?_
        walk_at "rd"
        refine r_ixL (SqL.of (Z9.fh _ _ hp)) (at_i (by omega) (by rw [Int.toNat_natCast]; exact hy)) ?_
        walk_at "rd"
        refine ⟨ws, ws[i], i, r, r5, ok, wsi, hyw.up Z9.fh, rfl, Z9.get (i := 1) rfl, rfl, er, fun H10 s10 => ?_⟩
        walk_at "rd"
        refine ifF rfl ?_
        walk_at "rd"
        exact ⟨_, _, rfl, Z9.ext s10⟩
  rintro σ' H' ⟨x9, x11, rfl, Z9⟩
  walk_at "rd"
  -- any list that shows it
  refine r_rng1 (by omega) (fun i σ' H' => ∃ (x12 x13 : Option V), σ' = [some (.ref p), some (.int (cellAt ns 0)), some (.int (ws.length : Int)), some (.int (cellAt ns 1 % 2)), none, some (.ref pw), none, some (.ref r3), some (.ref r5), x9, some (.ref lt), x11, x12, x13] ∧ Zs H H F1 H' [(lt, .lst ((stuckB ws).map V.bl))])
    ⟨none, none, rfl, (Z9.dropAt 1).dropAt 1⟩ ?_ ?_
  · rintro i σ' H' hi ⟨x12, x13, rfl, Z10⟩
    dsimp only [List.set_cons_succ, List.set_cons_zero]
    walk_at "rd"
    refine lc_rng (by omega) Z10 (fun j acc F' => ∃ bs : List Bool, acc = bs.map V.bl ∧ bs.length = j) (fun _ => rfl) ⟨[], rfl, rfl⟩ ?_ ?_
    · rintro j Dl F' H4 acc hj Z4 s hacc ⟨bs, rfl, hb⟩
      dsimp only [wipe]
      walk_at "rd"
      refine ifT rfl ?_
      walk_at "rd"
      refine ⟨p, ns, _, _, rfl, rfl, rfl, Z4.hh.seq hs, by omega, ?_⟩
      walk_at "rd"
      refine cy Z4 s hacc (by omega) ⟨bs ++ [decide (0 < mixBy ns (2 + (j : Int) % 40) (60 + (i : Int)) % ((i : Int) + 2))], by rw [List.map_append] <;> rfl, by rw [List.length_append, hb] <;> rfl⟩
    · rintro Dl F' H4 acc Z4 s ⟨bs, rfl, hb⟩
      replace Z4 := Z4.weak Z10.ff s
      clear s
      rw [Int.toNat_natCast] at hb
      walk_at "rd"
      refine ⟨ws, bs, hv.up Z4.fh, ok, Td.bools_lst (Z4.get (i := 0) rfl), hb, fun H5 s5 => ?_⟩
      replace Z4 := Z4.ext s5
      walk_at "rd"
      refine ifb (fun h => ?_) (fun h => ?_)
      · walk_at "rd"
        refine lc_rng (by omega) Z4 (fun j acc F' => acc = []) (fun _ => rfl) rfl ?_ ?_
        · rintro j Dl2 F' H7 acc hj Z7 s hacc rfl
          have hjn : j < ws.length := by omega
          dsimp only [wipe]
          walk_at "rd"
          refine r_ixL (SqL.of (Z7.get (i := 1) rfl)) (at_i (by omega) (get_boolD (by rw [Int.toNat_natCast]; omega))) ?_
          rw [Int.toNat_natCast]
          walk_at "rd"
          refine ifb (fun h2 => ?_) (fun h2 => ?_)
          · walk_at "rd"
            refine r_ixL (SqL.of (Z7.get (i := 2) rfl)) (at_i (by omega) (get_boolD (by rw [Int.toNat_natCast]; omega))) ?_
            rw [Int.toNat_natCast, stuckB_get hjn, closed_stuck ok h _ _ hjn h2]
            walk_at "rd"
            refine ifF rfl ?_
            exact cn Z7 s hacc rfl
          · refine ifF rfl ?_
            exact cn Z7 s hacc rfl
        · rintro Dl2 F' H7 acc Z7 s rfl
          walk_at "rd"
          refine r_mk sz0 Z7 (fun p8 H8 Z8 => ?_)
          refine r_neD (d := .list []) (e := .list []) (.lst (Z8.get (i := 1) rfl) .nil) (.lst (Z8.get (i := 0) rfl) .nil) rfl rfl ?_
          rw [eqv_nil]
          walk_at "rd"
          refine ifF rfl ?_
          walk_at "rd"
          exact ⟨_, _, rfl, (((Z8.weak Z4.ff s).dropAt 0).dropAt 0).dropAt 0⟩
      · walk_at "rd"
        exact ⟨_, _, rfl, Z4.dropAt 0⟩
  · rintro σ' H' ⟨x12, x13, rfl, Z10⟩
    walk_at "rd"
    exact q _
end SB
/-! ## the text, by places -/
namespace SB
open PySem L2
def top (i : Nat) : Stmt := PySem.Challenge.pw_stuckbell_k04_whole_who_is_stuck.main.body.getD i (.Pass ⟨0, 0, 0, 0⟩)
abbrev s_is_hand : Stmt := top 6
theorem sc_is_hand : FnScope ["thing", "many"] ["thing", "many"] (defScope s_is_hand) := ⟨rfl, rfl, rfl, by decide +kernel, rfl, by decide +kernel, by decide +kernel⟩
abbrev s_is_wait : Stmt := top 7
theorem sc_is_wait : FnScope ["wait", "many", "place", "one"] ["wait", "many"] (defScope s_is_wait) := ⟨rfl, rfl, rfl, by decide +kernel, rfl, by decide +kernel, by decide +kernel⟩
abbrev s_need : Stmt := top 8
theorem sc_need : FnScope ["waits", "at", "wait"] ["waits"] (defScope s_need) := ⟨rfl, rfl, rfl, by decide +kernel, rfl, by decide +kernel, by decide +kernel⟩
abbrev s_comes_free : Stmt := top 9
theorem sc_comes_free : FnScope ["wait", "rounds", "one", "come"] ["wait", "rounds"] (defScope s_comes_free) := ⟨rfl, rfl, rfl, by decide +kernel, rfl, by decide +kernel, by decide +kernel⟩
abbrev s_freed : Stmt := top 10
theorem sc_freed : FnScope ["waits", "rounds", "hand", "fresh", "turn", "left"] ["waits"] (defScope s_freed) := ⟨rfl, rfl, rfl, by decide +kernel, rfl, by decide +kernel, by decide +kernel⟩
abbrev s_stuck : Stmt := top 11
theorem sc_stuck : FnScope ["waits", "rounds", "hand"] ["waits"] (defScope s_stuck) := ⟨rfl, rfl, rfl, by decide +kernel, rfl, by decide +kernel, by decide +kernel⟩
abbrev s_cell_at : Stmt := top 13
theorem sc_cell_at : FnScope ["_law_script", "_law_k"] ["_law_script", "_law_k"] (defScope s_cell_at) := ⟨rfl, rfl, rfl, by decide +kernel, rfl, by decide +kernel, by decide +kernel⟩
abbrev s_mixed : Stmt := top 14
theorem sc_mixed : FnScope ["_law_script", "_law_k", "_law_salt"] ["_law_script", "_law_k", "_law_salt"] (defScope s_mixed) := ⟨rfl, rfl, rfl, by decide +kernel, rfl, by decide +kernel, by decide +kernel⟩
abbrev s_wait_by : Stmt := top 15
theorem sc_wait_by : FnScope ["_law_number", "_law_size", "_law_few", "_law_others", "_law_k", "_law_more"] ["_law_number", "_law_size", "_law_few"] (defScope s_wait_by) := ⟨rfl, rfl, rfl, by decide +kernel, rfl, by decide +kernel, by decide +kernel⟩
abbrev s_whole_list : Stmt := top 16
theorem sc_whole_list : FnScope ["_law_found", "_law_most", "_law_one"] ["_law_found", "_law_most"] (defScope s_whole_list) := ⟨rfl, rfl, rfl, by decide +kernel, rfl, by decide +kernel, by decide +kernel⟩
abbrev s_closed : Stmt := top 17
theorem sc_closed : FnScope ["_law_waits", "_law_there", "_law_hand", "_law_one", "_law_inside"] ["_law_waits", "_law_there"] (defScope s_closed) := ⟨rfl, rfl, rfl, by decide +kernel, rfl, by decide +kernel, by decide +kernel⟩
abbrev s_free : Stmt := top 18
theorem sc_free : FnScope ["_law_wait", "_law_rounds", "_law_mine", "_law_one", "_law_lesser"] ["_law_wait", "_law_rounds", "_law_mine"] (defScope s_free) := ⟨rfl, rfl, rfl, by decide +kernel, rfl, by decide +kernel, by decide +kernel⟩
abbrev s_law : Stmt := top 19
theorem sc_law : FnScope ["_law_script", "_law_cell", "_law_size", "_law_few", "_law_k", "_law_waits", "_law_wait", "_law_found", "_law_rounds", "_law_hand", "_law_there", "_law_mine", "_law_turn", "_law_some"] ["_law_script"] (defScope s_law) := ⟨rfl, rfl, rfl, by decide +kernel, rfl, by decide +kernel, by decide +kernel⟩
/-- what the top has left -/
structure Tx (K : PySem.W.Frag) (mg : Str → Option Value) (A : Ad) where
  f_is_hand : Addr
  fd_is_hand : FuncData
  F_is_hand : Fun K "is_hand" "is_hand" s_is_hand f_is_hand fd_is_hand
  b_is_hand : Binds K fd_is_hand ["thing", "many"] []
  m_is_hand : mg "is_hand" = some (.ref f_is_hand)
  f_is_wait : Addr
  fd_is_wait : FuncData
  F_is_wait : Fun K "is_wait" "is_wait" s_is_wait f_is_wait fd_is_wait
  b_is_wait : Binds K fd_is_wait ["wait", "many"] []
  m_is_wait : mg "is_wait" = some (.ref f_is_wait)
  f_need : Addr
  fd_need : FuncData
  F_need : Fun K "need" "need" s_need f_need fd_need
  b_need : Binds K fd_need ["waits"] []
  m_need : mg "need" = some (.ref f_need)
  f_comes_free : Addr
  fd_comes_free : FuncData
  F_comes_free : Fun K "comes_free" "comes_free" s_comes_free f_comes_free fd_comes_free
  b_comes_free : Binds K fd_comes_free ["wait", "rounds"] []
  m_comes_free : mg "comes_free" = some (.ref f_comes_free)
  f_freed : Addr
  fd_freed : FuncData
  F_freed : Fun K "freed" "freed" s_freed f_freed fd_freed
  b_freed : Binds K fd_freed ["waits"] []
  m_freed : mg "freed" = some (.ref f_freed)
  f_stuck : Addr
  fd_stuck : FuncData
  F_stuck : Fun K "stuck" "stuck" s_stuck f_stuck fd_stuck
  b_stuck : Binds K fd_stuck ["waits"] []
  m_stuck : mg "stuck" = some (.ref f_stuck)
  f_cell_at : Addr
  fd_cell_at : FuncData
  F_cell_at : Fun K "_law_cell_at" "_law_cell_at" s_cell_at f_cell_at fd_cell_at
  b_cell_at : Binds K fd_cell_at ["_law_script", "_law_k"] []
  m_cell_at : mg "_law_cell_at" = some (.ref f_cell_at)
  f_mixed : Addr
  fd_mixed : FuncData
  F_mixed : Fun K "_law_mixed" "_law_mixed" s_mixed f_mixed fd_mixed
  b_mixed : Binds K fd_mixed ["_law_script", "_law_k", "_law_salt"] []
  m_mixed : mg "_law_mixed" = some (.ref f_mixed)
  f_wait_by : Addr
  fd_wait_by : FuncData
  F_wait_by : Fun K "_law_wait_by" "_law_wait_by" s_wait_by f_wait_by fd_wait_by
  b_wait_by : Binds K fd_wait_by ["_law_number", "_law_size", "_law_few"] []
  m_wait_by : mg "_law_wait_by" = some (.ref f_wait_by)
  f_whole_list : Addr
  fd_whole_list : FuncData
  F_whole_list : Fun K "_law_whole_list" "_law_whole_list" s_whole_list f_whole_list fd_whole_list
  b_whole_list : Binds K fd_whole_list ["_law_found", "_law_most"] []
  m_whole_list : mg "_law_whole_list" = some (.ref f_whole_list)
  f_closed : Addr
  fd_closed : FuncData
  F_closed : Fun K "_law_closed" "_law_closed" s_closed f_closed fd_closed
  b_closed : Binds K fd_closed ["_law_waits", "_law_there"] []
  m_closed : mg "_law_closed" = some (.ref f_closed)
  f_free : Addr
  fd_free : FuncData
  F_free : Fun K "_law_free" "_law_free" s_free f_free fd_free
  b_free : Binds K fd_free ["_law_wait", "_law_rounds", "_law_mine"] []
  m_free : mg "_law_free" = some (.ref f_free)
  f_law : Addr
  fd_law : FuncData
  F_law : Fun K "law" "law" s_law f_law fd_law
  b_law : Binds K fd_law ["_law_script"] []
  m_law : mg "law" = some (.ref f_law)
  t_MOST_HANDS : Tok
  co_MOST_HANDS : mg "MOST_HANDS" = some (.int 40 t_MOST_HANDS)
  co_WORDS : mg "WORDS" = some (.ref A.words)
  words : WordsOk K A
  bi_bool : mg "bool" = none
  bi_enumerate : mg "enumerate" = none
  bi_int : mg "int" = none
  bi_isinstance : mg "isinstance" = none
  bi_len : mg "len" = none
  bi_list : mg "list" = none
  bi_range : mg "range" = none
  bi_str : mg "str" = none
  bi_tuple : mg "tuple" = none
section
variable {P : Program} {w : World} {K : PySem.W.Frag} {mg : Str → Option Value} {base : Heap} {A : Ad}
theorem ok_is_hand (T : Tx K mg A) : FnOk P w K mg base CX0 1 T.f_is_hand T.fd_is_hand ["thing", "many"] (sp_is_hand K A) := by
  refine T.F_is_hand.ok sc_is_hand (fun vs H Q E h => by obtain ⟨a, b, rfl, h⟩ := h; rfl) (fun cdv A0 outer s H vs Q E hr h => ?_)
  have hu := hu_of hr
  obtain ⟨a, b, rfl, h⟩ := h
  exact ⟨t_is_hand K A, (pss_one (ps_ret (pe_and (pe_callB call_isi (by rfl) T.bi_isinstance (by decide +kernel) (pa_cons (pv 0) (pa_cons (pe_bltn (by rfl) T.bi_int (by decide +kernel) rfl) pa_nil))) (pe_and (pe_not (pe_callB call_isi (by rfl) T.bi_isinstance (by decide +kernel) (pa_cons (pv 0) (pa_cons (pe_bltn (by rfl) T.bi_bool (by decide +kernel) rfl) pa_nil)))) (pe_one (pe_chain op_le op_lt pe_int (pv 0) (pv 1))))))),
    rd_is_hand h⟩
theorem ok_is_wait (T : Tx K mg A) : FnOk P w K mg base CX0 2 T.f_is_wait T.fd_is_wait ["wait", "many"] (sp_is_wait K A) := by
  refine T.F_is_wait.ok sc_is_wait (fun vs H Q E h => by obtain ⟨a, b, rfl, h⟩ := h; rfl) (fun cdv A0 outer s H vs Q E hr h => ?_)
  have hu := hu_of hr
  obtain ⟨a, b, rfl, h⟩ := h
  exact ⟨t_is_wait K A, (pss_cons (ps_if (pt_cmpR op_isNq (pv 0) pe_non (nomark _))
    (pss_one (ps_ret pe_bl))
    pss_nil)
    (pss_cons (ps_if (PW.pt (pw_or (pt_not (pt_val (pe_callB call_isi (by rfl) T.bi_isinstance (by decide +kernel) (pa_cons (pv 0) (pa_cons (pe_bltn (by rfl) T.bi_tuple (by decide +kernel) rfl) pa_nil))))) (pw_or (pt_cmpR op_ne (pe_callB call_lenq (by rfl) T.bi_len PySem.boot_len (pa_cons (pv 0) pa_nil)) pe_int (nomark _)) (pw_or (pt_not (pt_val (pe_callB call_isi (by rfl) T.bi_isinstance (by decide +kernel) (pa_cons (pe_ix ix_tup (pv 0) pe_int (fun _ _ => rfl)) (pa_cons (pe_bltn (by rfl) T.bi_str (by decide +kernel) rfl) pa_nil))))) (pw_or1 (pt_cmpR op_notIn_seq (pe_ix ix_tup (pv 0) pe_int (fun _ _ => rfl)) (pe_glob rfl T.co_WORDS rfl) rfl))))))
    (pss_one (ps_ret pe_bl))
    pss_nil)
    (pss_cons (ps_if (PW.pt (pw_or (pt_not (pt_val (pe_callB call_isi (by rfl) T.bi_isinstance (by decide +kernel) (pa_cons (pe_ix ix_tup (pv 0) pe_int (fun _ _ => rfl)) (pa_cons (pe_bltn (by rfl) T.bi_list (by decide +kernel) rfl) pa_nil))))) (pw_or1 (pt_cmpR (op_eqD hr.units) (pe_ix ix_tup (pv 0) pe_int (fun _ _ => rfl)) (pe_lst pa_nil) (nomark _)))))
    (pss_one (ps_ret pe_bl))
    pss_nil)
    (pss_cons (ps_for PassesOwn.never rfl (pi_enum (by rfl) T.bi_enumerate (pa_cons (pe_ix ix_tup (pv 0) pe_int (fun _ _ => rfl)) pa_nil)) (pg_tup (by rfl) (pgs_cons (pg_name (i := 2) sc_is_wait.nd rfl (Or.inl rfl)) (pgs_cons (pg_name (i := 3) sc_is_wait.nd rfl (Or.inl rfl)) pgs_nil)))
    (pss_one (ps_if (PW.pt (pw_or (pt_not (pt_val (pe_call (ok_is_hand T) (hr.mono (by decide)) rfl T.m_is_hand T.F_is_hand.kp T.b_is_hand .nil pass0 (pa_cons (pv 3) (pa_cons (pv 1) pa_nil))))) (pw_or1 (pt_cmpR op_in_seq (pv 3) (pe_slice sl_list (pe_ix ix_tup (pv 0) pe_int (fun _ _ => rfl)) po_none (po_some (pv 2))) rfl))))
    (pss_one (ps_ret pe_bl))
    pss_nil)))
    (pss_one (ps_ret pe_bl)))))),
    rd_is_wait T.words h⟩
theorem ok_need (T : Tx K mg A) : FnOk P w K mg base CX0 3 T.f_need T.fd_need ["waits"] (sp_need K A) := by
  refine T.F_need.ok sc_need (fun vs H Q E h => by obtain ⟨a, rfl, h⟩ := h; rfl) (fun cdv A0 outer s H vs Q E hr h => ?_)
  have hu := hu_of hr
  obtain ⟨a, rfl, h⟩ := h
  exact ⟨t_need K A, (pss_cons (ps_if (PW.pt (pw_or (pt_not (pt_val (pe_callB call_isi (by rfl) T.bi_isinstance (by decide +kernel) (pa_cons (pv 0) (pa_cons (pe_bltn (by rfl) T.bi_list (by decide +kernel) rfl) pa_nil))))) (pw_or1 (pt_not (pt_chain op_le op_le pe_int (pe_callB call_lenq (by rfl) T.bi_len PySem.boot_len (pa_cons (pv 0) pa_nil)) (pe_glob rfl T.co_MOST_HANDS ⟨_, rfl⟩))))))
    (pss_one ps_never)
    pss_nil)
    (pss_cons (ps_for PassesOwn.never rfl (pi_enum (by rfl) T.bi_enumerate (pa_cons (pv 0) pa_nil)) (pg_tup (by rfl) (pgs_cons (pg_name (i := 1) sc_need.nd rfl (Or.inl rfl)) (pgs_cons (pg_name (i := 2) sc_need.nd rfl (Or.inl rfl)) pgs_nil)))
    (pss_one (ps_if (pt_not (pt_val (pe_call (ok_is_wait T) (hr.mono (by decide)) rfl T.m_is_wait T.F_is_wait.kp T.b_is_wait .nil pass0 (pa_cons (pv 2) (pa_cons (pe_callB call_lenq (by rfl) T.bi_len PySem.boot_len (pa_cons (pv 0) pa_nil)) pa_nil)))))
    (pss_one ps_never)
    pss_nil)))
    (pss_one (ps_ret pe_bl)))),
    rd_need h⟩
theorem ok_comes_free (T : Tx K mg A) : FnOk P w K mg base CX0 1 T.f_comes_free T.fd_comes_free ["wait", "rounds"] (sp_comes_free K A) := by
  refine T.F_comes_free.ok sc_comes_free (fun vs H Q E h => by obtain ⟨a, b, rfl, h⟩ := h; rfl) (fun cdv A0 outer s H vs Q E hr h => ?_)
  have hu := hu_of hr
  obtain ⟨a, b, rfl, h⟩ := h
  exact ⟨t_comes_free K A, (pss_cons (ps_setLc (i := 3) (own := [("one", 2)]) (g := (gName 2)) (tt := (tTest (tOp qNotN (tOp (rIxL K) (tVar 1) (tVar 2)) (tC .non)))) (te := (tVar 2)) rfl sc_comes_free.nd rfl rfl (sw_true rfl rfl rfl (by decide +kernel)) (pi_list (pe_ix ix_tup (pv 0) pe_int (fun _ _ => rfl))) (blkOk_by (own := [("one", 2)]) (N := ["wait", "rounds", "one", "come"]) (sc := defScope s_comes_free) (by decide +kernel)) (fun _ _ _ _ _ => (pg_name (i := 2) sc_comes_free.nd rfl (Or.inl rfl))) (fun _ _ _ _ _ => (pts_one (pt_cmpR op_notNq (pe_ix ix_list (pv 1) (pv 2) (fun _ _ => rfl)) pe_non (nomark _)))) (fun _ _ _ _ _ => (pv 2)))
    (pss_cons (ps_if (pt_cmpR op_eq (pe_ix ix_tup (pv 0) pe_int (fun _ _ => rfl)) pe_str (nomark _))
    (pss_one (ps_ret (pe_cmpR (op_neD hr.units) (pv 3) (pe_lst pa_nil) (nomark _))))
    pss_nil)
    (pss_one (ps_ret (pe_cmpR op_eq (pe_callB call_lenq (by rfl) T.bi_len PySem.boot_len (pa_cons (pv 3) pa_nil)) (pe_callB call_lenq (by rfl) T.bi_len PySem.boot_len (pa_cons (pe_ix ix_tup (pv 0) pe_int (fun _ _ => rfl)) pa_nil)) (nomark _)))))),
    rd_comes_free h⟩
theorem ok_freed (T : Tx K mg A) : FnOk P w K mg base CX0 4 T.f_freed T.fd_freed ["waits"] (sp_freed K A) := by
  refine T.F_freed.ok sc_freed (fun vs H Q E h => by obtain ⟨a, rfl, h⟩ := h; rfl) (fun cdv A0 outer s H vs Q E hr h => ?_)
  have hu := hu_of hr
  obtain ⟨a, rfl, h⟩ := h
  exact ⟨t_freed K A, (pss_cons (ps_expr (pe_call (ok_need T) (hr.mono (by decide)) rfl T.m_need T.F_need.kp T.b_need .nil pass0 (pa_cons (pv 0) pa_nil)))
    (pss_cons (ps_set (i := 1) sc_freed.nd rfl (Or.inr rfl) (pe_op op_rep (pe_lst (pa_cons pe_non pa_nil)) (pe_callB call_lenq (by rfl) T.bi_len PySem.boot_len (pa_cons (pv 0) pa_nil))))
    (pss_cons (ps_setLc (i := 3) (own := [("hand", 2)]) (g := (gName 2)) (tt := (tTest (tOp qIsN (tOp (rIxL K) (tVar 0) (tVar 2)) (tC .non)))) (te := (tVar 2)) rfl sc_freed.nd rfl rfl (sw_true rfl rfl rfl (by decide +kernel)) (pi_range1 rfl T.bi_range (pa_cons (pe_callB call_lenq (by rfl) T.bi_len PySem.boot_len (pa_cons (pv 0) pa_nil)) pa_nil)) (blkOk_by (own := [("hand", 2)]) (N := ["waits", "rounds", "hand", "fresh", "turn", "left"]) (sc := defScope s_freed) (by decide +kernel)) (fun _ _ _ _ _ => (pg_name (i := 2) sc_freed.nd rfl (Or.inl rfl))) (fun _ _ _ _ _ => (pts_one (pt_cmpR op_isNq (pe_ix ix_list (pv 0) (pv 2) (fun _ _ => rfl)) pe_non (nomark _)))) (fun _ _ _ _ _ => (pv 2)))
    (pss_cons (ps_set (i := 4) sc_freed.nd rfl (Or.inl rfl) pe_int)
    (pss_cons (ps_while PassesOwn.never (pt_cmpR (op_neD hr.units) (pv 3) (pe_lst pa_nil) (nomark _))
    (pss_cons (ps_for PassesOwn.never rfl (pi_list (pv 3)) (pg_name (i := 2) sc_freed.nd rfl (Or.inl rfl))
    (pss_one (ps_asg (pv 4) (pg_sub (pv 1) (pv 2) set_list))))
    (pss_cons (ps_set (i := 4) sc_freed.nd rfl (Or.inl rfl) (pe_op op_add (pv 4) pe_int))
    (pss_cons (ps_setLc (i := 5) (own := [("hand", 2)]) (g := (gName 2)) (tt := (tTest (tOp qIsN (tOp (rIxL K) (tVar 1) (tVar 2)) (tC .non)))) (te := (tVar 2)) rfl sc_freed.nd rfl rfl (sw_true rfl rfl rfl (by decide +kernel)) (pi_range1 rfl T.bi_range (pa_cons (pe_callB call_lenq (by rfl) T.bi_len PySem.boot_len (pa_cons (pv 0) pa_nil)) pa_nil)) (blkOk_by (own := [("hand", 2)]) (N := ["waits", "rounds", "hand", "fresh", "turn", "left"]) (sc := defScope s_freed) (by decide +kernel)) (fun _ _ _ _ _ => (pg_name (i := 2) sc_freed.nd rfl (Or.inl rfl))) (fun _ _ _ _ _ => (pts_one (pt_cmpR op_isNq (pe_ix ix_list (pv 1) (pv 2) (fun _ _ => rfl)) pe_non (nomark _)))) (fun _ _ _ _ _ => (pv 2)))
    (pss_one (ps_setLc (i := 3) (own := [("hand", 2)]) (g := (gName 2)) (tt := (tB (tCall (sp_comes_free K A) [] E0 (tCons (tOp (rIxL K) (tVar 0) (tVar 2)) (tCons (tVar 1) tNil))))) (te := (tVar 2)) rfl sc_freed.nd rfl rfl (sw_true rfl rfl rfl (by decide +kernel)) (pi_list (pv 5)) (blkOk_by (own := [("hand", 2)]) (N := ["waits", "rounds", "hand", "fresh", "turn", "left"]) (sc := defScope s_freed) (by decide +kernel)) (fun _ _ _ _ _ => (pg_name (i := 2) sc_freed.nd rfl (Or.inl rfl))) (fun _ _ _ _ _ => (pts_one (pt_val (pe_call (ok_comes_free T) (hr.mono (by decide)) rfl T.m_comes_free T.F_comes_free.kp T.b_comes_free .nil pass0 (pa_cons (pe_ix ix_list (pv 0) (pv 2) (fun _ _ => rfl)) (pa_cons (pv 1) pa_nil)))))) (fun _ _ _ _ _ => (pv 2))))))))
    (pss_one (ps_ret (pv 1)))))))),
    rd_freed h⟩
theorem ok_stuck (T : Tx K mg A) : FnOk P w K mg base CX0 5 T.f_stuck T.fd_stuck ["waits"] (sp_stuck K A) := by
  refine T.F_stuck.ok sc_stuck (fun vs H Q E h => by obtain ⟨a, rfl, h⟩ := h; rfl) (fun cdv A0 outer s H vs Q E hr h => ?_)
  have hu := hu_of hr
  obtain ⟨a, rfl, h⟩ := h
  exact ⟨t_stuck K A, (pss_cons (ps_set (i := 1) sc_stuck.nd rfl (Or.inr rfl) (pe_call (ok_freed T) (hr.mono (by decide)) rfl T.m_freed T.F_freed.kp T.b_freed .nil pass0 (pa_cons (pv 0) pa_nil)))
    (pss_one (ps_ret (pe_lc (own := [("hand", 2)]) (g := (gName 2)) (tt := (tTest (tOp qIsN (tOp (rIxL K) (tVar 1) (tVar 2)) (tC .non)))) (te := (tVar 2)) rfl sc_stuck.nd (pi_range1 rfl T.bi_range (pa_cons (pe_callB call_lenq (by rfl) T.bi_len PySem.boot_len (pa_cons (pv 0) pa_nil)) pa_nil)) (blkOk_by (own := [("hand", 2)]) (N := ["waits", "rounds", "hand"]) (sc := defScope s_stuck) (by decide +kernel)) (fun _ _ _ _ _ => (pg_name (i := 2) sc_stuck.nd rfl (Or.inl rfl))) (fun _ _ _ _ _ => (pts_one (pt_cmpR op_isNq (pe_ix ix_list (pv 1) (pv 2) (fun _ _ => rfl)) pe_non (nomark _)))) (fun _ _ _ _ _ => (pv 2)))))),
    rd_stuck h⟩
theorem ok_cell_at (T : Tx K mg A) : FnOk P w K mg base CX0 1 T.f_cell_at T.fd_cell_at ["_law_script", "_law_k"] (sp_cell_at K A) := by
  refine T.F_cell_at.ok sc_cell_at (fun vs H Q E h => by obtain ⟨a, b, rfl, h⟩ := h; rfl) (fun cdv A0 outer s H vs Q E hr h => ?_)
  have hu := hu_of hr
  obtain ⟨a, b, rfl, h⟩ := h
  exact ⟨t_cell_at K A, (pss_cons (ps_if (pt_cmpR op_lt (pv 1) (pe_callB call_lenq (by rfl) T.bi_len PySem.boot_len (pa_cons (pv 0) pa_nil)) (nomark _))
    (pss_one (ps_ret (pe_ix ix_list (pv 0) (pv 1) (fun _ _ => rfl))))
    pss_nil)
    (pss_one (ps_ret pe_int))),
    rd_cell_at h⟩
theorem ok_mixed (T : Tx K mg A) : FnOk P w K mg base CX0 2 T.f_mixed T.fd_mixed ["_law_script", "_law_k", "_law_salt"] (sp_mixed K A) := by
  refine T.F_mixed.ok sc_mixed (fun vs H Q E h => by obtain ⟨a, b, c, rfl, h⟩ := h; rfl) (fun cdv A0 outer s H vs Q E hr h => ?_)
  have hu := hu_of hr
  obtain ⟨a, b, c, rfl, h⟩ := h
  exact ⟨t_mixed K A, (pss_one (ps_ret (pe_op op_mod (pe_op op_add (pe_op op_mul (pe_call (ok_cell_at T) (hr.mono (by decide)) rfl T.m_cell_at T.F_cell_at.kp T.b_cell_at .nil pass0 (pa_cons (pv 0) (pa_cons (pv 1) pa_nil))) pe_int) (pe_op op_mul (pv 2) pe_int)) pe_int))),
    rd_mixed h⟩
theorem ok_wait_by (T : Tx K mg A) : FnOk P w K mg base CX0 1 T.f_wait_by T.fd_wait_by ["_law_number", "_law_size", "_law_few"] (sp_wait_by K A) := by
  refine T.F_wait_by.ok sc_wait_by (fun vs H Q E h => by obtain ⟨a, b, c, rfl, h⟩ := h; rfl) (fun cdv A0 outer s H vs Q E hr h => ?_)
  have hu := hu_of hr
  obtain ⟨a, b, c, rfl, h⟩ := h
  exact ⟨t_wait_by K A, (pss_cons (ps_if (pt_cmpR op_eq (pe_op op_mod (pv 0) (pe_ix ix_list (pe_lst (pa_cons pe_int (pa_cons pe_int pa_nil))) (pv 2) (fun _ _ => rfl))) pe_int (nomark _))
    (pss_one (ps_ret pe_non))
    pss_nil)
    (pss_cons (ps_set (i := 3) sc_wait_by.nd rfl (Or.inl rfl) (pe_lst (pa_cons (pe_op op_mod (pe_op op_fdiv (pv 0) pe_int) (pv 1)) pa_nil)))
    (pss_cons (ps_for PassesOwn.never rfl (pi_range1 rfl T.bi_range (pa_cons (pe_op op_mod (pe_op op_fdiv (pv 0) pe_int) pe_int) pa_nil)) (pg_name (i := 4) sc_wait_by.nd rfl (Or.inl rfl))
    (pss_cons (ps_set (i := 5) sc_wait_by.nd rfl (Or.inl rfl) (pe_op op_mod (pe_op op_add (pe_op op_add (pe_ix ix_list (pv 3) pe_int (fun _ _ => rfl)) pe_int) (pe_op op_mod (pe_op op_fdiv (pv 0) (pe_op op_add pe_int (pe_op op_mul pe_int (pv 4)))) (pv 1))) (pv 1)))
    (pss_one (ps_if (pt_cmpR op_notIn_seq (pv 5) (pv 3) rfl)
    (pss_one (ps_expr (pe_bm PySem.F.plainAttrs_list PySem.F.slot_list_append PySem.F.type_list_append mt_append (pv 3) (pa_cons (pv 5) pa_nil))))
    pss_nil))))
    (pss_one (ps_ret (pe_tup (pa_cons (pe_ix ix_list (pe_lst (pa_cons pe_str (pa_cons pe_str pa_nil))) (pe_op op_mod (pe_op op_fdiv (pv 0) pe_int) pe_int) (fun _ _ => rfl)) (pa_cons (pv 3) pa_nil)))))))),
    rd_wait_by h⟩
theorem ok_whole_list (T : Tx K mg A) : FnOk P w K mg base CX0 1 T.f_whole_list T.fd_whole_list ["_law_found", "_law_most"] (sp_whole_list K A) := by
  refine T.F_whole_list.ok sc_whole_list (fun vs H Q E h => by obtain ⟨a, b, rfl, h⟩ := h; rfl) (fun cdv A0 outer s H vs Q E hr h => ?_)
  have hu := hu_of hr
  obtain ⟨a, b, rfl, h⟩ := h
  exact ⟨t_whole_list K A, (pss_cons (ps_if (pt_not (pt_val (pe_callB call_isi (by rfl) T.bi_isinstance (by decide +kernel) (pa_cons (pv 0) (pa_cons (pe_bltn (by rfl) T.bi_list (by decide +kernel) rfl) pa_nil)))))
    (pss_one (ps_ret pe_bl))
    pss_nil)
    (pss_cons (ps_for PassesOwn.never rfl (pi_list (pv 0)) (pg_name (i := 2) sc_whole_list.nd rfl (Or.inl rfl))
    (pss_one (ps_if (PW.pt (pw_or (pt_not (pt_val (pe_callB call_isi (by rfl) T.bi_isinstance (by decide +kernel) (pa_cons (pv 2) (pa_cons (pe_bltn (by rfl) T.bi_int (by decide +kernel) rfl) pa_nil))))) (pw_or (pt_val (pe_callB call_isi (by rfl) T.bi_isinstance (by decide +kernel) (pa_cons (pv 2) (pa_cons (pe_bltn (by rfl) T.bi_bool (by decide +kernel) rfl) pa_nil)))) (pw_or1 (pt_not (pt_chain op_le op_lt pe_int (pv 2) (pv 1)))))))
    (pss_one (ps_ret pe_bl))
    pss_nil)))
    (pss_one (ps_ret pe_bl)))),
    rd_whole_list h⟩
theorem ok_closed (T : Tx K mg A) : FnOk P w K mg base CX0 1 T.f_closed T.fd_closed ["_law_waits", "_law_there"] (sp_closed K A) := by
  refine T.F_closed.ok sc_closed (fun vs H Q E h => by obtain ⟨a, b, rfl, h⟩ := h; rfl) (fun cdv A0 outer s H vs Q E hr h => ?_)
  have hu := hu_of hr
  obtain ⟨a, b, rfl, h⟩ := h
  exact ⟨t_closed K A, (pss_cons (ps_for PassesOwn.never rfl (pi_range1 rfl T.bi_range (pa_cons (pe_callB call_lenq (by rfl) T.bi_len PySem.boot_len (pa_cons (pv 0) pa_nil)) pa_nil)) (pg_name (i := 2) sc_closed.nd rfl (Or.inl rfl))
    (pss_one (ps_if (pt_val (pe_ix ix_list (pv 1) (pv 2) (fun _ _ => rfl)))
    (pss_cons (ps_if (pt_cmpR op_isNq (pe_ix ix_list (pv 0) (pv 2) (fun _ _ => rfl)) pe_non (nomark _))
    (pss_one (ps_ret pe_bl))
    pss_nil)
    (pss_cons (ps_setLc (i := 4) (own := [("_law_one", 3)]) (g := (gName 3)) (tt := (tB (tOp (rIxL K) (tVar 1) (tVar 3)))) (te := (tVar 3)) rfl sc_closed.nd rfl rfl (sw_true rfl rfl rfl (by decide +kernel)) (pi_list (pe_ix ix_tup (pe_ix ix_list (pv 0) (pv 2) (fun _ _ => rfl)) pe_int (fun _ _ => rfl))) (blkOk_by (own := [("_law_one", 3)]) (N := ["_law_waits", "_law_there", "_law_hand", "_law_one", "_law_inside"]) (sc := defScope s_closed) (by decide +kernel)) (fun _ _ _ _ _ => (pg_name (i := 3) sc_closed.nd rfl (Or.inl rfl))) (fun _ _ _ _ _ => (pts_one (pt_val (pe_ix ix_list (pv 1) (pv 3) (fun _ _ => rfl))))) (fun _ _ _ _ _ => (pv 3)))
    (pss_one (ps_if (PW.pt (pw_or (pt_cmpR (op_eqD hr.units) (pv 4) (pe_lst pa_nil) (nomark _)) (pw_or1 (PW.pt (pw_and (pt_cmpR op_eq (pe_ix ix_tup (pe_ix ix_list (pv 0) (pv 2) (fun _ _ => rfl)) pe_int (fun _ _ => rfl)) pe_str (nomark _)) (pw_and1 (pt_cmpR op_lt (pe_callB call_lenq (by rfl) T.bi_len PySem.boot_len (pa_cons (pv 4) pa_nil)) (pe_callB call_lenq (by rfl) T.bi_len PySem.boot_len (pa_cons (pe_ix ix_tup (pe_ix ix_list (pv 0) (pv 2) (fun _ _ => rfl)) pe_int (fun _ _ => rfl)) pa_nil)) (nomark _))))))))
    (pss_one (ps_ret pe_bl))
    pss_nil))))
    pss_nil)))
    (pss_one (ps_ret pe_bl))),
    rd_closed h⟩
theorem ok_free (T : Tx K mg A) : FnOk P w K mg base CX0 1 T.f_free T.fd_free ["_law_wait", "_law_rounds", "_law_mine"] (sp_free K A) := by
  refine T.F_free.ok sc_free (fun vs H Q E h => by obtain ⟨a, b, c, rfl, h⟩ := h; rfl) (fun cdv A0 outer s H vs Q E hr h => ?_)
  have hu := hu_of hr
  obtain ⟨a, b, c, rfl, h⟩ := h
  exact ⟨t_free K A, (pss_cons (ps_if (pt_cmpR op_isNq (pv 0) pe_non (nomark _))
    (pss_one (ps_ret (pe_cmpR op_eq (pv 2) pe_int (nomark _))))
    pss_nil)
    (pss_cons (ps_setLc (i := 4) (own := [("_law_one", 3)]) (g := (gName 3)) (tt := (tAnd (tTest (tOp qNotN (tOp (rIxL K) (tVar 1) (tVar 3)) (tC .non))) (tTest (tOp qLt (tOp (rIxL K) (tVar 1) (tVar 3)) (tVar 2))))) (te := (tVar 3)) rfl sc_free.nd rfl rfl (sw_true rfl rfl rfl (by decide +kernel)) (pi_list (pe_ix ix_tup (pv 0) pe_int (fun _ _ => rfl))) (blkOk_by (own := [("_law_one", 3)]) (N := ["_law_wait", "_law_rounds", "_law_mine", "_law_one", "_law_lesser"]) (sc := defScope s_free) (by decide +kernel)) (fun _ _ _ _ _ => (pg_name (i := 3) sc_free.nd rfl (Or.inl rfl))) (fun _ _ _ _ _ => (pts_one (PW.pt (pw_and (pt_cmpR op_notNq (pe_ix ix_list (pv 1) (pv 3) (fun _ _ => rfl)) pe_non (nomark _)) (pw_and1 (pt_cmpR op_lt (pe_ix ix_list (pv 1) (pv 3) (fun _ _ => rfl)) (pv 2) (nomark _))))))) (fun _ _ _ _ _ => (pv 3)))
    (pss_cons (ps_if (pt_cmpR op_eq (pe_ix ix_tup (pv 0) pe_int (fun _ _ => rfl)) pe_str (nomark _))
    (pss_one (ps_ret (pe_cmpR (op_neD hr.units) (pv 4) (pe_lst pa_nil) (nomark _))))
    pss_nil)
    (pss_one (ps_ret (pe_cmpR op_eq (pe_callB call_lenq (by rfl) T.bi_len PySem.boot_len (pa_cons (pv 4) pa_nil)) (pe_callB call_lenq (by rfl) T.bi_len PySem.boot_len (pa_cons (pe_ix ix_tup (pv 0) pe_int (fun _ _ => rfl)) pa_nil)) (nomark _))))))),
    rd_free h⟩
theorem ok_law (T : Tx K mg A) : FnOk P w K mg base CX0 6 T.f_law T.fd_law ["_law_script"] (sp_law K A) := by
  refine T.F_law.ok sc_law (fun vs H Q E h => by obtain ⟨a, rfl, h⟩ := h; rfl) (fun cdv A0 outer s H vs Q E hr h => ?_)
  have hu := hu_of hr
  obtain ⟨a, rfl, h⟩ := h
  exact ⟨t_law K A, (pss_cons (ps_set (i := 1) sc_law.nd rfl (Or.inl rfl) (pe_call (ok_cell_at T) (hr.mono (by decide)) rfl T.m_cell_at T.F_cell_at.kp T.b_cell_at .nil pass0 (pa_cons (pv 0) (pa_cons pe_int pa_nil))))
    (pss_cons (ps_set (i := 2) sc_law.nd rfl (Or.inr rfl) (pe_op op_add pe_int (pe_op op_mod (pv 1) pe_int)))
    (Evl.pss_cut (ps_if (pt_cmpR op_eq (pe_op op_mod (pe_op op_fdiv (pv 1) pe_int) pe_int) pe_int (nomark _))
    (pss_one (ps_set (i := 2) sc_law.nd rfl (Or.inr rfl) (pe_op op_add pe_int (pe_op op_mod (pe_op op_fdiv (pv 1) pe_int) pe_int))))
    pss_nil)
    (pss_cons (ps_set (i := 3) sc_law.nd rfl (Or.inr rfl) (pe_op op_mod (pe_call (ok_cell_at T) (hr.mono (by decide)) rfl T.m_cell_at T.F_cell_at.kp T.b_cell_at .nil pass0 (pa_cons (pv 0) (pa_cons pe_int pa_nil))) pe_int))
    (pss_cons (ps_setLc (i := 5) (own := [("_law_k", 4)]) (g := (gName 4)) (tt := tYes) (te := (tCall (sp_wait_by K A) [] E0 (tCons (tCall (sp_mixed K A) [] E0 (tCons (tVar 0) (tCons (tOp qAdd (tC (.int 2)) (tOp qMod (tVar 4) (tC (.int 40)))) (tCons (tVar 4) tNil)))) (tCons (tVar 2) (tCons (tVar 3) tNil))))) rfl sc_law.nd rfl rfl (sw_true rfl rfl rfl (by decide +kernel)) (pi_range1 rfl T.bi_range (pa_cons (pv 2) pa_nil)) (blkOk_by (own := [("_law_k", 4)]) (N := ["_law_script", "_law_cell", "_law_size", "_law_few", "_law_k", "_law_waits", "_law_wait", "_law_found", "_law_rounds", "_law_hand", "_law_there", "_law_mine", "_law_turn", "_law_some"]) (sc := defScope s_law) (by decide +kernel)) (fun _ _ _ _ _ => (pg_name (i := 4) sc_law.nd rfl (Or.inl rfl))) (fun _ _ _ _ _ => pts_nil) (fun _ _ _ _ _ => (pe_call (ok_wait_by T) (hr.mono (by decide)) rfl T.m_wait_by T.F_wait_by.kp T.b_wait_by .nil pass0 (pa_cons (pe_call (ok_mixed T) (hr.mono (by decide)) rfl T.m_mixed T.F_mixed.kp T.b_mixed .nil pass0 (pa_cons (pv 0) (pa_cons (pe_op op_add pe_int (pe_op op_mod (pv 4) pe_int)) (pa_cons (pv 4) pa_nil)))) (pa_cons (pv 2) (pa_cons (pv 3) pa_nil))))))
    (pss_cons (ps_set (i := 7) sc_law.nd rfl (Or.inr rfl) (pe_call (ok_stuck T) (hr.mono (by decide)) rfl T.m_stuck T.F_stuck.kp T.b_stuck .nil pass0 (pa_cons (pe_lc (own := [("_law_wait", 6)]) (g := (gName 6)) (tt := tYes) (te := (tVar 6)) rfl sc_law.nd (pi_list (pv 5)) (blkOk_by (own := [("_law_wait", 6)]) (N := ["_law_script", "_law_cell", "_law_size", "_law_few", "_law_k", "_law_waits", "_law_wait", "_law_found", "_law_rounds", "_law_hand", "_law_there", "_law_mine", "_law_turn", "_law_some"]) (sc := defScope s_law) (by decide +kernel)) (fun _ _ _ _ _ => (pg_name (i := 6) sc_law.nd rfl (Or.inl rfl))) (fun _ _ _ _ _ => pts_nil) (fun _ _ _ _ _ => (pv 6))) pa_nil)))
    (pss_cons (ps_set (i := 8) sc_law.nd rfl (Or.inl rfl) (pe_call (ok_freed T) (hr.mono (by decide)) rfl T.m_freed T.F_freed.kp T.b_freed .nil pass0 (pa_cons (pe_lc (own := [("_law_wait", 6)]) (g := (gName 6)) (tt := tYes) (te := (tVar 6)) rfl sc_law.nd (pi_list (pv 5)) (blkOk_by (own := [("_law_wait", 6)]) (N := ["_law_script", "_law_cell", "_law_size", "_law_few", "_law_k", "_law_waits", "_law_wait", "_law_found", "_law_rounds", "_law_hand", "_law_there", "_law_mine", "_law_turn", "_law_some"]) (sc := defScope s_law) (by decide +kernel)) (fun _ _ _ _ _ => (pg_name (i := 6) sc_law.nd rfl (Or.inl rfl))) (fun _ _ _ _ _ => pts_nil) (fun _ _ _ _ _ => (pv 6))) pa_nil)))
    (pss_cons (ps_if (PW.pt (pw_or (pt_not (pt_val (pe_call (ok_whole_list T) (hr.mono (by decide)) rfl T.m_whole_list T.F_whole_list.kp T.b_whole_list .nil pass0 (pa_cons (pv 7) (pa_cons (pv 2) pa_nil))))) (pw_or (pt_not (pt_val (pe_callB call_isi (by rfl) T.bi_isinstance (by decide +kernel) (pa_cons (pv 8) (pa_cons (pe_bltn (by rfl) T.bi_list (by decide +kernel) rfl) pa_nil))))) (pw_or1 (pt_cmpR op_ne (pe_callB call_lenq (by rfl) T.bi_len PySem.boot_len (pa_cons (pv 8) pa_nil)) (pv 2) (nomark _))))))
    (pss_one (ps_ret pe_bl))
    pss_nil)
    (pss_cons (ps_set (i := 10) sc_law.nd rfl (Or.inr rfl) (pe_lc (own := [("_law_hand", 9)]) (g := (gName 9)) (tt := tYes) (te := (tOp (rIn K false) (tVar 9) (tVar 7))) rfl sc_law.nd (pi_range1 rfl T.bi_range (pa_cons (pv 2) pa_nil)) (blkOk_by (own := [("_law_hand", 9)]) (N := ["_law_script", "_law_cell", "_law_size", "_law_few", "_law_k", "_law_waits", "_law_wait", "_law_found", "_law_rounds", "_law_hand", "_law_there", "_law_mine", "_law_turn", "_law_some"]) (sc := defScope s_law) (by decide +kernel)) (fun _ _ _ _ _ => (pg_name (i := 9) sc_law.nd rfl (Or.inl rfl))) (fun _ _ _ _ _ => pts_nil) (fun _ _ _ _ _ => (pe_cmpR op_in_seq (pv 9) (pv 7) rfl))))
    (pss_cons (ps_if (PW.pt (pw_or (pt_cmpR (op_neD hr.units) (pv 7) (pe_lc (own := [("_law_hand", 9)]) (g := (gName 9)) (tt := (tB (tOp (rIxL K) (tVar 10) (tVar 9)))) (te := (tVar 9)) rfl sc_law.nd (pi_range1 rfl T.bi_range (pa_cons (pv 2) pa_nil)) (blkOk_by (own := [("_law_hand", 9)]) (N := ["_law_script", "_law_cell", "_law_size", "_law_few", "_law_k", "_law_waits", "_law_wait", "_law_found", "_law_rounds", "_law_hand", "_law_there", "_law_mine", "_law_turn", "_law_some"]) (sc := defScope s_law) (by decide +kernel)) (fun _ _ _ _ _ => (pg_name (i := 9) sc_law.nd rfl (Or.inl rfl))) (fun _ _ _ _ _ => (pts_one (pt_val (pe_ix ix_list (pv 10) (pv 9) (fun _ _ => rfl))))) (fun _ _ _ _ _ => (pv 9))) (nomark _)) (pw_or1 (pt_not (pt_val (pe_call (ok_closed T) (hr.mono (by decide)) rfl T.m_closed T.F_closed.kp T.b_closed .nil pass0 (pa_cons (pv 5) (pa_cons (pv 10) pa_nil))))))))
    (pss_one (ps_ret pe_bl))
    pss_nil)
    (pss_cons (ps_for PassesOwn.never rfl (pi_range1 rfl T.bi_range (pa_cons (pv 2) pa_nil)) (pg_name (i := 9) sc_law.nd rfl (Or.inl rfl))
    (pss_cons (ps_set (i := 11) sc_law.nd rfl (Or.inl rfl) (pe_ix ix_list (pv 8) (pv 9) (fun _ _ => rfl)))
    (pss_cons (ps_if (PW.pt (pw_and (pt_cmpR op_isNq (pv 11) pe_non (nomark _)) (pw_and1 (pt_not (pt_val (pe_ix ix_list (pv 10) (pv 9) (fun _ _ => rfl)))))))
    (pss_one (ps_ret pe_bl))
    pss_nil)
    (pss_one (ps_if (pt_not (pt_val (pe_ix ix_list (pv 10) (pv 9) (fun _ _ => rfl))))
    (pss_one (ps_if (PW.pt (pw_or (pt_not (pt_val (pe_callB call_isi (by rfl) T.bi_isinstance (by decide +kernel) (pa_cons (pv 11) (pa_cons (pe_bltn (by rfl) T.bi_int (by decide +kernel) rfl) pa_nil))))) (pw_or (pt_val (pe_callB call_isi (by rfl) T.bi_isinstance (by decide +kernel) (pa_cons (pv 11) (pa_cons (pe_bltn (by rfl) T.bi_bool (by decide +kernel) rfl) pa_nil)))) (pw_or1 (pt_not (pt_val (pe_call (ok_free T) (hr.mono (by decide)) rfl T.m_free T.F_free.kp T.b_free .nil pass0 (pa_cons (pe_ix ix_list (pv 5) (pv 9) (fun _ _ => rfl)) (pa_cons (pv 8) (pa_cons (pv 11) pa_nil))))))))))
    (pss_one (ps_ret pe_bl))
    pss_nil))
    pss_nil)))))
    (pss_cons (ps_for PassesOwn.never rfl (pi_range1 rfl T.bi_range (pa_cons pe_int pa_nil)) (pg_name (i := 12) sc_law.nd rfl (Or.inr rfl))
    (pss_cons (ps_set (i := 13) sc_law.nd rfl (Or.inr rfl) (pe_lc (own := [("_law_k", 4)]) (g := (gName 4)) (tt := tYes) (te := (tOp qGt (tOp qMod (tCall (sp_mixed K A) [] E0 (tCons (tVar 0) (tCons (tOp qAdd (tC (.int 2)) (tOp qMod (tVar 4) (tC (.int 40)))) (tCons (tOp qAdd (tC (.int 60)) (tVar 12)) tNil)))) (tOp qAdd (tVar 12) (tC (.int 2)))) (tC (.int 0)))) rfl sc_law.nd (pi_range1 rfl T.bi_range (pa_cons (pv 2) pa_nil)) (blkOk_by (own := [("_law_k", 4)]) (N := ["_law_script", "_law_cell", "_law_size", "_law_few", "_law_k", "_law_waits", "_law_wait", "_law_found", "_law_rounds", "_law_hand", "_law_there", "_law_mine", "_law_turn", "_law_some"]) (sc := defScope s_law) (by decide +kernel)) (fun _ _ _ _ _ => (pg_name (i := 4) sc_law.nd rfl (Or.inl rfl))) (fun _ _ _ _ _ => pts_nil) (fun _ _ _ _ _ => (pe_cmpR op_gt (pe_op op_mod (pe_call (ok_mixed T) (hr.mono (by decide)) rfl T.m_mixed T.F_mixed.kp T.b_mixed .nil pass0 (pa_cons (pv 0) (pa_cons (pe_op op_add pe_int (pe_op op_mod (pv 4) pe_int)) (pa_cons (pe_op op_add pe_int (pv 12)) pa_nil)))) (pe_op op_add (pv 12) pe_int)) pe_int (nomark _)))))
    (pss_one (ps_if (pt_val (pe_call (ok_closed T) (hr.mono (by decide)) rfl T.m_closed T.F_closed.kp T.b_closed .nil pass0 (pa_cons (pv 5) (pa_cons (pv 13) pa_nil))))
    (pss_one (ps_if (pt_cmpR (op_neD hr.units) (pe_lc (own := [("_law_hand", 9)]) (g := (gName 9)) (tt := (tAnd (tB (tOp (rIxL K) (tVar 13) (tVar 9))) (tNot (tB (tOp (rIxL K) (tVar 10) (tVar 9)))))) (te := (tVar 9)) rfl sc_law.nd (pi_range1 rfl T.bi_range (pa_cons (pv 2) pa_nil)) (blkOk_by (own := [("_law_hand", 9)]) (N := ["_law_script", "_law_cell", "_law_size", "_law_few", "_law_k", "_law_waits", "_law_wait", "_law_found", "_law_rounds", "_law_hand", "_law_there", "_law_mine", "_law_turn", "_law_some"]) (sc := defScope s_law) (by decide +kernel)) (fun _ _ _ _ _ => (pg_name (i := 9) sc_law.nd rfl (Or.inl rfl))) (fun _ _ _ _ _ => (pts_one (PW.pt (pw_and (pt_val (pe_ix ix_list (pv 13) (pv 9) (fun _ _ => rfl))) (pw_and1 (pt_not (pt_val (pe_ix ix_list (pv 10) (pv 9) (fun _ _ => rfl))))))))) (fun _ _ _ _ _ => (pv 9))) (pe_lst pa_nil) (nomark _))
    (pss_one (ps_ret pe_bl))
    pss_nil))
    pss_nil))))
    (pss_one (ps_ret pe_bl)))))))))))))),
    rd_law h⟩
end
theorem all_mk {l : PySem.W.OpenLaw} {w : World} {K : PySem.W.Frag} {h : Heap} {mg : Str → Option Value} {fa : Addr} (X : K.In h) (G : h.Ns mainGlobals mg) (hfa : mg "law" = some (.ref fa))
    {f1 : Addr} {od1 an1 : Option Addr} {sl1 : Array (Option Value)} {oc1 kV1 dc1 pm1 cd1 ct1 : Value} {f2 : Addr} {od2 an2 : Option Addr} {sl2 : Array (Option Value)} {oc2 kV2 dc2 pm2 cd2 ct2 : Value} {f3 : Addr} {od3 an3 : Option Addr} {sl3 : Array (Option Value)} {oc3 kV3 dc3 pm3 cd3 ct3 : Value} {f4 : Addr} {od4 an4 : Option Addr} {sl4 : Array (Option Value)} {oc4 kV4 dc4 pm4 cd4 ct4 : Value} {f5 : Addr} {od5 an5 : Option Addr} {sl5 : Array (Option Value)} {oc5 kV5 dc5 pm5 cd5 ct5 : Value} {f6 : Addr} {od6 an6 : Option Addr} {sl6 : Array (Option Value)} {oc6 kV6 dc6 pm6 cd6 ct6 : Value} {f7 : Addr} {od7 an7 : Option Addr} {sl7 : Array (Option Value)} {oc7 kV7 dc7 pm7 cd7 ct7 : Value} {f8 : Addr} {od8 an8 : Option Addr} {sl8 : Array (Option Value)} {oc8 kV8 dc8 pm8 cd8 ct8 : Value} {f9 : Addr} {od9 an9 : Option Addr} {sl9 : Array (Option Value)} {oc9 kV9 dc9 pm9 cd9 ct9 : Value} {f10 : Addr} {od10 an10 : Option Addr} {sl10 : Array (Option Value)} {oc10 kV10 dc10 pm10 cd10 ct10 : Value} {f11 : Addr} {od11 an11 : Option Addr} {sl11 : Array (Option Value)} {oc11 kV11 dc11 pm11 cd11 ct11 : Value} {f12 : Addr} {od12 an12 : Option Addr} {sl12 : Array (Option Value)} {oc12 kV12 dc12 pm12 cd12 ct12 : Value} {f13 : Addr} {od13 an13 : Option Addr} {sl13 : Array (Option Value)} {oc13 kV13 dc13 pm13 cd13 ct13 : Value} {tMOST_HANDS : Tok} {aW : Addr} {dW0 : Option Addr} {t1W t2W : Tok} {nW : Nat} {slW : Array (Option Value)}
    (a1 : PySem.W.nsIn K mainGlobals "is_hand" = some (some (.ref f1)))
    (l1 : K.lookup f1 = some ⟨oc1, od1, .func (PySem.W.fnOf "is_hand" "is_hand" (defArgs s_is_hand) (defBody s_is_hand) (defScope s_is_hand) .none kV1 dc1 pm1 an1 cd1 ct1), sl1⟩)
    (c1 : PySem.W.codeIn K cd1 "is_hand" = true)
    (k1 : PySem.W.keepIn K (.ref f1) = true)
    (a2 : PySem.W.nsIn K mainGlobals "is_wait" = some (some (.ref f2)))
    (l2 : K.lookup f2 = some ⟨oc2, od2, .func (PySem.W.fnOf "is_wait" "is_wait" (defArgs s_is_wait) (defBody s_is_wait) (defScope s_is_wait) .none kV2 dc2 pm2 an2 cd2 ct2), sl2⟩)
    (c2 : PySem.W.codeIn K cd2 "is_wait" = true)
    (k2 : PySem.W.keepIn K (.ref f2) = true)
    (a3 : PySem.W.nsIn K mainGlobals "need" = some (some (.ref f3)))
    (l3 : K.lookup f3 = some ⟨oc3, od3, .func (PySem.W.fnOf "need" "need" (defArgs s_need) (defBody s_need) (defScope s_need) .none kV3 dc3 pm3 an3 cd3 ct3), sl3⟩)
    (c3 : PySem.W.codeIn K cd3 "need" = true)
    (k3 : PySem.W.keepIn K (.ref f3) = true)
    (a4 : PySem.W.nsIn K mainGlobals "comes_free" = some (some (.ref f4)))
    (l4 : K.lookup f4 = some ⟨oc4, od4, .func (PySem.W.fnOf "comes_free" "comes_free" (defArgs s_comes_free) (defBody s_comes_free) (defScope s_comes_free) .none kV4 dc4 pm4 an4 cd4 ct4), sl4⟩)
    (c4 : PySem.W.codeIn K cd4 "comes_free" = true)
    (k4 : PySem.W.keepIn K (.ref f4) = true)
    (a5 : PySem.W.nsIn K mainGlobals "freed" = some (some (.ref f5)))
    (l5 : K.lookup f5 = some ⟨oc5, od5, .func (PySem.W.fnOf "freed" "freed" (defArgs s_freed) (defBody s_freed) (defScope s_freed) .none kV5 dc5 pm5 an5 cd5 ct5), sl5⟩)
    (c5 : PySem.W.codeIn K cd5 "freed" = true)
    (k5 : PySem.W.keepIn K (.ref f5) = true)
    (a6 : PySem.W.nsIn K mainGlobals "stuck" = some (some (.ref f6)))
    (l6 : K.lookup f6 = some ⟨oc6, od6, .func (PySem.W.fnOf "stuck" "stuck" (defArgs s_stuck) (defBody s_stuck) (defScope s_stuck) .none kV6 dc6 pm6 an6 cd6 ct6), sl6⟩)
    (c6 : PySem.W.codeIn K cd6 "stuck" = true)
    (k6 : PySem.W.keepIn K (.ref f6) = true)
    (a7 : PySem.W.nsIn K mainGlobals "_law_cell_at" = some (some (.ref f7)))
    (l7 : K.lookup f7 = some ⟨oc7, od7, .func (PySem.W.fnOf "_law_cell_at" "_law_cell_at" (defArgs s_cell_at) (defBody s_cell_at) (defScope s_cell_at) .none kV7 dc7 pm7 an7 cd7 ct7), sl7⟩)
    (c7 : PySem.W.codeIn K cd7 "_law_cell_at" = true)
    (k7 : PySem.W.keepIn K (.ref f7) = true)
    (a8 : PySem.W.nsIn K mainGlobals "_law_mixed" = some (some (.ref f8)))
    (l8 : K.lookup f8 = some ⟨oc8, od8, .func (PySem.W.fnOf "_law_mixed" "_law_mixed" (defArgs s_mixed) (defBody s_mixed) (defScope s_mixed) .none kV8 dc8 pm8 an8 cd8 ct8), sl8⟩)
    (c8 : PySem.W.codeIn K cd8 "_law_mixed" = true)
    (k8 : PySem.W.keepIn K (.ref f8) = true)
    (a9 : PySem.W.nsIn K mainGlobals "_law_wait_by" = some (some (.ref f9)))
    (l9 : K.lookup f9 = some ⟨oc9, od9, .func (PySem.W.fnOf "_law_wait_by" "_law_wait_by" (defArgs s_wait_by) (defBody s_wait_by) (defScope s_wait_by) .none kV9 dc9 pm9 an9 cd9 ct9), sl9⟩)
    (c9 : PySem.W.codeIn K cd9 "_law_wait_by" = true)
    (k9 : PySem.W.keepIn K (.ref f9) = true)
    (a10 : PySem.W.nsIn K mainGlobals "_law_whole_list" = some (some (.ref f10)))
    (l10 : K.lookup f10 = some ⟨oc10, od10, .func (PySem.W.fnOf "_law_whole_list" "_law_whole_list" (defArgs s_whole_list) (defBody s_whole_list) (defScope s_whole_list) .none kV10 dc10 pm10 an10 cd10 ct10), sl10⟩)
    (c10 : PySem.W.codeIn K cd10 "_law_whole_list" = true)
    (k10 : PySem.W.keepIn K (.ref f10) = true)
    (a11 : PySem.W.nsIn K mainGlobals "_law_closed" = some (some (.ref f11)))
    (l11 : K.lookup f11 = some ⟨oc11, od11, .func (PySem.W.fnOf "_law_closed" "_law_closed" (defArgs s_closed) (defBody s_closed) (defScope s_closed) .none kV11 dc11 pm11 an11 cd11 ct11), sl11⟩)
    (c11 : PySem.W.codeIn K cd11 "_law_closed" = true)
    (k11 : PySem.W.keepIn K (.ref f11) = true)
    (a12 : PySem.W.nsIn K mainGlobals "_law_free" = some (some (.ref f12)))
    (l12 : K.lookup f12 = some ⟨oc12, od12, .func (PySem.W.fnOf "_law_free" "_law_free" (defArgs s_free) (defBody s_free) (defScope s_free) .none kV12 dc12 pm12 an12 cd12 ct12), sl12⟩)
    (c12 : PySem.W.codeIn K cd12 "_law_free" = true)
    (k12 : PySem.W.keepIn K (.ref f12) = true)
    (a13 : PySem.W.nsIn K mainGlobals "law" = some (some (.ref f13)))
    (l13 : K.lookup f13 = some ⟨oc13, od13, .func (PySem.W.fnOf "law" "law" (defArgs s_law) (defBody s_law) (defScope s_law) .none kV13 dc13 pm13 an13 cd13 ct13), sl13⟩)
    (c13 : PySem.W.codeIn K cd13 "law" = true)
    (k13 : PySem.W.keepIn K (.ref f13) = true)
    (vMOST_HANDS : PySem.W.nsIn K mainGlobals "MOST_HANDS" = some (some (.int 40 tMOST_HANDS)))
    (vWORDS : PySem.W.nsIn K mainGlobals "WORDS" = some (some (.ref aW)))
    (xW : K.lookup aW = some ⟨.type "tuple", dW0, .seq #[.str "all" t1W, .str "any" t2W] nW, slW⟩)
    (z_bool : PySem.W.nsIn K mainGlobals "bool" = some none)
    (z_enumerate : PySem.W.nsIn K mainGlobals "enumerate" = some none)
    (z_int : PySem.W.nsIn K mainGlobals "int" = some none)
    (z_isinstance : PySem.W.nsIn K mainGlobals "isinstance" = some none)
    (z_len : PySem.W.nsIn K mainGlobals "len" = some none)
    (z_list : PySem.W.nsIn K mainGlobals "list" = some none)
    (z_range : PySem.W.nsIn K mainGlobals "range" = some none)
    (z_str : PySem.W.nsIn K mainGlobals "str" = some none)
    (z_tuple : PySem.W.nsIn K mainGlobals "tuple" = some none) :
    ∃ fd : FuncData, (∀ (s : Shared) (v : Value), BindsTo s fd ⟨[v], []⟩ [("_law_script", v)]) ∧ ∀ base : Heap, K.In base → base.Ns mainGlobals mg → FnOk l.prog w K mg base CX0 6 fa fd ["_law_script"] (sp_law K ⟨aW, 0, 0, 0, 0, 0, 0⟩) := by
  have e := hfa.symm.trans (PySem.W.mg_of X G a13)
  cases e
  have F1 := fun_mk (st := s_is_hand) l1 c1 k1
  have b1 := F1.binds (ps := ["thing", "many"]) fun _ _ _ _ _ _ us hl => match us, hl with | [_, _], _ => rfl
  have F2 := fun_mk (st := s_is_wait) l2 c2 k2
  have b2 := F2.binds (ps := ["wait", "many"]) fun _ _ _ _ _ _ us hl => match us, hl with | [_, _], _ => rfl
  have F3 := fun_mk (st := s_need) l3 c3 k3
  have b3 := F3.binds (ps := ["waits"]) fun _ _ _ _ _ _ us hl => match us, hl with | [_], _ => rfl
  have F4 := fun_mk (st := s_comes_free) l4 c4 k4
  have b4 := F4.binds (ps := ["wait", "rounds"]) fun _ _ _ _ _ _ us hl => match us, hl with | [_, _], _ => rfl
  have F5 := fun_mk (st := s_freed) l5 c5 k5
  have b5 := F5.binds (ps := ["waits"]) fun _ _ _ _ _ _ us hl => match us, hl with | [_], _ => rfl
  have F6 := fun_mk (st := s_stuck) l6 c6 k6
  have b6 := F6.binds (ps := ["waits"]) fun _ _ _ _ _ _ us hl => match us, hl with | [_], _ => rfl
  have F7 := fun_mk (st := s_cell_at) l7 c7 k7
  have b7 := F7.binds (ps := ["_law_script", "_law_k"]) fun _ _ _ _ _ _ us hl => match us, hl with | [_, _], _ => rfl
  have F8 := fun_mk (st := s_mixed) l8 c8 k8
  have b8 := F8.binds (ps := ["_law_script", "_law_k", "_law_salt"]) fun _ _ _ _ _ _ us hl => match us, hl with | [_, _, _], _ => rfl
  have F9 := fun_mk (st := s_wait_by) l9 c9 k9
  have b9 := F9.binds (ps := ["_law_number", "_law_size", "_law_few"]) fun _ _ _ _ _ _ us hl => match us, hl with | [_, _, _], _ => rfl
  have F10 := fun_mk (st := s_whole_list) l10 c10 k10
  have b10 := F10.binds (ps := ["_law_found", "_law_most"]) fun _ _ _ _ _ _ us hl => match us, hl with | [_, _], _ => rfl
  have F11 := fun_mk (st := s_closed) l11 c11 k11
  have b11 := F11.binds (ps := ["_law_waits", "_law_there"]) fun _ _ _ _ _ _ us hl => match us, hl with | [_, _], _ => rfl
  have F12 := fun_mk (st := s_free) l12 c12 k12
  have b12 := F12.binds (ps := ["_law_wait", "_law_rounds", "_law_mine"]) fun _ _ _ _ _ _ us hl => match us, hl with | [_, _, _], _ => rfl
  have F13 := fun_mk (st := s_law) l13 c13 k13
  have b13 := F13.binds (ps := ["_law_script"]) fun _ _ _ _ _ _ us hl => match us, hl with | [_], _ => rfl
  let T : Tx K mg ⟨aW, 0, 0, 0, 0, 0, 0⟩ := {
    f_is_hand := f1,
    fd_is_hand := PySem.W.fnOf "is_hand" "is_hand" (defArgs s_is_hand) (defBody s_is_hand) (defScope s_is_hand) .none kV1 dc1 pm1 an1 cd1 ct1,
    F_is_hand := F1,
    b_is_hand := b1,
    m_is_hand := PySem.W.mg_of X G a1,
    f_is_wait := f2,
    fd_is_wait := PySem.W.fnOf "is_wait" "is_wait" (defArgs s_is_wait) (defBody s_is_wait) (defScope s_is_wait) .none kV2 dc2 pm2 an2 cd2 ct2,
    F_is_wait := F2,
    b_is_wait := b2,
    m_is_wait := PySem.W.mg_of X G a2,
    f_need := f3,
    fd_need := PySem.W.fnOf "need" "need" (defArgs s_need) (defBody s_need) (defScope s_need) .none kV3 dc3 pm3 an3 cd3 ct3,
    F_need := F3,
    b_need := b3,
    m_need := PySem.W.mg_of X G a3,
    f_comes_free := f4,
    fd_comes_free := PySem.W.fnOf "comes_free" "comes_free" (defArgs s_comes_free) (defBody s_comes_free) (defScope s_comes_free) .none kV4 dc4 pm4 an4 cd4 ct4,
    F_comes_free := F4,
    b_comes_free := b4,
    m_comes_free := PySem.W.mg_of X G a4,
    f_freed := f5,
    fd_freed := PySem.W.fnOf "freed" "freed" (defArgs s_freed) (defBody s_freed) (defScope s_freed) .none kV5 dc5 pm5 an5 cd5 ct5,
    F_freed := F5,
    b_freed := b5,
    m_freed := PySem.W.mg_of X G a5,
    f_stuck := f6,
    fd_stuck := PySem.W.fnOf "stuck" "stuck" (defArgs s_stuck) (defBody s_stuck) (defScope s_stuck) .none kV6 dc6 pm6 an6 cd6 ct6,
    F_stuck := F6,
    b_stuck := b6,
    m_stuck := PySem.W.mg_of X G a6,
    f_cell_at := f7,
    fd_cell_at := PySem.W.fnOf "_law_cell_at" "_law_cell_at" (defArgs s_cell_at) (defBody s_cell_at) (defScope s_cell_at) .none kV7 dc7 pm7 an7 cd7 ct7,
    F_cell_at := F7,
    b_cell_at := b7,
    m_cell_at := PySem.W.mg_of X G a7,
    f_mixed := f8,
    fd_mixed := PySem.W.fnOf "_law_mixed" "_law_mixed" (defArgs s_mixed) (defBody s_mixed) (defScope s_mixed) .none kV8 dc8 pm8 an8 cd8 ct8,
    F_mixed := F8,
    b_mixed := b8,
    m_mixed := PySem.W.mg_of X G a8,
    f_wait_by := f9,
    fd_wait_by := PySem.W.fnOf "_law_wait_by" "_law_wait_by" (defArgs s_wait_by) (defBody s_wait_by) (defScope s_wait_by) .none kV9 dc9 pm9 an9 cd9 ct9,
    F_wait_by := F9,
    b_wait_by := b9,
    m_wait_by := PySem.W.mg_of X G a9,
    f_whole_list := f10,
    fd_whole_list := PySem.W.fnOf "_law_whole_list" "_law_whole_list" (defArgs s_whole_list) (defBody s_whole_list) (defScope s_whole_list) .none kV10 dc10 pm10 an10 cd10 ct10,
    F_whole_list := F10,
    b_whole_list := b10,
    m_whole_list := PySem.W.mg_of X G a10,
    f_closed := f11,
    fd_closed := PySem.W.fnOf "_law_closed" "_law_closed" (defArgs s_closed) (defBody s_closed) (defScope s_closed) .none kV11 dc11 pm11 an11 cd11 ct11,
    F_closed := F11,
    b_closed := b11,
    m_closed := PySem.W.mg_of X G a11,
    f_free := f12,
    fd_free := PySem.W.fnOf "_law_free" "_law_free" (defArgs s_free) (defBody s_free) (defScope s_free) .none kV12 dc12 pm12 an12 cd12 ct12,
    F_free := F12,
    b_free := b12,
    m_free := PySem.W.mg_of X G a12,
    f_law := fa,
    fd_law := PySem.W.fnOf "law" "law" (defArgs s_law) (defBody s_law) (defScope s_law) .none kV13 dc13 pm13 an13 cd13 ct13,
    F_law := F13,
    b_law := b13,
    m_law := PySem.W.mg_of X G a13,
    t_MOST_HANDS := tMOST_HANDS,
    co_MOST_HANDS := PySem.W.mg_of X G vMOST_HANDS,
    co_WORDS := PySem.W.mg_of X G vWORDS,
    words := fun H => .inr ⟨_, _, _, xW, rfl, rfl, by show 2 ≤ sizeLine; decide, .cons ⟨_, rfl⟩ (.cons ⟨_, rfl⟩ .nil)⟩,
    bi_bool := PySem.W.mg_none_of X G z_bool,
    bi_enumerate := PySem.W.mg_none_of X G z_enumerate,
    bi_int := PySem.W.mg_none_of X G z_int,
    bi_isinstance := PySem.W.mg_none_of X G z_isinstance,
    bi_len := PySem.W.mg_none_of X G z_len,
    bi_list := PySem.W.mg_none_of X G z_list,
    bi_range := PySem.W.mg_none_of X G z_range,
    bi_str := PySem.W.mg_none_of X G z_str,
    bi_tuple := PySem.W.mg_none_of X G z_tuple }
  exact ⟨PySem.W.fnOf "law" "law" (defArgs s_law) (defBody s_law) (defScope s_law) .none kV13 dc13 pm13 an13 cd13 ct13, fun s v => .of_eq rfl, fun base _ _ => ok_law T⟩
end SB
open PySem PySem.W PyProof.Rows in
set_option maxRecDepth 100000 in
set_option maxHeartbeats 0 in
theorem PySem.Challenge.cw_stuckbell_k04_whole_who_is_stuck_holds : PySem.Challenge.rw_stuckbell_k04_whole_who_is_stuck.Holds := by
  w_on; o_law; k_head; (case hw => w_witness2)
  k_fill
  refine L2.walk_ofK (l := PySem.Challenge.rw_stuckbell_k04_whole_who_is_stuck) (n := 63) (k := 6) (x := "_law_script") (CX := L2.CX0) (sp := SB.spL) rfl (by decide) rfl ⟨rfl, by decide, by decide⟩ (fun w h Y => PySem.W.kIn_of Y) ?F (fun _ _ a ns hl _ hS => ⟨_, rfl, a, ns, rfl, hS, hl, fun _ => rfl⟩) (fun _ _ _ _ z => z)
  case F =>
    intro w mg fa h KX G hmg
    refine' SB.all_mk KX G hmg ?a1 ?l1 ?c1 ?k1 ?a2 ?l2 ?c2 ?k2 ?a3 ?l3 ?c3 ?k3 ?a4 ?l4 ?c4 ?k4 ?a5 ?l5 ?c5 ?k5 ?a6 ?l6 ?c6 ?k6 ?a7 ?l7 ?c7 ?k7 ?a8 ?l8 ?c8 ?k8 ?a9 ?l9 ?c9 ?k9 ?a10 ?l10 ?c10 ?k10 ?a11 ?l11 ?c11 ?k11 ?a12 ?l12 ?c12 ?k12 ?a13 ?l13 ?c13 ?k13 ?vMOST_HANDS ?vWORDS ?xW ?z_bool ?z_enumerate ?z_int ?z_isinstance ?z_len ?z_list ?z_range ?z_str ?z_tuple
    (case a1 => k_is)
    (case l1 => k_is)
    (case c1 => k_is)
    (case k1 => k_is)
    (case a2 => k_is)
    (case l2 => k_is)
    (case c2 => k_is)
    (case k2 => k_is)
    (case a3 => k_is)
    (case l3 => k_is)
    (case c3 => k_is)
    (case k3 => k_is)
    (case a4 => k_is)
    (case l4 => k_is)
    (case c4 => k_is)
    (case k4 => k_is)
    (case a5 => k_is)
    (case l5 => k_is)
    (case c5 => k_is)
    (case k5 => k_is)
    (case a6 => k_is)
    (case l6 => k_is)
    (case c6 => k_is)
    (case k6 => k_is)
    (case a7 => k_is)
    (case l7 => k_is)
    (case c7 => k_is)
    (case k7 => k_is)
    (case a8 => k_is)
    (case l8 => k_is)
    (case c8 => k_is)
    (case k8 => k_is)
    (case a9 => k_is)
    (case l9 => k_is)
    (case c9 => k_is)
    (case k9 => k_is)
    (case a10 => k_is)
    (case l10 => k_is)
    (case c10 => k_is)
    (case k10 => k_is)
    (case a11 => k_is)
    (case l11 => k_is)
    (case c11 => k_is)
    (case k11 => k_is)
    (case a12 => k_is)
    (case l12 => k_is)
    (case c12 => k_is)
    (case k12 => k_is)
    (case a13 => k_is)
    (case l13 => k_is)
    (case c13 => k_is)
    (case k13 => k_is)
    (case vMOST_HANDS => k_is)
    (case vWORDS => k_is)
    (case xW => k_is)
    (case z_bool => k_is)
    (case z_enumerate => k_is)
    (case z_int => k_is)
    (case z_isinstance => k_is)
    (case z_len => k_is)
    (case z_list => k_is)
    (case z_range => k_is)
    (case z_str => k_is)
    (case z_tuple => k_is)
