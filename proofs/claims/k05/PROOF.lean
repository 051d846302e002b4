import PyProof.Rows.All
import Wide.All
import OpenK.AllK
import Wide.FinOn
import HandS.ForMost
import HandS.IsInst
import HandS.Deep
import HandS.SetFor
import HandS.Rev
import HandS.SortInts
import HandS.Evl
import HandS.Dict
import HandS.Style
import HandS.More
import HandS.List
import HandS.IsInst
import PySem.Challenge.RW_stuckbell_k05_one_hand
set_option Elab.async false
set_option linter.all false
set_option maxRecDepth 100000
set_option maxHeartbeats 4000000
/-! the steps that need no word -/
set_option hygiene false in
local macro_rules | `(tactic| walk_at "rd1") => `(tactic| first
  | (with_reducible refine SB.r_seq ?_)
  | ((with_reducible refine' SB.r_var ?k1 ?_); (case k1 => rfl))
  | (with_reducible refine SB.r_c ?_)
  | (with_reducible refine SB.r_op ?_)
  | ((with_reducible refine' SB.r_mul ?k1 ?_); (case k1 => first | exact Or.inr ⟨by decide, by decide⟩ | exact Or.inl ⟨by decide, by decide⟩ | exact Or.inr ⟨by omega, by omega⟩ | exact Or.inl ⟨by omega, by omega⟩))
  | ((with_reducible refine' SB.r_mod ?k1 ?_); (case k1 => first | decide | omega))
  | ((with_reducible refine' SB.r_div ?k1 ?_); (case k1 => first | exact ⟨by decide, by decide⟩ | exact ⟨by omega, by omega⟩))
  | (with_reducible refine SB.r_I0 ?_)
  | ((with_reducible refine SB.r_gname ?_); try dsimp only [List.set_cons_succ, List.set_cons_zero])
  | (with_reducible refine SB.r_asg ?_)
  | (with_reducible refine SB.r_cons ?_)
  | (with_reducible refine SB.r_nil ?_)
  | (with_reducible refine SB.r_call ?_)
  | (with_reducible refine SB.r_sp1 ?_)
  | (with_reducible refine SB.r_sp2 ?_)
  | (with_reducible refine SB.r_sp3 ?_)
  | (with_reducible refine SB.r_sp4 ?_)
  | (with_reducible refine SB.r_cb ?_)
  | (with_reducible refine SB.r_ifS ?_)
  | (with_reducible refine SB.r_test ?_)
  | (with_reducible refine SB.r_tB ?_)
  | (with_reducible refine SB.r_bl ?_)
  | (with_reducible refine SB.r_eqI ?_)
  | (with_reducible refine SB.r_eqS ?_)
  | (with_reducible refine SB.r_neI ?_)
  | (with_reducible refine SB.r_neS ?_)
  | (with_reducible refine SB.r_next ?_)
  | (with_reducible refine SB.r_ret ?_)
  | (with_reducible refine SB.r_drop ?_)
  | (with_reducible refine SB.r_not ?_)
  | (with_reducible refine SB.r_notV ?_)
  | (with_reducible refine SB.r_and ?_)
  | (with_reducible refine SB.r_or ?_)
  | (with_reducible refine SB.r_andV ?_)
  | (with_reducible refine SB.r_orV ?_)
  | (with_reducible refine SB.r_yes ?_)
  | (with_reducible refine SB.r_lst ?_)
  | (with_reducible refine SB.r_tup ?_)
  | (with_reducible refine SB.r_qIsN ?_)
  | (with_reducible refine SB.r_qNotN ?_)
  | (with_reducible refine SB.r_bm ?_)
  | (with_reducible refine SB.r_bm0 ?_)
  | (with_reducible refine SB.r_chain ?_)
  | (with_reducible refine SB.r_sl ?_)
  | (with_reducible refine SB.r_nopart ?_)
  | (with_reducible refine SB.r_part ?_)
  | (with_reducible refine SB.r_some ?_)
  | (with_reducible refine SB.r_gsub ?_)
  | (with_reducible refine SB.r_forR1 ?_)
  | (with_reducible refine SB.r_forR2 ?_)
  | (with_reducible refine SB.r_forL ?_)
  | (with_reducible refine SB.r_forT ?_)
  | (with_reducible refine SB.r_forE ?_)
  | (with_reducible refine SB.r_lcR1 ?_)
  | (with_reducible refine SB.r_lcL ?_)
  | (with_reducible refine SB.r_lcT ?_)
  | (with_reducible refine SB.r_lcE ?_)
  | (with_reducible refine SB.r_listRev0 ?_)
  | (with_reducible refine SB.r_retN ?_))
local macro_rules | `(tactic| walk_at "rd") => `(tactic| repeat (walk_at "rd1"))
set_option hygiene false in
local macro_rules | `(tactic| walk_at "rd1") => `(tactic| first
  | (with_reducible refine SB.r_fld ?_)
  | (with_reducible refine SB.r_sfld ?_)
  | (with_reducible refine SB.r_meth ?_)
  | (with_reducible refine SB.r_make ?_)
  | (with_reducible refine SB.r_dget ?_)
  | (with_reducible refine SB.r_dput ?_)
  | (with_reducible refine SB.r_pcons ?_)
  | (with_reducible refine SB.r_pnil ?_)
  | (with_reducible refine SB.r_sp1m ?_)
  | (with_reducible refine SB.r_sp2m ?_)
  | (with_reducible refine SB.r_sp3m ?_)
  | (with_reducible refine SB.r_sp4m ?_)
  | (with_reducible refine SB.r_eqB ?_)
  | (with_reducible refine SB.r_neB ?_))
/-! The state kit: a frozen part F of the heap H, a ledger L of the cells that may still change, and data over F. -/
namespace SB
open PySem L2

/-! ### the state -/
structure Zs (F0 H0 F H : Hp) (L : List (Addr × HO)) : Prop where
  ff : Same F0 F
  hh : Same H0 H
  fh : Same F H
  sep : ∀ a, F0 a = none → H0 a ≠ none → F a = none
  led : ∀ q ∈ L, H q.1 = some q.2 ∧ F q.1 = none ∧ H0 q.1 = none
  nd : (L.map (·.1)).Nodup

theorem same_none {H H' : Hp} (s : Same H H') {a : Addr} (h : H' a = none) : H a = none := s.free h
theorem some_ne {H : Hp} {a : Addr} {o : HO} (h : H a = some o) : H a ≠ none := by rw [h]; exact fun q => nomatch q
theorem same_some {H H' : Hp} (s : Same H H') {a : Addr} (h : H a ≠ none) : H' a ≠ none := by
  cases e : H a with
  | none => exact absurd e h
  | some o => rw [s a o e]; exact fun q => nomatch q
theorem same_new {H : Hp} {p : Addr} {o : HO} (h : H p = none) : Same H (upd H p o) := fun a u e => by
  rw [upd_ne (ne_of_none e h)]; exact e
theorem same_mut {H H' : Hp} {p : Addr} {o : HO} (s : Same H H') (h : H p = none) : Same H (upd H' p o) := fun a u e => by
  rw [upd_ne (ne_of_none e h)]; exact s a u e

section
variable {F0 H0 F H F' H' : Hp} {L L1 L2 : List (Addr × HO)} {p : Addr} {o o' : HO}
theorem Zs.start (h : Same F H) : Zs F H F H [] := ⟨Same.refl _, Same.refl _, h, fun _ a _ => a, fun _ q => (nomatch q), List.nodup_nil⟩
theorem Zs.get (Z : Zs F0 H0 F H L) {i : Nat} (h : L[i]? = some (p, o)) : H p = some o := (Z.led (p, o) (List.mem_of_getElem? h)).1
theorem Zs.getF (Z : Zs F0 H0 F H L) {i : Nat} (h : L[i]? = some (p, o)) : F p = none := (Z.led (p, o) (List.mem_of_getElem? h)).2.1
theorem Zs.get0 (Z : Zs F0 H0 F H L) {i : Nat} (h : L[i]? = some (p, o)) : H0 p = none := (Z.led (p, o) (List.mem_of_getElem? h)).2.2
theorem Zs.fix (Z : Zs F0 H0 F H L) {a : Addr} {u : HO} (h : F a = some u) : H a = some u := Z.fh a u h
theorem Zs.alloc (Z : Zs F0 H0 F H L) (h : H p = none) : Zs F0 H0 F (upd H p o) ((p, o) :: L) where
  ff := Z.ff
  hh := same_mut Z.hh (same_none Z.hh h)
  fh := same_mut Z.fh (same_none Z.fh h)
  sep := Z.sep
  led := fun q hq => by
    rcases List.mem_cons.mp hq with rfl | hq
    · exact ⟨upd_same, same_none Z.fh h, same_none Z.hh h⟩
    · obtain ⟨a, b, c⟩ := Z.led q hq
      exact ⟨by rw [upd_ne (ne_of_none a h)]; exact a, b, c⟩
  nd := by
    rw [List.map_cons, List.nodup_cons]
    refine ⟨fun hm => ?_, Z.nd⟩
    obtain ⟨q, hq, e⟩ := List.mem_map.mp hm
    obtain ⟨a, _, _⟩ := Z.led q hq
    have e' : q.1 = p := e
    rw [e', h] at a
    cases a
theorem Zs.sub (Z : Zs F0 H0 F H L) (h : List.Sublist L1 L) : Zs F0 H0 F H L1 where
  ff := Z.ff
  hh := Z.hh
  fh := Z.fh
  sep := Z.sep
  led := fun q hq => Z.led q (h.subset hq)
  nd := (h.map _).nodup Z.nd
theorem Zs.drop (Z : Zs F0 H0 F H (q :: L)) : Zs F0 H0 F H L := Z.sub (List.sublist_cons_self _ _)
theorem Zs.dropAt (Z : Zs F0 H0 F H L) (i : Nat) : Zs F0 H0 F H (L.eraseIdx i) := Z.sub (List.eraseIdx_sublist _ _)
theorem Zs.nil (Z : Zs F0 H0 F H L) : Zs F0 H0 F H [] := Z.sub (List.nil_sublist _)
/-- what was frozen since is forgotten -/
theorem Zs.back (Z : Zs F0 H0 F H L) (h : Same F0 H0) : Zs F0 H0 F0 H [] := ⟨Same.refl _, Z.hh, h.trans Z.hh, fun _ a _ => a, fun _ q => (nomatch q), List.nodup_nil⟩
/-- two places of the ledger are two addresses -/
theorem Zs.ne (Z : Zs F0 H0 F H L) {i j : Nat} {p q : Addr} {o u : HO} (hi : L[i]? = some (p, o)) (hj : L[j]? = some (q, u)) (n : i ≠ j) : p ≠ q := fun e => by
  have a : (L.map (·.1))[i]? = some p := by rw [List.getElem?_map, hi] <;> rfl
  have b : (L.map (·.1))[j]? = some p := by rw [List.getElem?_map, hj, e] <;> rfl
  exact n (nd_ix Z.nd a b)
theorem Zs.setAt (Z : Zs F0 H0 F H L) (i : Nat) (h : L[i]? = some (p, o)) : Zs F0 H0 F (upd H p o') (L.set i (p, o')) where
  ff := Z.ff
  hh := same_mut Z.hh (Z.get0 h)
  fh := same_mut Z.fh (Z.getF h)
  sep := Z.sep
  led := fun q hq => by
    obtain ⟨j, hj⟩ := List.mem_iff_getElem?.mp hq
    rw [List.getElem?_set] at hj
    by_cases e : i = j
    · rw [if_pos e] at hj
      split at hj
      · have e2 := Option.some.inj hj
        subst e2
        exact ⟨upd_same, Z.getF h, Z.get0 h⟩
      · cases hj
    · rw [if_neg e] at hj
      obtain ⟨a, b, c⟩ := Z.led q (List.mem_of_getElem? hj)
      have n : p ≠ q.1 := Z.ne (i := i) (j := j) (q := q.1) (u := q.2) h hj e
      exact ⟨by rw [upd_ne n.symm]; exact a, b, c⟩
  nd := by
    have e : (L.set i (p, o')).map (·.1) = L.map (·.1) := by
      rw [List.map_set]
      refine List.ext_getElem? fun j => ?_
      rw [List.getElem?_set]
      by_cases q : i = j
      · subst q
        rw [if_pos rfl, List.getElem?_map, h]
        split
        · rfl
        · rename_i z
          have := (List.getElem?_eq_some_iff.mp h).1
          rw [List.length_map] at z
          exact absurd this z
      · rw [if_neg q]
    rw [e]
    exact Z.nd
/-- a cell that does not change any more -/
theorem Zs.frzAt (Z : Zs F0 H0 F H L) (i : Nat) (h : L[i]? = some (p, o)) : ∃ F', Zs F0 H0 F' H (L.eraseIdx i) ∧ Same F F' ∧ F' p = some o := by
  have hi := (List.getElem?_eq_some_iff.mp h).1
  have hni : ∀ q ∈ L.eraseIdx i, q.1 ≠ p := fun q hq e => by
    obtain ⟨j, hj⟩ := List.mem_iff_getElem?.mp hq
    rw [List.getElem?_eraseIdx] at hj
    split at hj
    · rename_i lt
      exact Z.ne (i := i) (j := j) (q := q.1) (u := q.2) h hj (by omega) e.symm
    · rename_i lt
      exact Z.ne (i := i) (j := j + 1) (q := q.1) (u := q.2) h hj (by omega) e.symm
  refine ⟨upd F p o, ⟨fun a u e => ?_, Z.hh, fun a u e => ?_, fun a e n => ?_, fun q hq => ?_, ?_⟩, same_new (Z.getF h), upd_same⟩
  · exact same_new (Z.getF h) a u (Z.ff a u e)
  · by_cases q : a = p
    · subst q
      rw [upd_same] at e
      rw [← e]
      exact Z.get h
    · rw [upd_ne q] at e
      exact Z.fh a u e
  · by_cases q : a = p
    · subst q
      exact absurd (Z.get0 h) n
    · rw [upd_ne q]
      exact Z.sep a e n
  · obtain ⟨a, b, c⟩ := Z.led q (List.eraseIdx_subset hq)
    exact ⟨a, by rw [upd_ne (hni q hq)]; exact b, c⟩
  · exact ((List.eraseIdx_sublist _ _).map _).nodup Z.nd
/-- behind a call that changes nothing that stood -/
theorem Zs.call (Z : Zs F0 H0 F H L) (W : Zs F H F' H' []) : Zs F0 H0 F' H' L where
  ff := Z.ff.trans W.ff
  hh := Z.hh.trans W.hh
  fh := W.fh
  sep := fun a e n => W.sep a (Z.sep a e n) (same_some Z.hh n)
  led := fun q hq => by
    obtain ⟨a, b, c⟩ := Z.led q hq
    exact ⟨W.hh _ _ a, W.sep _ b (some_ne a), c⟩
  nd := Z.nd
theorem Zs.ext (Z : Zs F0 H0 F H L) (s : Same H H') : Zs F0 H0 F H' L :=
  Z.call ⟨Same.refl _, s, Z.fh.trans s, fun _ a _ => a, fun _ q => (nomatch q), List.nodup_nil⟩
theorem Zs.trans {F1 H1 : Hp} (Z : Zs F0 H0 F1 H1 []) (W : Zs F1 H1 F H L) : Zs F0 H0 F H L where
  ff := Z.ff.trans W.ff
  hh := Z.hh.trans W.hh
  fh := W.fh
  sep := fun a e n => W.sep a (Z.sep a e n) (same_some Z.hh n)
  led := fun q hq => by
    obtain ⟨a, b, c⟩ := W.led q hq
    exact ⟨a, b, same_none Z.hh c⟩
  nd := W.nd
end

/-! ### data -/
mutual
inductive Td (F : Hp) : V → PyData → Prop
  | non : Td F .non .none
  | bl (b : Bool) : Td F (.bl b) (.bool b)
  | int (i : Int) : Td F (.int i) (.int i)
  | str (x : Str) : Td F (.str x) (.str x)
  | lst {a : Addr} {xs : List V} {ds : List PyData} : F a = some (.lst xs) → TdA F xs ds → Td F (.ref a) (.list ds)
  | tup {a : Addr} {xs : List V} {ds : List PyData} : F a = some (.tup xs) → TdA F xs ds → Td F (.ref a) (.tuple ds)
inductive TdA (F : Hp) : List V → List PyData → Prop
  | nil : TdA F [] []
  | cons {v : V} {vs : List V} {d : PyData} {ds : List PyData} : Td F v d → TdA F vs ds → TdA F (v :: vs) (d :: ds)
end
mutual
theorem Td.mono {F F' : Hp} (s : Same F F') : ∀ (d : PyData) (v : V), Td F v d → Td F' v d
  | .none, _, h => by cases h; exact .non
  | .bool b, _, h => by cases h; exact .bl b
  | .int i, _, h => by cases h; exact .int i
  | .str x, _, h => by cases h; exact .str x
  | .list ds, _, h => by
    cases h with
    | lst hs ha => exact .lst (s _ _ hs) (TdA.mono s ds _ ha)
  | .tuple ds, _, h => by
    cases h with
    | tup hs ha => exact .tup (s _ _ hs) (TdA.mono s ds _ ha)
  | .dict _, _, h => by cases h
theorem TdA.mono {F F' : Hp} (s : Same F F') : ∀ (ds : List PyData) (vs : List V), TdA F vs ds → TdA F' vs ds
  | [], _, h => by cases h; exact .nil
  | d :: ds, _, h => by
    cases h with
    | cons h1 h2 => exact .cons (Td.mono s d _ h1) (TdA.mono s ds _ h2)
end
mutual
theorem Td.dp {K : PySem.W.Frag} {F : Hp} : ∀ (d : PyData) (v : V), Td F v d → Dp K F v d
  | .none, _, h => by cases h; exact .non
  | .bool b, _, h => by cases h; exact .bl b
  | .int i, _, h => by cases h; exact .int i
  | .str x, _, h => by cases h; exact .str x
  | .list ds, _, h => by
    cases h with
    | lst hs ha => exact .lst (SqL.of hs) (TdA.dp ds _ ha)
  | .tuple ds, _, h => by
    cases h with
    | tup hs ha => exact .tup (SqT.of hs) (TdA.dp ds _ ha)
  | .dict _, _, h => by cases h
theorem TdA.dp {K : PySem.W.Frag} {F : Hp} : ∀ (ds : List PyData) (vs : List V), TdA F vs ds → DpAll K F vs ds
  | [], _, h => by cases h; exact .nil
  | d :: ds, _, h => by
    cases h with
    | cons h1 h2 => exact .cons (Td.dp d _ h1) (TdA.dp ds _ h2)
end
section
variable {F F' H : Hp} {v : V} {vs ws : List V} {d : PyData} {ds es : List PyData}
theorem Td.up (h : Td F v d) (s : Same F F') : Td F' v d := Td.mono s d v h
theorem TdA.up (h : TdA F vs ds) (s : Same F F') : TdA F' vs ds := TdA.mono s ds vs h
theorem TdA.len : ∀ {vs : List V} {ds : List PyData}, TdA F vs ds → vs.length = ds.length
  | _, _, .nil => rfl
  | _, _, .cons _ h => by rw [List.length_cons, List.length_cons, TdA.len h]
theorem TdA.append : ∀ {vs ws : List V} {ds es : List PyData}, TdA F vs ds → TdA F ws es → TdA F (vs ++ ws) (ds ++ es)
  | _, _, _, _, .nil, h => h
  | _, _, _, _, .cons h1 h2, h => .cons h1 (TdA.append h2 h)
theorem TdA.snoc (h : TdA F vs ds) (k : Td F v d) : TdA F (vs ++ [v]) (ds ++ [d]) := h.append (.cons k .nil)
theorem TdA.get : ∀ {vs : List V} {ds : List PyData} {i : Nat} {d : PyData}, TdA F vs ds → ds[i]? = some d → ∃ v, vs[i]? = some v ∧ Td F v d
  | _, _, _, _, .nil, h => by simp at h
  | _, _, 0, _, .cons h1 _, h => by simp at h; subst h; exact ⟨_, rfl, h1⟩
  | _, _, i + 1, _, .cons _ h2, h => by
    obtain ⟨v, a, b⟩ := TdA.get (i := i) h2 (by simpa using h)
    exact ⟨v, by simpa using a, b⟩
theorem TdA.at : ∀ {vs : List V} {ds : List PyData} {i : Nat} {v : V}, TdA F vs ds → vs[i]? = some v → ∃ d, ds[i]? = some d ∧ Td F v d
  | _, _, _, _, .nil, h => by simp at h
  | _, _, 0, _, .cons h1 _, h => by simp at h; subst h; exact ⟨_, rfl, h1⟩
  | _, _, i + 1, _, .cons _ h2, h => by
    obtain ⟨v, a, b⟩ := TdA.at (i := i) h2 (by simpa using h)
    exact ⟨v, by simpa using a, b⟩
theorem TdA.set : ∀ {vs : List V} {ds : List PyData} (i : Nat), TdA F vs ds → Td F v d → TdA F (vs.set i v) (ds.set i d)
  | _, _, _, .nil, _ => .nil
  | _, _, 0, .cons _ h2, k => .cons k h2
  | _, _, i + 1, .cons h1 h2, k => .cons h1 (TdA.set i h2 k)
theorem TdA.take : ∀ {vs : List V} {ds : List PyData} (i : Nat), TdA F vs ds → TdA F (vs.take i) (ds.take i)
  | _, _, 0, _ => .nil
  | _, _, _ + 1, .nil => .nil
  | _, _, i + 1, .cons h1 h2 => .cons h1 (TdA.take i h2)
theorem TdA.drop : ∀ {vs : List V} {ds : List PyData} (i : Nat), TdA F vs ds → TdA F (vs.drop i) (ds.drop i)
  | _, _, 0, h => h
  | _, _, _ + 1, .nil => .nil
  | _, _, i + 1, .cons _ h2 => TdA.drop i h2
theorem TdA.of_map {α : Type} {f : α → V} {g : α → PyData} (h : ∀ a, Td F (f a) (g a)) : ∀ l : List α, TdA F (l.map f) (l.map g)
  | [] => .nil
  | a :: l => .cons (h a) (TdA.of_map h l)
theorem TdA.ints (l : List Int) : TdA F (l.map V.int) (l.map PyData.int) := TdA.of_map (fun a => .int a) l
theorem TdA.bools (l : List Bool) : TdA F (l.map V.bl) (l.map PyData.bool) := TdA.of_map (fun a => .bl a) l
theorem TdA.of_ints : ∀ {vs : List V} {l : List Int}, TdA F vs (l.map PyData.int) → vs = l.map V.int
  | _, [], .nil => rfl
  | _, _ :: l, .cons (.int _) h => by rw [List.map_cons, TdA.of_ints h]
theorem TdA.of_bools : ∀ {vs : List V} {l : List Bool}, TdA F vs (l.map PyData.bool) → vs = l.map V.bl
  | _, [], .nil => rfl
  | _, _ :: l, .cons (.bl _) h => by rw [List.map_cons, TdA.of_bools h]
theorem Td.ints_lst {a : Addr} {l : List Int} (h : F a = some (.lst (l.map V.int))) : Td F (.ref a) (.list (l.map PyData.int)) := .lst h (TdA.ints l)
theorem Td.inv_lst (h : Td F v (.list ds)) : ∃ a xs, v = .ref a ∧ F a = some (.lst xs) ∧ TdA F xs ds := by
  cases h with
  | lst a b => exact ⟨_, _, rfl, a, b⟩
theorem Td.inv_tup (h : Td F v (.tuple ds)) : ∃ a xs, v = .ref a ∧ F a = some (.tup xs) ∧ TdA F xs ds := by
  cases h with
  | tup a b => exact ⟨_, _, rfl, a, b⟩
theorem Td.inv_ints {l : List Int} (h : Td F v (.list (l.map PyData.int))) : ∃ a, v = .ref a ∧ F a = some (.lst (l.map V.int)) := by
  obtain ⟨a, xs, rfl, h1, h2⟩ := h.inv_lst
  rw [h2.of_ints] at h1
  exact ⟨a, rfl, h1⟩
theorem Td.inv_int {n : Int} (h : Td F v (.int n)) : v = .int n := by cases h; rfl
theorem Td.inv_bl {n : Bool} (h : Td F v (.bool n)) : v = .bl n := by cases h; rfl
theorem Td.inv_str {n : Str} (h : Td F v (.str n)) : v = .str n := by cases h; rfl
theorem Td.inv_non (h : Td F v .none) : v = .non := by cases h; rfl
end

/-! ### readings, one construct a row -/
section
variable {K : PySem.W.Frag} {σ : St} {H : Hp} {Q : VK} {D : Ends} {t u : TS} {ta tb tc : TE} {tt tu : TT} {v x y : V} {r : R2} {i j : Int} {n : Nat} {b c : Bool}
theorem r_seq (h : t { D with nx := u D } σ H) : tSeq t u D σ H := h
theorem r_next (h : D.nx σ H) : tNext D σ H := h
theorem r_ret (h : ta σ H D.rt) : tRet ta D σ H := h
theorem r_retN (h : D.rt .non H) : tRetN D σ H := h
theorem r_drop (h : ta σ H fun _ H1 => D.nx σ H1) : tDrop ta D σ H := h
theorem r_asg {g : TG} (h : ta σ H fun x H1 => g x σ H1 D.nx) : tAsg ta g D σ H := h
theorem r_gname {Q : St → Hp → Prop} (h : Q (σ.set n (some v)) H) : gName n v σ H Q := h
theorem r_ifS (h : tt σ H fun b H1 => if b = true then t D σ H1 else u D σ H1) : tIfS tt t u D σ H := h
theorem r_var (h : σ[n]? = some (some v)) (k : Q v H) : tVar n σ H Q := ⟨v, h, k⟩
theorem r_c (k : Q v H) : tC v σ H Q := k
theorem r_op (h : ta σ H fun x H1 => tb σ H1 fun y H2 => r x y H2 Q) : tOp r ta tb σ H Q := h
theorem r_I0 {g : Int → Int → V} (k : Q (g i j) H) : rI0 g (.int i) (.int j) H Q := ⟨i, j, rfl, rfl, k⟩
theorem r_I {C : Int → Int → Prop} {g : Int → Int → V} (hc : C i j) (k : Q (g i j) H) : rI C g (.int i) (.int j) H Q := ⟨i, j, rfl, rfl, hc, k⟩
theorem r_mul {g : Int → Int → V} (hc : CMul i j) (k : Q (g i j) H) : rI CMul g (.int i) (.int j) H Q := ⟨i, j, rfl, rfl, hc, k⟩
theorem r_div {g : Int → Int → V} (hc : CDiv i j) (k : Q (g i j) H) : rI CDiv g (.int i) (.int j) H Q := ⟨i, j, rfl, rfl, hc, k⟩
theorem r_mod {g : Int → Int → V} (hc : 0 < j) (k : Q (g i j) H) : rI (fun _ j => 0 < j) g (.int i) (.int j) H Q := ⟨i, j, rfl, rfl, hc, k⟩
theorem dec_vi {i j : Int} : decide (V.int i = V.int j) = decide (i = j) := by
  by_cases e : i = j
  · rw [decide_eq_true e, decide_eq_true (by rw [e])]
  · rw [decide_eq_false e, decide_eq_false (fun q => e (V.int.inj q))]
theorem dec_vs {i j : Str} : decide (V.str i = V.str j) = decide (i = j) := by
  by_cases e : i = j
  · rw [decide_eq_true e, decide_eq_true (by rw [e])]
  · rw [decide_eq_false e, decide_eq_false (fun q => e (V.str.inj q))]
theorem dec_vb {i j : Bool} : decide (V.bl i = V.bl j) = (i == j) := by
  cases i <;> cases j <;> rfl
theorem r_eqI (k : Q (.bl (decide (i = j))) H) : rEq (.int i) (.int j) H Q := ⟨rfl, by rw [dec_vi]; exact k⟩
theorem r_eqS {i j : Str} (k : Q (.bl (decide (i = j))) H) : rEq (.str i) (.str j) H Q := ⟨rfl, by rw [dec_vs]; exact k⟩
theorem r_eqB {i j : Bool} (k : Q (.bl (i == j)) H) : rEq (.bl i) (.bl j) H Q := ⟨rfl, by rw [dec_vb]; exact k⟩
theorem r_neI (k : Q (.bl (!decide (i = j))) H) : rNe (.int i) (.int j) H Q := ⟨rfl, by rw [dec_vi]; exact k⟩
theorem r_neS {i j : Str} (k : Q (.bl (!decide (i = j))) H) : rNe (.str i) (.str j) H Q := ⟨rfl, by rw [dec_vs]; exact k⟩
theorem r_neB {i j : Bool} (k : Q (.bl (!(i == j))) H) : rNe (.bl i) (.bl j) H Q := ⟨rfl, by rw [dec_vb]; exact k⟩
theorem r_bl {P : Bool → Prop} (k : P b) : ∃ k, V.bl b = V.bl k ∧ P k := ⟨b, rfl, k⟩
theorem r_test {Q : Bool → Hp → Prop} (h : ta σ H fun x H' => ∃ k, x = .bl k ∧ Q k H') : tTest ta σ H Q := h
theorem r_tB {Q : Bool → Hp → Prop} (h : ta σ H fun x H' => ∃ k, x = .bl k ∧ Q k H') : tB ta σ H Q := h
theorem r_not {Q : Bool → Hp → Prop} (h : tt σ H fun c H1 => Q (!c) H1) : tNot tt σ H Q := h
theorem r_notV (h : ta σ H fun x H1 => ∃ c, x = .bl c ∧ Q (.bl (!c)) H1) : tNotV ta σ H Q := h
theorem r_and {Q : Bool → Hp → Prop} (h : tt σ H fun c H1 => if c = true then tu σ H1 Q else Q false H1) : tAnd tt tu σ H Q := h
theorem r_or {Q : Bool → Hp → Prop} (h : tt σ H fun c H1 => if c = true then Q true H1 else tu σ H1 Q) : tOr tt tu σ H Q := h
theorem r_andV (h : ta σ H fun x H1 => ∃ c, x = .bl c ∧ if c = true then tb σ H1 Q else Q (.bl false) H1) : tAndV ta tb σ H Q := h
theorem r_orV (h : ta σ H fun x H1 => ∃ c, x = .bl c ∧ if c = true then Q (.bl true) H1 else tb σ H1 Q) : tOrV ta tb σ H Q := h
theorem r_yes {Q : Bool → Hp → Prop} (h : Q true H) : tYes σ H Q := h
theorem r_if {tA : TT} (h : tA σ H fun c H1 => if c = true then ta σ H1 Q else tb σ H1 Q) : tIf tA ta tb σ H Q := h
theorem r_nil {Q : List V → Hp → Prop} (h : Q [] H) : tNil σ H Q := h
theorem r_cons {tr : TA} {Q : List V → Hp → Prop} (h : ta σ H fun x H1 => tr σ H1 fun xs H2 => Q (x :: xs) H2) : tCons ta tr σ H Q := h
/-- a new object is laid -/
def NewO (o : HO) (H : Hp) (Q : VK) : Prop := ∀ p, H p = none → Q (.ref p) (upd H p o)
theorem r_tup {t : TA} (h : t σ H fun xs H1 => xs.length ≤ sizeLine ∧ NewO (.tup xs) H1 Q) : tTup t σ H Q := h
theorem r_lst {t : TA} (h : t σ H fun xs H1 => xs.length ≤ sizeLine ∧ NewO (.lst xs) H1 Q) : tLst t σ H Q := h
theorem r_call {sp : Sp} {dvs : List V} {E : XK} {t : TA} (h : t σ H fun vs H1 => sp (vs ++ dvs) H1 Q E) : tCall sp dvs E t σ H Q := h
theorem r_cb {r : List V → Hp → VK → Prop} {t : TA} (h : t σ H fun vs H1 => r vs H1 Q) : tCB r t σ H Q := h
theorem r_bm {T : String} {r : V → List V → Hp → VK → Prop} {t : TA} (h : ta σ H fun x H1 => tyV K T x H1 ∧ t σ H1 fun xs H2 => r x xs H2 Q) : tBM K T r ta t σ H Q := h
theorem r_bm0 {T : String} {r : V → List V → Hp → VK → Prop} (h : ta σ H fun x H1 => tyV K T x H1 ∧ r x [] H1 Q) : tBM0 K T r ta σ H Q := h
theorem r_isN (k : Q (.bl (decide (x = .non))) H) : (fun x y H Q => y = V.non ∧ Q (.bl (decide (x = .non))) H : R2) x .non H Q := ⟨rfl, k⟩
theorem sz_of {n : Nat} (h : n ≤ 100000) : n ≤ sizeLine := Nat.le_trans h (by decide)
theorem sz0 : ([] : List V).length ≤ sizeLine := Nat.zero_le _
theorem sz1 {a : V} : [a].length ≤ sizeLine := by show 1 ≤ sizeLine; decide
theorem sz2 {a b : V} : [a, b].length ≤ sizeLine := by show 2 ≤ sizeLine; decide
theorem sz3 {a b c : V} : [a, b, c].length ≤ sizeLine := by show 3 ≤ sizeLine; decide
theorem sz5 {a b c d e : V} : [a, b, c, d, e].length ≤ sizeLine := by show 5 ≤ sizeLine; decide
theorem sz_lt {n : Nat} (h : n < 100000) : n < sizeLine := Nat.lt_of_lt_of_le h (by decide)
/-- an if over a decided test -/
theorem ifd {p A B : Prop} [Decidable p] (h1 : p → A) (h2 : ¬ p → B) : if decide p = true then A else B := by
  by_cases h : p
  · rw [if_pos (decide_eq_true h)]; exact h1 h
  · rw [if_neg (by rw [decide_eq_false h]; decide)]; exact h2 h
theorem ifn {p A B : Prop} [Decidable p] (h1 : ¬ p → A) (h2 : p → B) : if (!decide p) = true then A else B := by
  by_cases h : p
  · rw [if_neg (by rw [decide_eq_true h]; decide)]; exact h2 h
  · rw [if_pos (by rw [decide_eq_false h]; rfl)]; exact h1 h
theorem ifb {A B : Prop} (h1 : b = true → A) (h2 : b = false → B) : if b = true then A else B := by
  cases b with
  | true => exact h1 rfl
  | false => exact h2 rfl
theorem ifnb {A B : Prop} (h1 : b = false → A) (h2 : b = true → B) : if (!b) = true then A else B := by
  cases b with
  | true => exact h2 rfl
  | false => exact h1 rfl
theorem ifT {A B : Prop} (h : b = true) (k : A) : if b = true then A else B := by rw [if_pos h]; exact k
theorem ifF {A B : Prop} (h : b = false) (k : B) : if b = true then A else B := by rw [if_neg (by rw [h]; decide)]; exact k
/-- items of a list, a tuple -/
theorem r_ixL {p : Addr} {xs : List V} (hs : SqL K H p xs) (ha : atI xs i = some v) (k : Q v H) : rIxL K (.ref p) (.int i) H Q := ⟨p, xs, i, v, rfl, rfl, hs, ha, k⟩
theorem r_ixT {p : Addr} {xs : List V} (hs : SqT K H p xs) (ha : atI xs i = some v) (k : Q v H) : rIxT K (.ref p) (.int i) H Q := ⟨p, xs, i, v, rfl, rfl, hs, ha, k⟩
theorem at_i {α : Type} {xs : List α} {i : Int} {v : α} (h0 : 0 ≤ i) (h : xs[i.toNat]? = some v) : atI xs i = some v := by
  obtain ⟨k, rfl⟩ := Int.eq_ofNat_of_zero_le h0
  exact atI_nat h
theorem r_inL {neg : Bool} {p : Addr} {xs : List V} (hs : SqL K H p xs) (hx : flatV x = true) (ha : xs.all flatV = true) (k : Q (.bl (if neg then !inV x xs else inV x xs)) H) : rIn K neg x (.ref p) H Q := ⟨p, xs, rfl, .inl hs, hx, ha, k⟩
theorem r_inT {neg : Bool} {p : Addr} {xs : List V} (hs : SqT K H p xs) (hx : flatV x = true) (ha : xs.all flatV = true) (k : Q (.bl (if neg then !inV x xs else inV x xs)) H) : rIn K neg x (.ref p) H Q := ⟨p, xs, rfl, .inr hs, hx, ha, k⟩
/-- data compared -/
theorem r_eqD {d e : PyData} (h1 : Td H x d) (h2 : Td H y e) (s1 : SeqAt.shaped d = true) (s2 : SeqAt.shaped e = true) (k : Q (.bl (PyData.eqv d e)) H) : rEqD K x y H Q := ⟨d, e, Td.dp d x h1, Td.dp e y h2, s1, s2, k⟩
theorem r_neD {d e : PyData} (h1 : Td H x d) (h2 : Td H y e) (s1 : SeqAt.shaped d = true) (s2 : SeqAt.shaped e = true) (k : Q (.bl (!PyData.eqv d e)) H) : rNeD K x y H Q := ⟨d, e, Td.dp d x h1, Td.dp e y h2, s1, s2, k⟩
end
section
variable {F0 H0 F H : Hp} {L : List (Addr × HO)} {Q : VK}
/-- a new object -/
theorem r_mk {o : HO} {A : Prop} (a : A) (Z : Zs F0 H0 F H L) (k : ∀ p H', Zs F0 H0 F H' ((p, o) :: L) → Q (.ref p) H') : A ∧ NewO o H Q := ⟨a, fun p hp => k p _ (Z.alloc hp)⟩
end
end SB
/-! Loops and comprehensions over the state kit; named operators. -/
namespace SB
open PySem L2

/-! ### operators by short names -/
abbrev qAdd : R2 := rI0 fun i j => .int (i + j)
abbrev qSub : R2 := rI0 fun i j => .int (i - j)
abbrev qMul : R2 := rI CMul fun i j => .int (i * j)
abbrev qDiv : R2 := rI CDiv fun i j => .int (i / j)
abbrev qMod : R2 := rI (fun _ j => 0 < j) fun i j => .int (i % j)
abbrev qLt : R2 := rI0 fun i j => .bl (decide (i < j))
abbrev qLe : R2 := rI0 fun i j => .bl (decide (i ≤ j))
abbrev qGt : R2 := rI0 fun i j => .bl (decide (j < i))
abbrev qGe : R2 := rI0 fun i j => .bl (decide (j ≤ i))
def qIsN : R2 := fun x y H Q => y = .non ∧ Q (.bl (decide (x = .non))) H
def qNotN : R2 := fun x y H Q => y = .non ∧ Q (.bl (!decide (x = .non))) H
def qLen (K : PySem.W.Frag) : List V → Hp → VK → Prop := fun xs H Q => ∃ p ys, xs = [.ref p] ∧ (SqL K H p ys ∨ SqT K H p ys) ∧ Q (.int ys.length) H
def qListOf (K : PySem.W.Frag) : List V → Hp → VK → Prop := fun xs H Q => ∃ p ys, xs = [.ref p] ∧ (SqL K H p ys ∨ SqT K H p ys) ∧ ∀ l, H l = none → Q (.ref l) (upd H l (.lst ys))
def qInt1 : List V → Hp → VK → Prop := fun xs H Q => (∃ i, xs = [.int i] ∧ Q (.int i) H) ∨ ∃ k, xs = [.bl k] ∧ Q (.int (if k then 1 else 0)) H
section
variable {X : Cx}
theorem op_isNq : OpR X (compareOp .Is) qIsN := op_isN
theorem op_notNq : OpR X (compareOp .IsNot) qNotN := op_notN
theorem call_lenq : CallR X (.builtin "len") (qLen X.K) := call_len_seq
theorem call_listq : CallR X (.type "list") (qListOf X.K) := call_list_of
theorem call_int1q : CallR X (.type "int") qInt1 := call_int1
end
section
variable {K : PySem.W.Frag} {σ : St} {H : Hp} {Q : VK} {x v : V} {p : Addr} {ys : List V} {i : Int} {b : Bool}
theorem r_qIsN (k : Q (.bl (decide (x = .non))) H) : qIsN x .non H Q := ⟨rfl, k⟩
theorem r_qNotN (k : Q (.bl (!decide (x = .non))) H) : qNotN x .non H Q := ⟨rfl, k⟩
theorem r_qIsN_t (k : Q (.bl true) H) : qIsN .non .non H Q := ⟨rfl, k⟩
theorem r_lenL (h : SqL K H p ys) (k : Q (.int (ys.length : Int)) H) : qLen K [.ref p] H Q := ⟨p, ys, rfl, .inl h, k⟩
theorem r_lenT (h : SqT K H p ys) (k : Q (.int (ys.length : Int)) H) : qLen K [.ref p] H Q := ⟨p, ys, rfl, .inr h, k⟩
theorem r_listL {F0 H0 F : Hp} {L : List (Addr × HO)} (h : SqL K H p ys) (Z : Zs F0 H0 F H L) (k : ∀ l H', Zs F0 H0 F H' ((l, .lst ys) :: L) → Q (.ref l) H') : qListOf K [.ref p] H Q := ⟨p, ys, rfl, .inl h, fun l hl => k l _ (Z.alloc hl)⟩
theorem r_intB (k : Q (.int (if b then 1 else 0)) H) : qInt1 [.bl b] H Q := .inr ⟨b, rfl, k⟩
theorem r_intI (k : Q (.int i) H) : qInt1 [.int i] H Q := .inl ⟨i, rfl, k⟩
end

/-! ### a list's methods over the ledger -/
section
variable {K : PySem.W.Frag} {F0 H0 F H : Hp} {L : List (Addr × HO)} {Q : VK} {l b : Addr} {xs zs : List V} {y : V} {i : Nat}
theorem ty_l (h : SqL K H l xs) : tyV K "list" (.ref l) H := .inl ⟨rfl, _, h⟩
theorem r_append (i : Nat) (Z : Zs F0 H0 F H L) (h : L[i]? = some (l, .lst xs)) (hz : xs.length < 100000) (k : ∀ H', Zs F0 H0 F H' (L.set i (l, .lst (xs ++ [y]))) → Q .non H') : rAppend (.ref l) [y] H Q :=
  ⟨l, xs, y, rfl, rfl, Z.get h, sz_lt hz, k _ (Z.setAt i h)⟩
theorem r_extend (i : Nat) (Z : Zs F0 H0 F H L) (h : L[i]? = some (l, .lst xs)) (hb : H b = some (.lst zs)) (hz : xs.length + zs.length ≤ 100000) (k : ∀ H', Zs F0 H0 F H' (L.set i (l, .lst (xs ++ zs))) → Q .non H') : rExtend (.ref l) [.ref b] H Q :=
  ⟨l, b, xs, zs, rfl, rfl, Z.get h, hb, sz_of hz, k _ (Z.setAt i h)⟩
theorem r_setL (i : Nat) {j : Nat} {v : V} {c : Int} {Q : Hp → Prop} (Z : Zs F0 H0 F H L) (h : L[i]? = some (l, .lst xs)) (hc : c = (j : Int)) (hj : j < xs.length) (k : ∀ H', Zs F0 H0 F H' (L.set i (l, .lst (xs.set j v))) → Q H') : rSetL (.ref l) (.int c) v H Q := by
  subst hc
  refine ⟨l, xs, (j : Int), j, rfl, rfl, Z.get h, ?_, k _ (Z.setAt i h)⟩
  unfold ixN
  rw [if_pos (by omega), if_pos (by omega)]
  simp
theorem r_cat {a : Addr} (Z : Zs F0 H0 F H L) (ha : H a = some (.lst xs)) (hb : H b = some (.lst zs)) (hz : xs.length + zs.length ≤ 100000) (k : ∀ p H', Zs F0 H0 F H' ((p, .lst (xs ++ zs)) :: L) → Q (.ref p) H') : rCat (.ref a) (.ref b) H Q :=
  ⟨a, b, xs, zs, rfl, rfl, ha, hb, sz_of hz, fun p hp => k p _ (Z.alloc hp)⟩
theorem r_rep {a : Addr} {n : Int} (Z : Zs F0 H0 F H L) (ha : H a = some (.lst xs)) (h0 : 0 ≤ n) (h1 : n ≤ 100000) (hz : xs.length * n.toNat ≤ 100000) (k : ∀ p H', Zs F0 H0 F H' ((p, .lst (List.flatten (List.replicate n.toNat xs))) :: L) → Q (.ref p) H') : rRep (.ref a) (.int n) H Q := by
  refine ⟨a, n, xs, rfl, rfl, ha, by omega, by omega, sz_of hz, fun p hp => ?_⟩
  exact k p _ (Z.alloc hp)
theorem r_slL {a : Addr} {lo hi : Option Int} (Z : Zs F0 H0 F H L) (ha : SqL K H a xs) (k : ∀ p H', Zs F0 H0 F H' ((p, .lst (cutV xs lo hi)) :: L) → Q (.ref p) H') : rSlL K (.ref a) lo hi H Q := ⟨a, xs, rfl, ha, fun p hp => k p _ (Z.alloc hp)⟩
end

/-! ### for loops -/
/-- what a for over range(n) asks behind its argument -/
def FR1 (j : Nat) (tb : TS) (D : Ends) (σ : St) (vs : List V) (H1 : Hp) : Prop := ∃ n : Int, vs = [.int n] ∧ -(2 ^ 62) ≤ n ∧ n < 2 ^ 62 ∧ ∃ W : Nat → Nat → St → Hp → Prop, (∃ m, W 0 m σ H1) ∧ ∀ i m σ H, W i m σ H →
  ((Itr 0 n.toNat).stop i H ∧ D.nx σ H) ∨ ((Itr 0 n.toNat).go i H ∧ ∃ N : St → Hp → Prop, (∀ σ' H', N σ' H' → ∃ m', m' < m ∧ W (i + 1) m' σ' H') ∧ ∀ x H', (Itr 0 n.toNat).yld i H x H' → gName j x σ H' fun σ2 H2 => tb { D with nx := N, ct := N, bk := D.nx } σ2 H2)
def FR2 (j : Nat) (tb : TS) (D : Ends) (σ : St) (vs : List V) (H1 : Hp) : Prop := ∃ lo n : Int, vs = [.int lo, .int n] ∧ (-(2 ^ 62) ≤ lo ∧ lo < 2 ^ 62 ∧ -(2 ^ 62) ≤ n ∧ n < 2 ^ 62) ∧ ∃ W : Nat → Nat → St → Hp → Prop, (∃ m, W 0 m σ H1) ∧ ∀ i m σ H, W i m σ H →
  ((Itr lo (n - lo).toNat).stop i H ∧ D.nx σ H) ∨ ((Itr lo (n - lo).toNat).go i H ∧ ∃ N : St → Hp → Prop, (∀ σ' H', N σ' H' → ∃ m', m' < m ∧ W (i + 1) m' σ' H') ∧ ∀ x H', (Itr lo (n - lo).toNat).yld i H x H' → gName j x σ H' fun σ2 H2 => tb { D with nx := N, ct := N, bk := D.nx } σ2 H2)
/-- .. a for over a list -/
def FRL (K : PySem.W.Frag) (g : TG) (tb : TS) (D : Ends) (σ : St) (x : V) (H1 : Hp) : Prop := ∃ a, x = .ref a ∧ (∃ xs, SqL K H1 a xs) ∧ ∃ W : Nat → Nat → St → Hp → Prop, (∃ m, W 0 m σ H1) ∧ ∀ i m σ H, W i m σ H →
  ((Itl K a).stop i H ∧ D.nx σ H) ∨ ((Itl K a).go i H ∧ ∃ N : St → Hp → Prop, (∀ σ' H', N σ' H' → ∃ m', m' < m ∧ W (i + 1) m' σ' H') ∧ ∀ x H', (Itl K a).yld i H x H' → g x σ H' fun σ2 H2 => tb { D with nx := N, ct := N, bk := D.nx } σ2 H2)
/-- .. a for over a tuple -/
def FRT (K : PySem.W.Frag) (g : TG) (tb : TS) (D : Ends) (σ : St) (x : V) (H1 : Hp) : Prop := ∃ a, x = .ref a ∧ (∃ xs, SqT K H1 a xs) ∧ ∃ W : Nat → Nat → St → Hp → Prop, (∃ m, W 0 m σ H1) ∧ ∀ i m σ H, W i m σ H →
  ((Itt K a).stop i H ∧ D.nx σ H) ∨ ((Itt K a).go i H ∧ ∃ N : St → Hp → Prop, (∀ σ' H', N σ' H' → ∃ m', m' < m ∧ W (i + 1) m' σ' H') ∧ ∀ x H', (Itt K a).yld i H x H' → g x σ H' fun σ2 H2 => tb { D with nx := N, ct := N, bk := D.nx } σ2 H2)
/-- .. a for over enumerate(list) -/
def FRE (K : PySem.W.Frag) (g : TG) (tb : TS) (D : Ends) (σ : St) (vs : List V) (H1 : Hp) : Prop := ∃ a xs, vs = [.ref a] ∧ SqL K H1 a xs ∧ ∃ W : Nat → Nat → St → Hp → Prop, (∃ m, W 0 m σ H1) ∧ ∀ i m σ H, W i m σ H →
  ((Ite K a).stop i H ∧ D.nx σ H) ∨ ((Ite K a).go i H ∧ ∃ N : St → Hp → Prop, (∀ σ' H', N σ' H' → ∃ m', m' < m ∧ W (i + 1) m' σ' H') ∧ ∀ x H', (Ite K a).yld i H x H' → g x σ H' fun σ2 H2 => tb { D with nx := N, ct := N, bk := D.nx } σ2 H2)
section
variable {K : PySem.W.Frag} {σ : St} {H : Hp} {Q : VK} {D : Ends} {ta : TA} {te : TE} {tb : TS} {j : Nat} {g : TG} {a : Addr} {xs : List V}
theorem r_forR1 (h : ta σ H (FR1 j tb D σ)) : tFor (iRng1 ta) (gName j) tb D σ H := h
theorem r_forR2 (h : ta σ H (FR2 j tb D σ)) : tFor (iRng2 ta) (gName j) tb D σ H := h
theorem r_forL (h : te σ H (FRL K g tb D σ)) : tFor (iList K te) g tb D σ H := h
theorem r_forT (h : te σ H (FRT K g tb D σ)) : tFor (iTup K te) g tb D σ H := h
theorem r_forE (h : ta σ H (FRE K g tb D σ)) : tFor (iEnum K ta) g tb D σ H := h
theorem r_rng1 {n : Int} (hn : 0 ≤ n ∧ n ≤ 100000) (Pv : Nat → St → Hp → Prop) (h0 : Pv 0 σ H)
    (hs : ∀ (i : Nat) σ' H', (i : Int) < n → Pv i σ' H' → tb { D with nx := Pv (i + 1), ct := Pv (i + 1), bk := D.nx } (σ'.set j (some (.int (i : Int)))) H')
    (hd : ∀ σ' H', Pv n.toNat σ' H' → D.nx σ' H') : FR1 j tb D σ [.int n] H :=
  ⟨n, rfl, by omega, by omega, for_range (lo := 0) (n := n.toNat) Pv h0 (fun i σ' H' hi p => by
    have e0 : (0 : Int) + (i : Int) = (i : Int) := Int.zero_add _
    show tb { D with nx := Pv (i + 1), ct := Pv (i + 1), bk := D.nx } (σ'.set j (some (.int ((0 : Int) + (i : Int))))) H'
    rw [e0]
    exact hs i σ' H' (by omega) p) hd⟩
theorem r_rng2 {lo n : Int} (hn : 0 ≤ lo ∧ lo ≤ 100000 ∧ -100000 ≤ n ∧ n ≤ 100000) (Pv : Nat → St → Hp → Prop) (h0 : Pv 0 σ H)
    (hs : ∀ (i : Nat) σ' H', lo + (i : Int) < n → Pv i σ' H' → tb { D with nx := Pv (i + 1), ct := Pv (i + 1), bk := D.nx } (σ'.set j (some (.int (lo + (i : Int))))) H')
    (hd : ∀ σ' H', Pv (n - lo).toNat σ' H' → D.nx σ' H') : FR2 j tb D σ [.int lo, .int n] H :=
  ⟨lo, n, rfl, ⟨by omega, by omega, by omega, by omega⟩, for_range (lo := lo) (n := (n - lo).toNat) Pv h0 (fun i σ' H' hi p => hs i σ' H' (by omega) p) hd⟩
theorem r_lstI (hx : SqL K H a xs) (Pv : Nat → St → Hp → Prop) (h0 : Pv 0 σ H) (hl : ∀ i σ' H', i ≤ xs.length → Pv i σ' H' → SqL K H' a xs)
    (hs : ∀ i x σ' H', xs[i]? = some x → Pv i σ' H' → g x σ' H' fun σ2 H2 => tb { D with nx := Pv (i + 1), ct := Pv (i + 1), bk := D.nx } σ2 H2)
    (hd : ∀ σ' H', Pv xs.length σ' H' → D.nx σ' H') : FRL K g tb D σ (.ref a) H := ⟨a, rfl, ⟨xs, hx⟩, for_list Pv h0 hl hs hd⟩
theorem r_tupI (hx : SqT K H a xs) (Pv : Nat → St → Hp → Prop) (h0 : Pv 0 σ H) (hl : ∀ i σ' H', i ≤ xs.length → Pv i σ' H' → SqT K H' a xs)
    (hs : ∀ i x σ' H', xs[i]? = some x → Pv i σ' H' → g x σ' H' fun σ2 H2 => tb { D with nx := Pv (i + 1), ct := Pv (i + 1), bk := D.nx } σ2 H2)
    (hd : ∀ σ' H', Pv xs.length σ' H' → D.nx σ' H') : FRT K g tb D σ (.ref a) H := ⟨a, rfl, ⟨xs, hx⟩, for_tup Pv h0 hl hs hd⟩
theorem r_enumI (hx : SqL K H a xs) (Pv : Nat → St → Hp → Prop) (h0 : Pv 0 σ H) (hl : ∀ i σ' H', i ≤ xs.length → Pv i σ' H' → SqL K H' a xs)
    (hs : ∀ i x T σ' H', xs[i]? = some x → Pv i σ' H' → H' T = none → g (.ref T) σ' (upd H' T (.tup [.int (i : Nat), x])) fun σ2 H2 => tb { D with nx := Pv (i + 1), ct := Pv (i + 1), bk := D.nx } σ2 H2)
    (hd : ∀ σ' H', Pv xs.length σ' H' → D.nx σ' H') : FRE K g tb D σ [.ref a] H := by
  refine ⟨a, xs, rfl, hx, fun i m σ H => m = xs.length - i ∧ i ≤ xs.length ∧ Pv i σ H, ⟨xs.length, by simp, Nat.zero_le _, h0⟩, ?_⟩
  rintro i m σ H ⟨rfl, hi, p⟩
  have q := hl i σ H hi p
  by_cases hlt : i < xs.length
  · refine .inr ⟨⟨xs, xs[i], q, by simp [hlt]⟩, Pv (i + 1), fun σ' H' p' => ⟨xs.length - (i + 1), by omega, rfl, hlt, p'⟩, fun x H' y => ?_⟩
    obtain ⟨T, x', rfl, hT, rfl, hx'⟩ := y
    exact hs i x' T σ H (hx' xs q) p hT
  · have e : i = xs.length := by omega
    subst e
    exact .inl ⟨⟨xs, q, Nat.le_refl _⟩, hd σ H p⟩
/-- a while: W falls -/
theorem r_while {tc : TT} (W : Nat → St → Hp → Prop) (m0 : Nat) (h0 : W m0 σ H)
    (hs : ∀ m σ' H', W m σ' H' → tc σ' H' fun b H1 => if b = true then ∃ N : St → Hp → Prop, (∀ σ2 H2, N σ2 H2 → ∃ m', m' < m ∧ W m' σ2 H2) ∧ tb { D with nx := N, ct := N, bk := D.nx } σ' H1 else D.nx σ' H1) : tWhile tc tb D σ H := ⟨W, ⟨m0, h0⟩, hs⟩
end

/-! ### comprehensions -/
def LR1 (j : Nat) (tt : TT) (te : TE) (vs : List Nat) (σ : St) (Q : VK) (us : List V) (H1 : Hp) : Prop := ∃ n : Int, us = [.int n] ∧ -(2 ^ 62) ≤ n ∧ n < 2 ^ 62 ∧ ∀ D, H1 D = none → ∃ W : Nat → Nat → Hp → Prop, (∃ m, W 0 m (upd H1 D (.lst []))) ∧ ∀ i m H, W i m H →
  ((Itr 0 n.toNat).stop i H ∧ Q (.ref D) H) ∨ ((Itr 0 n.toNat).go i H ∧ ∃ Nx : Hp → Prop, (∀ H', Nx H' → ∃ m', m' < m ∧ W (i + 1) m' H') ∧ ∀ x H', (Itr 0 n.toNat).yld i H x H' → gName j x (wipe σ vs) H' fun σ2 H2 => wipe σ2 vs = wipe σ vs ∧ tt σ2 H2 fun b H3 =>
    if b = true then te σ2 H3 fun y H4 => ∃ acc, H4 D = some (.lst acc) ∧ acc.length < sizeLine ∧ Nx (upd H4 D (.lst (acc ++ [y]))) else Nx H3)
def LRL (K : PySem.W.Frag) (g : TG) (tt : TT) (te : TE) (vs : List Nat) (σ : St) (Q : VK) (x : V) (H1 : Hp) : Prop := ∃ a, x = .ref a ∧ (∃ xs, SqL K H1 a xs) ∧ ∀ D, H1 D = none → ∃ W : Nat → Nat → Hp → Prop, (∃ m, W 0 m (upd H1 D (.lst []))) ∧ ∀ i m H, W i m H →
  ((Itl K a).stop i H ∧ Q (.ref D) H) ∨ ((Itl K a).go i H ∧ ∃ Nx : Hp → Prop, (∀ H', Nx H' → ∃ m', m' < m ∧ W (i + 1) m' H') ∧ ∀ x H', (Itl K a).yld i H x H' → g x (wipe σ vs) H' fun σ2 H2 => wipe σ2 vs = wipe σ vs ∧ tt σ2 H2 fun b H3 =>
    if b = true then te σ2 H3 fun y H4 => ∃ acc, H4 D = some (.lst acc) ∧ acc.length < sizeLine ∧ Nx (upd H4 D (.lst (acc ++ [y]))) else Nx H3)
def LRT (K : PySem.W.Frag) (g : TG) (tt : TT) (te : TE) (vs : List Nat) (σ : St) (Q : VK) (x : V) (H1 : Hp) : Prop := ∃ a, x = .ref a ∧ (∃ xs, SqT K H1 a xs) ∧ ∀ D, H1 D = none → ∃ W : Nat → Nat → Hp → Prop, (∃ m, W 0 m (upd H1 D (.lst []))) ∧ ∀ i m H, W i m H →
  ((Itt K a).stop i H ∧ Q (.ref D) H) ∨ ((Itt K a).go i H ∧ ∃ Nx : Hp → Prop, (∀ H', Nx H' → ∃ m', m' < m ∧ W (i + 1) m' H') ∧ ∀ x H', (Itt K a).yld i H x H' → g x (wipe σ vs) H' fun σ2 H2 => wipe σ2 vs = wipe σ vs ∧ tt σ2 H2 fun b H3 =>
    if b = true then te σ2 H3 fun y H4 => ∃ acc, H4 D = some (.lst acc) ∧ acc.length < sizeLine ∧ Nx (upd H4 D (.lst (acc ++ [y]))) else Nx H3)
def LRE (K : PySem.W.Frag) (g : TG) (tt : TT) (te : TE) (vs : List Nat) (σ : St) (Q : VK) (us : List V) (H1 : Hp) : Prop := ∃ a xs, us = [.ref a] ∧ SqL K H1 a xs ∧ ∀ D, H1 D = none → ∃ W : Nat → Nat → Hp → Prop, (∃ m, W 0 m (upd H1 D (.lst []))) ∧ ∀ i m H, W i m H →
  ((Ite K a).stop i H ∧ Q (.ref D) H) ∨ ((Ite K a).go i H ∧ ∃ Nx : Hp → Prop, (∀ H', Nx H' → ∃ m', m' < m ∧ W (i + 1) m' H') ∧ ∀ x H', (Ite K a).yld i H x H' → g x (wipe σ vs) H' fun σ2 H2 => wipe σ2 vs = wipe σ vs ∧ tt σ2 H2 fun b H3 =>
    if b = true then te σ2 H3 fun y H4 => ∃ acc, H4 D = some (.lst acc) ∧ acc.length < sizeLine ∧ Nx (upd H4 D (.lst (acc ++ [y]))) else Nx H3)
/-- what stands between the turns: the list made so far at Dl, the frozen part F', the ledger L -/
def CW (F0 H0 F : Hp) (L : List (Addr × HO)) (P : Nat → List V → Hp → Prop) (Dl : Addr) (i : Nat) (H' : Hp) : Prop := ∃ F' acc, Zs F0 H0 F' H' ((Dl, .lst acc) :: L) ∧ Same F F' ∧ acc.length ≤ i ∧ P i acc F'
/-- what the element's value is wanted for -/
def CY (F0 H0 F : Hp) (L : List (Addr × HO)) (P : Nat → List V → Hp → Prop) (Dl : Addr) (i : Nat) (y : V) (H4 : Hp) : Prop := ∃ acc, H4 Dl = some (.lst acc) ∧ acc.length < sizeLine ∧ CW F0 H0 F L P Dl (i + 1) (upd H4 Dl (.lst (acc ++ [y])))
section
variable {K : PySem.W.Frag} {σ : St} {F0 H0 F H : Hp} {L : List (Addr × HO)} {Q : VK} {ta : TA} {te tl : TE} {tt : TT} {vs : List Nat} {j : Nat} {g : TG} {a : Addr} {xs : List V} {P : Nat → List V → Hp → Prop}
theorem r_lcR1 (h : ta σ H (LR1 j tt te vs σ Q)) : tLc (iRng1 ta) (gName j) tt te vs σ H Q := h
theorem r_lcL (h : tl σ H (LRL K g tt te vs σ Q)) : tLc (iList K tl) g tt te vs σ H Q := h
theorem r_lcT (h : tl σ H (LRT K g tt te vs σ Q)) : tLc (iTup K tl) g tt te vs σ H Q := h
theorem r_lcE (h : ta σ H (LRE K g tt te vs σ Q)) : tLc (iEnum K ta) g tt te vs σ H Q := h
theorem cy {Dl : Addr} {i : Nat} {y : V} {F4 H4 : Hp} {acc : List V} (Z : Zs F0 H0 F4 H4 ((Dl, .lst acc) :: L)) (s : Same F F4) (hl : acc.length ≤ i) (hi : i < 100000) (p : P (i + 1) (acc ++ [y]) F4) : CY F0 H0 F L P Dl i y H4 :=
  ⟨acc, Z.get (i := 0) rfl, sz_lt (by omega), F4, acc ++ [y], Z.setAt 0 rfl, s, by rw [List.length_append, List.length_singleton]; omega, p⟩
theorem cn {Dl : Addr} {i : Nat} {F4 H4 : Hp} {acc : List V} (Z : Zs F0 H0 F4 H4 ((Dl, .lst acc) :: L)) (s : Same F F4) (hl : acc.length ≤ i) (p : P (i + 1) acc F4) : CW F0 H0 F L P Dl (i + 1) H4 := ⟨F4, acc, Z, s, by omega, p⟩
theorem lc_rng {n : Int} (hn : 0 ≤ n ∧ n ≤ 100000) (Z : Zs F0 H0 F H L) (P : Nat → List V → Hp → Prop) (hw : ∀ x, wipe ((wipe σ vs).set j (some x)) vs = wipe σ vs) (h0 : P 0 [] F)
    (hs : ∀ (i : Nat) Dl F' H' acc, (i : Int) < n → Zs F0 H0 F' H' ((Dl, .lst acc) :: L) → Same F F' → acc.length ≤ i → P i acc F' →
      tt ((wipe σ vs).set j (some (.int (i : Int)))) H' fun b H3 => if b = true then te ((wipe σ vs).set j (some (.int (i : Int)))) H3 (CY F0 H0 F L P Dl i) else CW F0 H0 F L P Dl (i + 1) H3)
    (hd : ∀ Dl F' H' acc, Zs F0 H0 F' H' ((Dl, .lst acc) :: L) → Same F F' → P n.toNat acc F' → Q (.ref Dl) H') : LR1 j tt te vs σ Q [.int n] H :=
  ⟨n, rfl, by omega, by omega, fun Dl hD => lc_range (lo := 0) (n := n.toNat) (CW F0 H0 F L P Dl) ⟨F, [], Z.alloc hD, Same.refl _, Nat.le_refl _, h0⟩ (fun i H' hi p => by
    obtain ⟨F', acc, Z', s', hl, p'⟩ := p
    have e0 : (0 : Int) + (i : Int) = (i : Int) := Int.zero_add _
    show wipe ((wipe σ vs).set j (some (.int ((0 : Int) + (i : Int))))) vs = wipe σ vs ∧ tt ((wipe σ vs).set j (some (.int ((0 : Int) + (i : Int))))) H' fun b H3 => if b = true then te ((wipe σ vs).set j (some (.int ((0 : Int) + (i : Int))))) H3 (CY F0 H0 F L P Dl i) else CW F0 H0 F L P Dl (i + 1) H3
    rw [e0]
    exact ⟨hw _, hs i Dl F' H' acc (by omega) Z' s' hl p'⟩) (fun H' p => by
    obtain ⟨F', acc, Z', s', hl, p'⟩ := p
    exact hd Dl F' H' acc Z' s' p')⟩
theorem lc_lst (hx : SqL K H a xs) (Z : Zs F0 H0 F H L) (P : Nat → List V → Hp → Prop) (h0 : P 0 [] F) (hsrc : ∀ F' H', Zs F0 H0 F' H' L → Same F F' → SqL K H' a xs)
    (hs : ∀ (i : Nat) x Dl F' H' acc, xs[i]? = some x → Zs F0 H0 F' H' ((Dl, .lst acc) :: L) → Same F F' → acc.length ≤ i → P i acc F' →
      g x (wipe σ vs) H' fun σ2 H2 => wipe σ2 vs = wipe σ vs ∧ tt σ2 H2 fun b H3 => if b = true then te σ2 H3 (CY F0 H0 F L P Dl i) else CW F0 H0 F L P Dl (i + 1) H3)
    (hd : ∀ Dl F' H' acc, Zs F0 H0 F' H' ((Dl, .lst acc) :: L) → Same F F' → P xs.length acc F' → Q (.ref Dl) H') : LRL K g tt te vs σ Q (.ref a) H :=
  ⟨a, rfl, ⟨xs, hx⟩, fun Dl hD => lc_list (xs := xs) (CW F0 H0 F L P Dl) ⟨F, [], Z.alloc hD, Same.refl _, Nat.le_refl _, h0⟩ (fun i H' hi p => by
    obtain ⟨F', acc, Z', s', hl, p'⟩ := p
    exact hsrc F' H' Z'.drop s') (fun i x H' hi p => by
    obtain ⟨F', acc, Z', s', hl, p'⟩ := p
    exact hs i x Dl F' H' acc hi Z' s' hl p') (fun H' p => by
    obtain ⟨F', acc, Z', s', hl, p'⟩ := p
    exact hd Dl F' H' acc Z' s' p')⟩
theorem lc_tpl (hx : SqT K H a xs) (Z : Zs F0 H0 F H L) (P : Nat → List V → Hp → Prop) (h0 : P 0 [] F) (hsrc : ∀ F' H', Zs F0 H0 F' H' L → Same F F' → SqT K H' a xs)
    (hs : ∀ (i : Nat) x Dl F' H' acc, xs[i]? = some x → Zs F0 H0 F' H' ((Dl, .lst acc) :: L) → Same F F' → acc.length ≤ i → P i acc F' →
      g x (wipe σ vs) H' fun σ2 H2 => wipe σ2 vs = wipe σ vs ∧ tt σ2 H2 fun b H3 => if b = true then te σ2 H3 (CY F0 H0 F L P Dl i) else CW F0 H0 F L P Dl (i + 1) H3)
    (hd : ∀ Dl F' H' acc, Zs F0 H0 F' H' ((Dl, .lst acc) :: L) → Same F F' → P xs.length acc F' → Q (.ref Dl) H') : LRT K g tt te vs σ Q (.ref a) H :=
  ⟨a, rfl, ⟨xs, hx⟩, fun Dl hD => lc_tup (xs := xs) (CW F0 H0 F L P Dl) ⟨F, [], Z.alloc hD, Same.refl _, Nat.le_refl _, h0⟩ (fun i H' hi p => by
    obtain ⟨F', acc, Z', s', hl, p'⟩ := p
    exact hsrc F' H' Z'.drop s') (fun i x H' hi p => by
    obtain ⟨F', acc, Z', s', hl, p'⟩ := p
    exact hs i x Dl F' H' acc hi Z' s' hl p') (fun H' p => by
    obtain ⟨F', acc, Z', s', hl, p'⟩ := p
    exact hd Dl F' H' acc Z' s' p')⟩
theorem lc_enm (hx : SqL K H a xs) (Z : Zs F0 H0 F H L) (P : Nat → List V → Hp → Prop) (h0 : P 0 [] F) (hsrc : ∀ F' H', Zs F0 H0 F' H' L → Same F F' → SqL K H' a xs)
    (hs : ∀ (i : Nat) x T Dl F' H' acc, xs[i]? = some x → Zs F0 H0 F' H' ((T, .tup [.int (i : Nat), x]) :: (Dl, .lst acc) :: L) → Same F F' → acc.length ≤ i → P i acc F' →
      g (.ref T) (wipe σ vs) H' fun σ2 H2 => wipe σ2 vs = wipe σ vs ∧ tt σ2 H2 fun b H3 => if b = true then te σ2 H3 (CY F0 H0 F L P Dl i) else CW F0 H0 F L P Dl (i + 1) H3)
    (hd : ∀ Dl F' H' acc, Zs F0 H0 F' H' ((Dl, .lst acc) :: L) → Same F F' → P xs.length acc F' → Q (.ref Dl) H') : LRE K g tt te vs σ Q [.ref a] H := by
  refine ⟨a, xs, rfl, hx, fun Dl hD => ⟨fun i m H => m = xs.length - i ∧ i ≤ xs.length ∧ CW F0 H0 F L P Dl i H, ⟨xs.length, rfl, Nat.zero_le _, F, [], Z.alloc hD, Same.refl _, Nat.le_refl _, h0⟩, ?_⟩⟩
  rintro i m H' ⟨rfl, hi, p⟩
  obtain ⟨F', acc, Z', s', hl, p'⟩ := p
  have q := hsrc F' H' Z'.drop s'
  by_cases hlt : i < xs.length
  · refine .inr ⟨⟨xs, xs[i], q, by simp [hlt]⟩, CW F0 H0 F L P Dl (i + 1), fun H'' p'' => ⟨xs.length - (i + 1), by omega, rfl, hlt, p''⟩, fun x H'' y => ?_⟩
    obtain ⟨T, x', rfl, hT, rfl, hx'⟩ := y
    exact hs i x' T Dl F' _ acc (hx' xs q) (Z'.alloc hT) s' hl p'
  · have e : i = xs.length := by omega
    subst e
    exact .inl ⟨⟨xs, q, Nat.le_refl _⟩, hd Dl F' H' acc Z' s' p'⟩
end
end SB
/-! Promises by the number of arguments; more readings; a result that is data. -/
namespace SB
open PySem L2
def sp1 (f : V → Hp → VK → XK → Prop) : Sp := fun vs H Q E => ∃ a, vs = [a] ∧ f a H Q E
def sp2 (f : V → V → Hp → VK → XK → Prop) : Sp := fun vs H Q E => ∃ a b, vs = [a, b] ∧ f a b H Q E
def sp3 (f : V → V → V → Hp → VK → XK → Prop) : Sp := fun vs H Q E => ∃ a b c, vs = [a, b, c] ∧ f a b c H Q E
def sp4 (f : V → V → V → V → Hp → VK → XK → Prop) : Sp := fun vs H Q E => ∃ a b c d, vs = [a, b, c, d] ∧ f a b c d H Q E
def sp5 (f : V → V → V → V → V → Hp → VK → XK → Prop) : Sp := fun vs H Q E => ∃ a b c d e, vs = [a, b, c, d, e] ∧ f a b c d e H Q E
def sp6 (f : V → V → V → V → V → V → Hp → VK → XK → Prop) : Sp := fun vs H Q E => ∃ a b c d e g, vs = [a, b, c, d, e, g] ∧ f a b c d e g H Q E
section
variable {K : PySem.W.Frag} {σ : St} {H : Hp} {Q : VK} {D : Ends} {ta tb tc : TE} {v x y a b c d : V} {E : XK}
theorem r_sp1 {f : V → Hp → VK → XK → Prop} (h : f a H Q E) : sp1 f ([a] ++ []) H Q E := ⟨a, rfl, h⟩
theorem r_sp2 {f : V → V → Hp → VK → XK → Prop} (h : f a b H Q E) : sp2 f ([a, b] ++ []) H Q E := ⟨a, b, rfl, h⟩
theorem r_sp3 {f : V → V → V → Hp → VK → XK → Prop} (h : f a b c H Q E) : sp3 f ([a, b, c] ++ []) H Q E := ⟨a, b, c, rfl, h⟩
theorem r_sp4 {f : V → V → V → V → Hp → VK → XK → Prop} (h : f a b c d H Q E) : sp4 f ([a, b, c, d] ++ []) H Q E := ⟨a, b, c, d, rfl, h⟩
theorem r_sp5 {f : V → V → V → V → V → Hp → VK → XK → Prop} {e : V} (h : f a b c d e H Q E) : sp5 f ([a, b, c, d, e] ++ []) H Q E := ⟨a, b, c, d, e, rfl, h⟩
theorem r_sp6 {f : V → V → V → V → V → V → Hp → VK → XK → Prop} {e g : V} (h : f a b c d e g H Q E) : sp6 f ([a, b, c, d, e, g] ++ []) H Q E := ⟨a, b, c, d, e, g, rfl, h⟩
theorem r_sp1m {f : V → Hp → VK → XK → Prop} (h : f a H Q E) : sp1 f (a :: ([] ++ [])) H Q E := ⟨a, rfl, h⟩
theorem r_sp2m {f : V → V → Hp → VK → XK → Prop} (h : f a b H Q E) : sp2 f (a :: ([b] ++ [])) H Q E := ⟨a, b, rfl, h⟩
theorem r_sp3m {f : V → V → V → Hp → VK → XK → Prop} (h : f a b c H Q E) : sp3 f (a :: ([b, c] ++ [])) H Q E := ⟨a, b, c, rfl, h⟩
theorem r_sp4m {f : V → V → V → V → Hp → VK → XK → Prop} (h : f a b c d H Q E) : sp4 f (a :: ([b, c, d] ++ [])) H Q E := ⟨a, b, c, d, rfl, h⟩
theorem r_cut {t u : TS} (Mid : St → Hp → Prop) (h : t { D with nx := Mid } σ H) (k : ∀ σ' H', Mid σ' H' → u D σ' H') : Evl.tCut t u D σ H := ⟨Mid, h, k⟩
theorem r_chain {r r' : R2} (h : ta σ H fun x H1 => tb σ H1 fun y H2 => r x y H2 fun z H3 => ∃ k, z = .bl k ∧ (if k = true then tc σ H3 fun w' H4 => r' y w' H4 Q else Q (.bl false) H3)) : tChain r r' ta tb tc σ H Q := h
theorem r_sl {r : V → Option Int → Option Int → Hp → VK → Prop} {tl th : TO} (h : ta σ H fun x H1 => tl σ H1 fun l H2 => th σ H2 fun u H3 => r x l u H3 Q) : tSl r ta tl th σ H Q := h
theorem r_nopart {Q : Option Int → Hp → Prop} (h : Q none H) : tNoPart σ H Q := h
theorem r_part {Q : Option Int → Hp → Prop} (h : ta σ H fun x H1 => ∃ i, x = .int i ∧ Q (some i) H1) : tPart ta σ H Q := h
theorem r_some {n : Int} {P : Int → Prop} (k : P n) : ∃ i, V.int n = V.int i ∧ P i := ⟨n, rfl, k⟩
theorem r_gsub {t : TSet} {Q : St → Hp → Prop} (h : ta σ H fun o H1 => tb σ H1 fun i H2 => t o i v H2 fun H3 => Q σ H3) : gSub ta tb t v σ H Q := h
end
/-- a def's value that is data: it lies in a frozen part F' that begins as F -/
def Ret (F H : Hp) (Q : VK) (d : PyData) : Prop := ∀ F' H' v, Zs F H F' H' [] → Td F' v d → Q v H'

/-! ### data compared -/
theorem eqv_refl {d : PyData} (h : SeqAt.shaped d = true) : PyData.eqv d d = true := SeqAt.eqv_refl d (SeqAt.canLay_of_shaped h)
theorem shaped_of {d : PyData} (h1 : d.canLay0 = true) (h2 : d.depth ≤ 64) : SeqAt.shaped d = true := by
  show (d.canLay0 && decide (d.depth ≤ 64)) = true
  rw [h1, decide_eq_true h2] <;> rfl
theorem lay_map {α : Type} {f : α → PyData} (h : ∀ a, (f a).canLay0 = true) : ∀ l : List α, PyData.canLayAll0 (l.map f) = true
  | [] => rfl
  | a :: l => by
    show ((f a).canLay0 && PyData.canLayAll0 (l.map f)) = true
    rw [h a, lay_map h l] <;> rfl
theorem dep_map {α : Type} {f : α → PyData} {n : Nat} (h : ∀ a, (f a).depth ≤ n) : ∀ l : List α, PyData.depthAll (l.map f) ≤ n
  | [] => Nat.zero_le _
  | a :: l => by
    show max (f a).depth (PyData.depthAll (l.map f)) ≤ n
    have h1 := h a
    have h2 := dep_map h l
    omega
theorem shaped_map {α : Type} {f : α → PyData} {n : Nat} (hn : n ≤ 60) (h : ∀ a, (f a).canLay0 = true) (h2 : ∀ a, (f a).depth ≤ n) (l : List α) : SeqAt.shaped (.list (l.map f)) = true :=
  shaped_of (lay_map h l) (by have := dep_map h2 l; show PyData.depthAll (l.map f) + 1 ≤ 64; omega)
theorem shaped_ints (l : List Int) : SeqAt.shaped (.list (l.map PyData.int)) = true := shaped_map (n := 0) (by decide) (fun _ => rfl) (fun _ => Nat.le_refl _) l
theorem eqvAll_ints : ∀ l m : List Int, PyData.eqvAll (l.map PyData.int) (m.map PyData.int) = decide (l = m)
  | [], [] => rfl
  | [], _ :: _ => rfl
  | _ :: _, [] => rfl
  | a :: l, b :: m => by
    show ((a == b) && PyData.eqvAll (l.map PyData.int) (m.map PyData.int)) = _
    rw [eqvAll_ints l m]
    by_cases h : a = b
    · subst h
      by_cases h2 : l = m
      · subst h2; simp
      · rw [decide_eq_false h2, decide_eq_false (fun q => h2 (List.cons.inj q).2), Bool.and_false]
    · rw [decide_eq_false (fun q => h (List.cons.inj q).1), beq_eq_false_iff_ne.mpr h, Bool.false_and]
theorem eqv_ints (l m : List Int) : PyData.eqv (.list (l.map PyData.int)) (.list (m.map PyData.int)) = decide (l = m) := eqvAll_ints l m
theorem inV_int {x : Int} : ∀ l : List Int, inV (.int x) (l.map V.int) = decide (x ∈ l)
  | [] => rfl
  | a :: l => by
    have ih := inV_int (x := x) l
    unfold inV at ih ⊢
    rw [List.map_cons, List.any_cons, ih]
    show ((a == x) || decide (x ∈ l)) = _
    by_cases h : a = x
    · subst h; simp
    · rw [beq_eq_false_iff_ne.mpr h, Bool.false_or]
      by_cases h2 : x ∈ l
      · rw [decide_eq_true h2, decide_eq_true (List.mem_cons_of_mem _ h2)]
      · rw [decide_eq_false h2, decide_eq_false (fun q => by rcases List.mem_cons.mp q with e | e; exact h e.symm; exact h2 e)]
theorem flat_ints (l : List Int) : (l.map V.int).all flatV = true := by
  rw [List.all_eq_true]
  intro v hv
  obtain ⟨a, _, rfl⟩ := List.mem_map.mp hv
  rfl
theorem get_ints {l : List Int} {i : Nat} (h : i < l.length) : (l.map V.int)[i]? = some (.int l[i]) := by
  rw [List.getElem?_map, List.getElem?_eq_getElem h] <;> rfl
theorem of_get_ints {l : List Int} {i : Nat} {x : V} (h : (l.map V.int)[i]? = some x) : ∃ n, l[i]? = some n ∧ x = .int n := by
  rw [List.getElem?_map] at h
  cases e : l[i]? with
  | none => rw [e] at h; cases h
  | some n => rw [e] at h; exact ⟨n, rfl, (Option.some.inj h).symm⟩
theorem take_snoc {α : Type} {l : List α} {i : Nat} {a : α} (h : l[i]? = some a) : l.take (i + 1) = l.take i ++ [a] := by
  rw [List.take_add_one, h] <;> rfl

/-! ### addresses that the top has laid -/
structure Ad where
  words : Addr
  cHand : Addr
  cNet : Addr
  cBellError : Addr
  cBadWaits : Addr
  cNoHand : Addr
  cNoLetter : Addr

/-! ### the script and its cells -/
def cellAt (ns : List Int) (k : Int) : Int := ns.getD k.toNat 0
theorem cellAt_lt {ns : List Int} {k : Int} (h0 : 0 ≤ k) (h : k < ns.length) : (ns.map V.int)[k.toNat]? = some (.int (cellAt ns k)) := by
  have hl : k.toNat < ns.length := by omega
  rw [get_ints hl]
  unfold cellAt
  rw [List.getD_eq_getElem?_getD, List.getElem?_eq_getElem hl] <;> rfl
theorem cellAt_ge {ns : List Int} {k : Int} (h : ¬ k < ns.length) : cellAt ns k = 0 := by
  unfold cellAt
  rw [List.getD_eq_getElem?_getD, List.getElem?_eq_none (by omega)] <;> rfl

/-! ### waits -/
/-- a wait: none, or whether it is for any, and whom it is for -/
abbrev Wt := Option (Bool × List Int)
def wd (b : Bool) : Str := if b then "any" else "all"
theorem wd_t : wd true = "any" := rfl
theorem wd_f : wd false = "all" := rfl
theorem wd_any (b : Bool) : decide (wd b = ("any" : Str)) = b := by cases b <;> decide +kernel
theorem wd_all (b : Bool) : decide (wd b = ("all" : Str)) = !b := by cases b <;> decide +kernel
def dW : Wt → PyData
  | none => .none
  | some (b, os) => .tuple [.str (wd b), .list (os.map PyData.int)]
def dWs (ws : List Wt) : PyData := .list (ws.map dW)
def okW (n : Nat) : Wt → Prop
  | none => True
  | some (_, os) => os ≠ [] ∧ os.Nodup ∧ ∀ o ∈ os, 0 ≤ o ∧ o < n
structure OkWs (ws : List Wt) : Prop where
  pos : 1 ≤ ws.length
  most : ws.length ≤ 40
  all : ∀ w ∈ ws, okW ws.length w
theorem dW_lay : ∀ w : Wt, (dW w).canLay0 = true
  | none => rfl
  | some (b, os) => by
    show (PyData.canLay0 (.str (wd b)) && (PyData.canLayAll0 (os.map PyData.int) && true)) = true
    rw [lay_map (fun _ => rfl) os]
    cases b <;> decide +kernel
theorem dW_dep : ∀ w : Wt, (dW w).depth ≤ 2
  | none => Nat.zero_le _
  | some (b, os) => by
    have h : PyData.depthAll (os.map PyData.int) ≤ 0 := dep_map (f := PyData.int) (n := 0) (fun _ => Nat.le_refl 0) os
    show max 0 (max (PyData.depthAll (os.map PyData.int) + 1) 0) + 1 ≤ 2
    omega
theorem dWs_shaped (ws : List Wt) : SeqAt.shaped (dWs ws) = true := shaped_map (n := 2) (by decide) dW_lay dW_dep ws
section
variable {F : Hp} {v : V} {ws : List Wt} {b : Bool} {os : List Int}
theorem Td.inv_ws (h : Td F v (dWs ws)) : ∃ a xs, v = .ref a ∧ F a = some (.lst xs) ∧ TdA F xs (ws.map dW) ∧ xs.length = ws.length := by
  obtain ⟨a, xs, rfl, h1, h2⟩ := Td.inv_lst h
  exact ⟨a, xs, rfl, h1, h2, by rw [h2.len, List.length_map]⟩
theorem Td.inv_w (h : Td F v (dW (some (b, os)))) : ∃ a l, v = .ref a ∧ F a = some (.tup [.str (wd b), .ref l]) ∧ F l = some (.lst (os.map V.int)) := by
  obtain ⟨a, xs, rfl, h1, h2⟩ := Td.inv_tup h
  cases h2 with
  | cons k1 k2 =>
    cases k2 with
    | cons k3 k4 =>
      cases k4
      cases k1
      obtain ⟨l, rfl, k5⟩ := Td.inv_ints k3
      exact ⟨a, l, rfl, h1, k5⟩
theorem Td.mk_w {a l : Addr} (h1 : F a = some (.tup [.str (wd b), .ref l])) (h2 : F l = some (.lst (os.map V.int))) : Td F (.ref a) (dW (some (b, os))) := .tup h1 (.cons (.str _) (.cons (.lst h2 (TdA.ints os)) .nil))
theorem TdA.ws_at {xs : List V} {i : Nat} {x : V} (h : TdA F xs (ws.map dW)) (hi : xs[i]? = some x) : ∃ w, ws[i]? = some w ∧ Td F x (dW w) := by
  obtain ⟨d, h1, h2⟩ := TdA.at h hi
  rw [List.getElem?_map] at h1
  cases e : ws[i]? with
  | none => rw [e] at h1; cases h1
  | some w => rw [e] at h1; cases h1; exact ⟨w, rfl, h2⟩
theorem TdA.ws_get {xs : List V} {i : Nat} {w : Wt} (h : TdA F xs (ws.map dW)) (hi : ws[i]? = some w) : ∃ x, xs[i]? = some x ∧ Td F x (dW w) :=
  TdA.get h (by rw [List.getElem?_map, hi] <;> rfl)
theorem dW_ne_none : dW (some (b, os)) ≠ .none := fun q => nomatch q
theorem Td.w_non {w : Wt} (h : Td F .non (dW w)) : w = none := by
  cases w with
  | none => rfl
  | some p => obtain ⟨b, os⟩ := p; cases h
theorem Td.w_ref {w : Wt} {a : Addr} (h : Td F (.ref a) (dW w)) : ∃ b os, w = some (b, os) := by
  cases w with
  | none => cases h
  | some p => exact ⟨p.1, p.2, rfl⟩
end
end SB
/-! Slices, tuple targets, subdata. -/
namespace SB
open PySem L2
theorem sIx_nat (n d i : Nat) : HT.sIx n d (some (i : Int)) = min i n := by
  unfold HT.sIx
  simp only []
  split <;> omega
theorem cut_take (xs : List V) (i : Nat) : cutV xs none (some (i : Int)) = xs.take i := by
  unfold cutV
  rw [sIx_nat]
  show (xs.drop 0).take (min i xs.length - 0) = _
  rw [List.drop_zero, Nat.sub_zero]
  by_cases h : i ≤ xs.length
  · rw [Nat.min_eq_left h]
  · rw [Nat.min_eq_right (by omega), List.take_of_length_le (Nat.le_refl _), List.take_of_length_le (by omega)]
theorem cut_drop (xs : List V) (i : Nat) : cutV xs (some (i : Int)) none = xs.drop i := by
  unfold cutV
  rw [sIx_nat]
  show (xs.drop (min i xs.length)).take (xs.length - min i xs.length) = _
  rw [List.take_of_length_le (by rw [List.length_drop]; omega)]
  by_cases h : i ≤ xs.length
  · rw [Nat.min_eq_left h]
  · rw [Nat.min_eq_right (by omega), List.drop_eq_nil_of_le (Nat.le_refl _), List.drop_eq_nil_of_le (by omega)]
theorem cut_range (xs : List V) (i j : Nat) : cutV xs (some (i : Int)) (some (j : Int)) = (xs.drop i).take (j - i) := by
  unfold cutV
  rw [sIx_nat, sIx_nat]
  by_cases h : i ≤ xs.length
  · rw [Nat.min_eq_left h]
    by_cases h2 : j ≤ xs.length
    · rw [Nat.min_eq_left h2]
    · rw [Nat.min_eq_right (by omega), List.take_of_length_le (by rw [List.length_drop]; omega), List.take_of_length_le (by rw [List.length_drop]; omega)]
  · rw [Nat.min_eq_right (Nat.le_of_not_le h), List.drop_eq_nil_of_le (Nat.le_refl _), List.drop_eq_nil_of_le (by omega), List.take_nil, List.take_nil]
section
variable {K : PySem.W.Frag} {σ : St} {H : Hp} {i j k : Nat} {v w u : V} {Q : St → Hp → Prop} {p : Addr}
theorem r_gt2 (h : SqT K H p [v, w]) (q : Q ((σ.set i (some v)).set j (some w)) H) : gTup K 2 (gCons (gName i) (gCons (gName j) gNil)) (.ref p) σ H Q :=
  ⟨p, _, rfl, h, rfl, _, _, rfl, _, _, rfl, rfl, q⟩
theorem r_gt3 (h : SqT K H p [v, w, u]) (q : Q (((σ.set i (some v)).set j (some w)).set k (some u)) H) : gTup K 3 (gCons (gName i) (gCons (gName j) (gCons (gName k) gNil))) (.ref p) σ H Q :=
  ⟨p, _, rfl, h, rfl, _, _, rfl, _, _, rfl, _, _, rfl, rfl, q⟩
end
theorem shaped_in {d : PyData} : ∀ {ds : List PyData}, PyData.canLayAll0 ds = true → d ∈ ds → d.canLay0 = true ∧ d.depth ≤ PyData.depthAll ds
  | x :: xs, h, m => by
    have h' : (x.canLay0 && PyData.canLayAll0 xs) = true := h
    rw [Bool.and_eq_true] at h'
    have e : PyData.depthAll (x :: xs) = max x.depth (PyData.depthAll xs) := rfl
    rcases List.mem_cons.mp m with rfl | m
    · exact ⟨h'.1, by omega⟩
    · obtain ⟨a, b⟩ := shaped_in h'.2 m
      exact ⟨a, by omega⟩
theorem shaped_l {d : PyData} {ds : List PyData} (h : SeqAt.shaped (.list ds) = true) (m : d ∈ ds) : SeqAt.shaped d = true := by
  obtain ⟨a, b⟩ := shaped_in (show PyData.canLayAll0 ds = true from SeqAt.canLay_of_shaped h) m
  have c : PyData.depthAll ds + 1 ≤ 64 := SeqAt.depth_of_shaped h
  exact shaped_of a (by omega)
theorem shaped_t {d : PyData} {ds : List PyData} (h : SeqAt.shaped (.tuple ds) = true) (m : d ∈ ds) : SeqAt.shaped d = true := by
  obtain ⟨a, b⟩ := shaped_in (show PyData.canLayAll0 ds = true from SeqAt.canLay_of_shaped h) m
  have c : PyData.depthAll ds + 1 ≤ 64 := SeqAt.depth_of_shaped h
  exact shaped_of a (by omega)
theorem dec_non {v : V} : decide (v = .non) = (match v with | .non => true | _ => false) := by
  cases v <;> first | rfl | exact decide_eq_false (fun q => nomatch q)
theorem Td.non_iff {F : Hp} {v : V} {d : PyData} (h : Td F v d) : v = .non ↔ d = .none := by
  cases h <;> constructor <;> intro q <;> first | rfl | exact (nomatch q)
theorem eqv_nil (ds : List PyData) : PyData.eqv (.list ds) (.list []) = ds.isEmpty := by
  cases ds <;> rfl
end SB
namespace SB
open PySem L2
theorem shaped_map1 (w : Wt) : SeqAt.shaped (dW w) = true := shaped_of (dW_lay w) (by have := dW_dep w; omega)
theorem nodup_nat : ∀ (n : Nat) (l : List Nat), l.Nodup → (∀ x ∈ l, x < n) → l.length ≤ n
  | 0, l, _, h => by
    cases l with
    | nil => exact Nat.le_refl _
    | cons a l => exact absurd (h a List.mem_cons_self) (Nat.not_lt_zero _)
  | n + 1, l, nd, h => by
    have nd2 : (l.erase n).Nodup := nd.erase n
    have h2 : ∀ x ∈ l.erase n, x < n := fun x hx => by
      have := (nd.mem_erase_iff).mp hx
      have := h x this.2
      omega
    have ih := nodup_nat n (l.erase n) nd2 h2
    by_cases m : n ∈ l
    · have := List.length_erase_of_mem m
      omega
    · rw [List.erase_of_not_mem m] at ih
      omega
theorem nodup_bound {n : Nat} {os : List Int} (nd : os.Nodup) (h : ∀ o ∈ os, 0 ≤ o ∧ o < (n : Int)) : os.length ≤ n := by
  have h2 : (os.map Int.toNat).Nodup := by
    rw [List.nodup_iff_pairwise_ne, List.pairwise_map]
    refine List.Pairwise.imp_of_mem (fun {a b} ha hb hne => ?_) (List.nodup_iff_pairwise_ne.mp nd)
    have := h a ha
    have := h b hb
    omega
  have h4 := nodup_nat n _ h2 (fun x hx => by
    obtain ⟨o, ho, rfl⟩ := List.mem_map.mp hx
    have := h o ho
    omega)
  rw [List.length_map] at h4
  exact h4
end SB
/-! A result that is a list of one's own; lists of truths. -/
namespace SB
open PySem L2
/-- a def's value is a new list that nobody else has -/
def RetL (H : Hp) (Q : VK) (xs : List V) : Prop := ∀ H' p, Zs H H H H' [(p, .lst xs)] → Q (.ref p) H'
section
variable {F0 H0 F H F' H' : Hp} {L L2 : List (Addr × HO)}
theorem Zs.callL (Z : Zs F0 H0 F H L) (W : Zs H H H H' L2) : Zs F0 H0 F H' (L2 ++ L) where
  ff := Z.ff
  hh := Z.hh.trans W.hh
  fh := Z.fh.trans W.hh
  sep := Z.sep
  led := fun q hq => by
    rcases List.mem_append.mp hq with hq | hq
    · obtain ⟨a, b, c⟩ := W.led q hq
      exact ⟨a, same_none Z.fh c, same_none Z.hh c⟩
    · obtain ⟨a, b, c⟩ := Z.led q hq
      exact ⟨W.hh _ _ a, b, c⟩
  nd := by
    rw [List.map_append, List.nodup_append]
    refine ⟨W.nd, Z.nd, fun a ha b hb e => ?_⟩
    subst e
    obtain ⟨q, hq, rfl⟩ := List.mem_map.mp ha
    obtain ⟨r, hr, e⟩ := List.mem_map.mp hb
    have h1 := (W.led q hq).2.2
    have h2 := (Z.led r hr).1
    have e' : r.1 = q.1 := e
    rw [e', h1] at h2
    cases h2
/-- a result's new cells over a frozen part that begins as H -/
theorem Zs.up (Z : Zs F0 H0 F H L) (h : Same F0 H0) : Zs H0 H0 H0 H L where
  ff := Same.refl _
  hh := Z.hh
  fh := Z.hh
  sep := fun _ a _ => a
  led := fun q hq => by
    obtain ⟨a, b, c⟩ := Z.led q hq
    exact ⟨a, c, c⟩
  nd := Z.nd
end
theorem flat_bools (l : List Bool) : (l.map V.bl).all flatV = true := by
  rw [List.all_eq_true]
  intro v hv
  obtain ⟨a, _, rfl⟩ := List.mem_map.mp hv
  rfl
theorem get_bools {l : List Bool} {i : Nat} (h : i < l.length) : (l.map V.bl)[i]? = some (.bl l[i]) := by
  rw [List.getElem?_map, List.getElem?_eq_getElem h] <;> rfl
theorem get_boolD {l : List Bool} {i : Nat} (h : i < l.length) : (l.map V.bl)[i]? = some (.bl (l.getD i false)) := by
  rw [get_bools h, List.getD_eq_getElem?_getD, List.getElem?_eq_getElem h] <;> rfl
theorem Td.inv_bools {F : Hp} {v : V} {l : List Bool} (h : Td F v (.list (l.map PyData.bool))) : ∃ a, v = .ref a ∧ F a = some (.lst (l.map V.bl)) := by
  obtain ⟨a, xs, rfl, h1, h2⟩ := h.inv_lst
  rw [h2.of_bools] at h1
  exact ⟨a, rfl, h1⟩
theorem Td.bools_lst {F : Hp} {a : Addr} {l : List Bool} (h : F a = some (.lst (l.map V.bl))) : Td F (.ref a) (.list (l.map PyData.bool)) := .lst h (TdA.bools l)
theorem shaped_bools (l : List Bool) : SeqAt.shaped (.list (l.map PyData.bool)) = true := shaped_map (n := 0) (by decide) (fun _ => rfl) (fun _ => Nat.le_refl _) l
theorem rep_flat {α : Type} (a : α) : ∀ n : Nat, List.flatten (List.replicate n [a]) = List.replicate n a
  | 0 => rfl
  | n + 1 => by rw [List.replicate_succ, List.flatten_cons, rep_flat a n, List.replicate_succ] <;> rfl
end SB
namespace SB
open PySem L2
/-- a smaller frozen part -/
theorem Zs.weak {F0 H0 F F1 H : Hp} {L : List (Addr × HO)} (Z : Zs F0 H0 F H L) (h0 : Same F0 F1) (h : Same F1 F) : Zs F0 H0 F1 H L where
  ff := h0
  hh := Z.hh
  fh := h.trans Z.fh
  sep := fun a e n => same_none h (Z.sep a e n)
  led := fun q hq => by
    obtain ⟨a, b, c⟩ := Z.led q hq
    exact ⟨a, same_none h b, c⟩
  nd := Z.nd
end SB
namespace SB
open PySem L2
/-- what every law promises -/
def pr_law (K : PySem.W.Frag) : V → Hp → VK → XK → Prop := fun a H Q _ => ∃ (p : Addr) (ns : List Int), a = .ref p ∧ SqL K H p (ns.map V.int) ∧ ns.length ≤ 63 ∧ ∀ H', Q (.bl true) H'
abbrev spL (K : PySem.W.Frag) : Sp := sp1 (pr_law K)
abbrev sp_law (K : PySem.W.Frag) (A : Ad) : Sp := spL K
end SB
namespace SB
open PySem L2
/-- [x for x in xs] -/
theorem lc_copy {K : PySem.W.Frag} {σ : St} {F0 H0 F H : Hp} {L : List (Addr × HO)} {Q : VK} {j : Nat} {a : Addr} {xs : List V} (hx : SqL K H a xs) (hz : xs.length ≤ 50000) (Z : Zs F0 H0 F H L)
    (hsrc : ∀ F' H', Zs F0 H0 F' H' L → Same F F' → SqL K H' a xs) (hw : ∀ x, wipe ((wipe σ [j]).set j (some x)) [j] = wipe σ [j]) (hj : ∀ x, ((wipe σ [j]).set j (some x))[j]? = some (some x))
    (k : ∀ Dl H', Zs F0 H0 F H' ((Dl, .lst xs) :: L) → Q (.ref Dl) H') : LRL K (gName j) tYes (tVar j) [j] σ Q (.ref a) H := by
  refine lc_lst hx Z (fun i acc F' => acc = xs.take i) rfl hsrc ?_ ?_
  · intro i x Dl F' H' acc hi Z' s hacc e
    subst e
    refine ⟨hw x, ?_⟩
    refine r_yes (ifT rfl ?_)
    refine ⟨x, hj x, ?_⟩
    have := (List.getElem?_eq_some_iff.mp hi).1
    exact cy Z' s hacc (by omega) (take_snoc hi).symm
  · intro Dl F' H' acc Z' s e
    rw [List.take_length] at e
    subst e
    exact k Dl H' (Z'.weak Z.ff s)
end SB
/-! Attributes, methods, makings, dicts: readings over the state kit. -/
namespace SB
open PySem L2
/-! ### attributes -/
def FldQ (K : PySem.W.Frag) (f : Str) (Q : VK) : VK := fun x H1 => ∃ a C dx fs v, x = .ref a ∧ H1 a = some (.ins C dx fs) ∧ Cls K C ∧ NoAttr K C f ∧ fs.lookup f = some v ∧ Q v H1
def SFldQ (K : PySem.W.Frag) (f : Str) (y : V) (P : St → Hp → Prop) (σ : St) : VK := fun x H2 => ∃ a C dx fs, x = .ref a ∧ H2 a = some (.ins C dx fs) ∧ Cls K C ∧ NoAttr K C f ∧ fs.length < 1000 ∧ P σ (upd H2 a (.ins C dx (putF f y fs)))
def MethQ (C : Addr) (m : Str) (sp : Sp) (dvs : List V) (E : XK) (t : TA) (σ : St) (Q : VK) : VK := fun x H1 => ∃ a dx fs, x = .ref a ∧ H1 a = some (.ins C dx fs) ∧ fs.lookup m = none ∧ t σ H1 fun vs H2 => sp (x :: (vs ++ dvs)) H2 Q E
def MkQ (Q : VK) (x : Addr) : VK := fun v H2 => v = .non ∧ Q (.ref x) H2
def MakeQ (C : Addr) (sp : Sp) (dvs : List V) (E : XK) (Q : VK) (vs : List V) (H1 : Hp) : Prop := ∀ x dx, H1 x = none → H1 dx = none → dx ≠ x → sp (.ref x :: (vs ++ dvs)) (upd (upd H1 dx (.own x)) x (.ins C dx [])) (MkQ Q x) E
section
variable {K : PySem.W.Frag} {σ : St} {H : Hp} {Q : VK} {D : Ends} {ta tv : TE} {t : TA} {f m : Str} {C dx a : Addr} {fs : List (Str × V)} {v y : V} {P : St → Hp → Prop} {sp : Sp} {dvs : List V} {E : XK}
theorem r_fld (h : ta σ H (FldQ K f Q)) : tFld K ta f σ H Q := h
theorem r_fldQ (c : Cls K C) (n : NoAttr K C f) (e : H a = some (.ins C dx fs)) (l : fs.lookup f = some v) (k : Q v H) : FldQ K f Q (.ref a) H := ⟨a, C, dx, fs, v, rfl, e, c, n, l, k⟩
theorem r_sfld (h : tv σ H fun y H1 => ta σ H1 (SFldQ K f y D.nx σ)) : sFld K ta tv f D σ H := h
theorem r_sfldQ {F0 H0 F : Hp} {L : List (Addr × HO)} (c : Cls K C) (n : NoAttr K C f) (i : Nat) (Z : Zs F0 H0 F H L) (e : L[i]? = some (a, .ins C dx fs)) (hl : fs.length < 1000) (k : ∀ H', Zs F0 H0 F H' (L.set i (a, .ins C dx (putF f y fs))) → P σ H') : SFldQ K f y P σ (.ref a) H :=
  ⟨a, C, dx, fs, rfl, Z.get e, c, n, hl, k _ (Z.setAt i e)⟩
theorem r_meth (h : ta σ H (MethQ C m sp dvs E t σ Q)) : tMeth C m sp dvs E ta t σ H Q := h
theorem r_methQ (e : H a = some (.ins C dx fs)) (l : fs.lookup m = none) (h : t σ H fun vs H2 => sp (.ref a :: (vs ++ dvs)) H2 Q E) : MethQ C m sp dvs E t σ Q (.ref a) H := ⟨a, dx, fs, rfl, e, l, h⟩
theorem r_make (h : t σ H (MakeQ C sp dvs E Q)) : tMake C sp dvs E t σ H Q := h
theorem r_makeQ {F0 H0 F : Hp} {L : List (Addr × HO)} {vs : List V} (Z : Zs F0 H0 F H L) (k : ∀ x dx H', Zs F0 H0 F H' ((x, .ins C dx []) :: L) → sp (.ref x :: (vs ++ dvs)) H' (MkQ Q x) E) : MakeQ C sp dvs E Q vs H := by
  intro x dx hx hd ne
  have Z1 := Z.alloc (o := .own x) hd
  have Z2 := Z1.alloc (p := x) (o := .ins C dx []) (by rw [upd_ne ne.symm]; exact hx)
  exact k x dx _ (Z2.dropAt 1)
end
theorem Zs.perm {F0 H0 F H : Hp} {L L' : List (Addr × HO)} (Z : Zs F0 H0 F H L) (h : L.Perm L') : Zs F0 H0 F H L' := ⟨Z.ff, Z.hh, Z.fh, Z.sep, fun q hq => Z.led q (h.mem_iff.mpr hq), (h.map _).nodup Z.nd⟩
/-! ### dicts -/
section
variable {K : PySem.W.Frag} {σ : St} {H : Hp} {Q : VK} {D : Ends} {td ty tv te : TE} {a : Addr} {kvs : List (Key × V)} {x y v : V} {k : Key} {P : St → Hp → Prop}
def DGQ (Q : VK) (x : V) : VK := fun y H2 => ∃ a v, x = .ref a ∧ DGet H2 a y (some v) ∧ Q v H2
def DPQ (v : V) (P : St → Hp → Prop) (σ : St) (x : V) : VK := fun y H3 => ∃ a H4, x = .ref a ∧ DPut H3 a y v H4 ∧ P σ H4
theorem r_dget (h : td σ H fun x H1 => ty σ H1 (DGQ Q x)) : tDGet td ty σ H Q := h
theorem r_dgetQ {k : Str} (e : H a = some (.dK kvs)) (l : valV kvs (.inr k) = some v) (q : Q v H) : DGQ Q (.ref a) (.str k) H := ⟨a, v, rfl, by rw [← l]; exact DGet.k (k := .inr k) e, q⟩
theorem r_dput (h : tv σ H fun v H1 => td σ H1 fun x H2 => ty σ H2 (DPQ v D.nx σ x)) : sDPut td ty tv D σ H := h
theorem r_dputQ {F0 H0 F : Hp} {L : List (Addr × HO)} {k : Str} (i : Nat) (Z : Zs F0 H0 F H L) (e : L[i]? = some (a, .dK kvs)) (hl : kvs.length < 100000) (q : ∀ H', Zs F0 H0 F H' (L.set i (a, .dK (putK kvs (.inr k) v))) → P σ H') : DPQ v P σ (.ref a) (.str k) H :=
  ⟨a, _, rfl, DPut.k (k := .inr k) (Z.get e) (sz_lt hl), q _ (Z.setAt i e)⟩
/-- a display -/
def DispQ (Q : VK) (p : Addr) : List (V × V) → Hp → Prop := fun ps H2 => H2 p = some (.dK []) ∧ ∃ kvs : List (Key × V), ps = kvs.map (fun kv => (kV kv.1, kv.2)) ∧ kvs.length ≤ 15 ∧ Q (.ref p) (upd H2 p (.dK (mergeK [] kvs)))
def DispN (trs : List (TE × TE)) (σ : St) (Q : VK) (H : Hp) : Prop := ∀ p, H p = none → tPairs trs σ (upd H p (.dK [])) (DispQ Q p)
theorem r_disp {trs : List (TE × TE)} {F0 H0 F : Hp} {L : List (Addr × HO)} (Z : Zs F0 H0 F H L) (k : ∀ p H', Zs F0 H0 F H' ((p, .dK []) :: L) → tPairs trs σ H' (DispQ Q p)) : tDisp trs σ H Q := fun p hp => k p _ (Z.alloc hp)
theorem r_pnil {R : List (V × V) → Hp → Prop} (h : R [] H) : tPairs [] σ H R := h
theorem r_pcons {tr : List (TE × TE)} {R : List (V × V) → Hp → Prop} (h : td σ H fun x H1 => ty σ H1 fun y H2 => tPairs tr σ H2 fun ps H3 => R ((x, y) :: ps) H3) : tPairs ((td, ty) :: tr) σ H R := h
theorem r_dispQ {p : Addr} {F0 H0 F : Hp} {L : List (Addr × HO)} {ps : List (V × V)} (i : Nat) (kvs : List (Key × V)) (Z : Zs F0 H0 F H L) (e : L[i]? = some (p, .dK [])) (hp : ps = kvs.map (fun kv => (kV kv.1, kv.2))) (hl : kvs.length ≤ 15)
    (k : ∀ H', Zs F0 H0 F H' (L.set i (p, .dK (mergeK [] kvs))) → Q (.ref p) H') : DispQ Q p ps H := ⟨Z.get e, kvs, hp, hl, k _ (Z.setAt i e)⟩
end
/-! ### letters -/
/-- a letter: its word, who sent it, whom it is for -/
abbrev Lt := Str × Int × Int
def dLt (l : Lt) : PyData := .tuple [.str l.1, .int l.2.1, .int l.2.2]
def dLts (ls : List Lt) : List PyData := ls.map dLt
theorem Td.inv_lt {F : Hp} {v : V} {l : Lt} (h : Td F v (dLt l)) : ∃ a, v = .ref a ∧ F a = some (.tup [.str l.1, .int l.2.1, .int l.2.2]) := by
  obtain ⟨a, xs, rfl, h1, h2⟩ := Td.inv_tup h
  cases h2 with
  | cons k1 k2 =>
    cases k2 with
    | cons k3 k4 =>
      cases k4 with
      | cons k5 k6 =>
        cases k6
        cases k1
        cases k3
        cases k5
        exact ⟨a, rfl, h1⟩
theorem Td.mk_lt {F : Hp} {a : Addr} {l : Lt} (h : F a = some (.tup [.str l.1, .int l.2.1, .int l.2.2])) : Td F (.ref a) (dLt l) := .tup h (.cons (.str _) (.cons (.int _) (.cons (.int _) .nil)))
/-! ### remove, pop, reverse, clear -/
section
variable {K : PySem.W.Frag} {F0 H0 F H : Hp} {L : List (Addr × HO)} {Q : VK} {l : Addr} {xs : List V} {y : V}
theorem r_reverse (i : Nat) (Z : Zs F0 H0 F H L) (h : L[i]? = some (l, .lst xs)) (k : ∀ H', Zs F0 H0 F H' (L.set i (l, .lst xs.reverse)) → Q .non H') : rReverse (.ref l) [] H Q := ⟨l, xs, rfl, rfl, Z.get h, k _ (Z.setAt i h)⟩
theorem r_clear (i : Nat) (Z : Zs F0 H0 F H L) (h : L[i]? = some (l, .lst xs)) (k : ∀ H', Zs F0 H0 F H' (L.set i (l, .lst [])) → Q .non H') : rClear (.ref l) [] H Q := ⟨l, xs, rfl, rfl, Z.get h, k _ (Z.setAt i h)⟩
theorem r_popAt (i : Nat) {c : Int} {j : Nat} (Z : Zs F0 H0 F H L) (h : L[i]? = some (l, .lst xs)) (hc : c = (j : Int)) (hz : xs.length ≤ 100000) (hj : xs[j]? = some y) (k : ∀ H', Zs F0 H0 F H' (L.set i (l, .lst (xs.eraseIdx j))) → Q y H') : rPopAt (.ref l) [.int c] H Q := by
  have hlt := (List.getElem?_eq_some_iff.mp hj).1
  subst hc
  refine ⟨l, xs, (j : Int), j, y, rfl, rfl, Z.get h, by omega, by omega, ?_, hj, k _ (Z.setAt i h)⟩
  unfold PySem.seqIndex?
  have e1 : ¬ ((j : Int) < 0) := by omega
  have e2 : (0 : Int) ≤ (j : Int) := by omega
  have e3 : (j : Int) < (xs.length : Int) := by omega
  simp only [e1, if_false, e2, e3, decide_true, Bool.and_self, if_true, Int.toNat_natCast]
theorem r_remI (i : Nat) {ns : List Int} {n : Int} {j : Nat} (Z : Zs F0 H0 F H L) (h : L[i]? = some (l, .lst (ns.map V.int))) (hj : ns[j]? = some n) (hno : ∀ m : Nat, m < j → ns[m]? ≠ some n) (k : ∀ H', Zs F0 H0 F H' (L.set i (l, .lst ((ns.eraseIdx j).map V.int))) → Q .non H') : rRemI (.ref l) [.int n] H Q :=
  ⟨l, ns, n, j, rfl, rfl, Z.get h, hj, hno, k _ (Z.setAt i h)⟩
end
end SB
/-! A hand: its attributes as cells of the ledger; what its methods compute, plainly. -/
namespace SB
open PySem L2
structure HS where
  number : Int
  word : Option Bool
  others : List Int
  first : Bool
  free : Bool
  has : Bool
  askers : List Int
  told : List Int
  owed : Int
  waker : Option Int
def kOf : Option Int → V
  | none => .non
  | some i => .int i
def wOf : Option Bool → V
  | none => .non
  | some b => .str (wd b)
def hf (s : HS) (o a t : Addr) : List (Str × V) := [("number", .int s.number), ("word", wOf s.word), ("others", .ref o), ("is_asker", .bl s.first), ("is_freed", .bl s.free), ("has_asked", .bl s.has), ("askers", .ref a), ("told_so", .ref t), ("owed", .int s.owed), ("waker", kOf s.waker)]
/-- where a hand lies -/
structure HR where
  x : Addr
  dx : Addr
  o : Addr
  a : Addr
  t : Addr
def hI (A : Ad) (r : HR) (s : HS) : HO := .ins A.cHand r.dx (hf s r.o r.a r.t)
abbrev hL (A : Ad) (r : HR) (s : HS) (L : List (Addr × HO)) : List (Addr × HO) := (r.x, hI A r s) :: (r.a, .lst (s.askers.map V.int)) :: (r.t, .lst (s.told.map V.int)) :: L
structure HandOk (K : PySem.W.Frag) (A : Ad) : Prop where
  cl : Cls K A.cHand
  number : NoAttr K A.cHand "number"
  word : NoAttr K A.cHand "word"
  others : NoAttr K A.cHand "others"
  first : NoAttr K A.cHand "is_asker"
  free : NoAttr K A.cHand "is_freed"
  has : NoAttr K A.cHand "has_asked"
  askers : NoAttr K A.cHand "askers"
  told : NoAttr K A.cHand "told_so"
  owed : NoAttr K A.cHand "owed"
  waker : NoAttr K A.cHand "waker"
section
variable {K : PySem.W.Frag} {A : Ad} {σ : St} {F0 H0 F H : Hp} {L : List (Addr × HO)} {Q : VK} {r : HR} {s : HS} {P : St → Hp → Prop} {n : Int} {b : Bool}
theorem fl_number (O : HandOk K A) (e : H r.x = some (hI A r s)) (k : Q (.int s.number) H) : FldQ K "number" Q (.ref r.x) H := r_fldQ O.cl O.number e rfl k
theorem fl_word (O : HandOk K A) (e : H r.x = some (hI A r s)) (k : Q (wOf s.word) H) : FldQ K "word" Q (.ref r.x) H := r_fldQ O.cl O.word e rfl k
theorem fl_others (O : HandOk K A) (e : H r.x = some (hI A r s)) (k : Q (.ref r.o) H) : FldQ K "others" Q (.ref r.x) H := r_fldQ O.cl O.others e rfl k
theorem fl_first (O : HandOk K A) (e : H r.x = some (hI A r s)) (k : Q (.bl s.first) H) : FldQ K "is_asker" Q (.ref r.x) H := r_fldQ O.cl O.first e rfl k
theorem fl_free (O : HandOk K A) (e : H r.x = some (hI A r s)) (k : Q (.bl s.free) H) : FldQ K "is_freed" Q (.ref r.x) H := r_fldQ O.cl O.free e rfl k
theorem fl_has (O : HandOk K A) (e : H r.x = some (hI A r s)) (k : Q (.bl s.has) H) : FldQ K "has_asked" Q (.ref r.x) H := r_fldQ O.cl O.has e rfl k
theorem fl_askers (O : HandOk K A) (e : H r.x = some (hI A r s)) (k : Q (.ref r.a) H) : FldQ K "askers" Q (.ref r.x) H := r_fldQ O.cl O.askers e rfl k
theorem fl_told (O : HandOk K A) (e : H r.x = some (hI A r s)) (k : Q (.ref r.t) H) : FldQ K "told_so" Q (.ref r.x) H := r_fldQ O.cl O.told e rfl k
theorem fl_owed (O : HandOk K A) (e : H r.x = some (hI A r s)) (k : Q (.int s.owed) H) : FldQ K "owed" Q (.ref r.x) H := r_fldQ O.cl O.owed e rfl k
theorem fl_waker (O : HandOk K A) (e : H r.x = some (hI A r s)) (k : Q (kOf s.waker) H) : FldQ K "waker" Q (.ref r.x) H := r_fldQ O.cl O.waker e rfl k
theorem hf_lt {o a t : Addr} : (hf s o a t).length < 1000 := by show 10 < 1000; decide
theorem sf_owed (O : HandOk K A) (Z : Zs F0 H0 F H (hL A r s L)) (k : ∀ H', Zs F0 H0 F H' (hL A r { s with owed := n } L) → P σ H') : SFldQ K "owed" (.int n) P σ (.ref r.x) H := r_sfldQ O.cl O.owed 0 Z rfl hf_lt k
theorem sf_has (O : HandOk K A) (Z : Zs F0 H0 F H (hL A r s L)) (k : ∀ H', Zs F0 H0 F H' (hL A r { s with has := b } L) → P σ H') : SFldQ K "has_asked" (.bl b) P σ (.ref r.x) H := r_sfldQ O.cl O.has 0 Z rfl hf_lt k
theorem sf_free (O : HandOk K A) (Z : Zs F0 H0 F H (hL A r s L)) (k : ∀ H', Zs F0 H0 F H' (hL A r { s with free := b } L) → P σ H') : SFldQ K "is_freed" (.bl b) P σ (.ref r.x) H := r_sfldQ O.cl O.free 0 Z rfl hf_lt k
theorem sf_waker (O : HandOk K A) (Z : Zs F0 H0 F H (hL A r s L)) (k : ∀ H', Zs F0 H0 F H' (hL A r { s with waker := some n } L) → P σ H') : SFldQ K "waker" (.int n) P σ (.ref r.x) H := r_sfldQ O.cl O.waker 0 Z rfl hf_lt k
theorem sf_wakerN (O : HandOk K A) (Z : Zs F0 H0 F H (hL A r s L)) (k : ∀ H', Zs F0 H0 F H' (hL A r { s with waker := none } L) → P σ H') : SFldQ K "waker" .non P σ (.ref r.x) H := r_sfldQ O.cl O.waker 0 Z rfl hf_lt k
end
/-! ### plainly -/
def posted (s : HS) (w : Str) (rs : List Int) : HS × List Lt := ({ s with owed := s.owed + (rs.length : Int) }, rs.map fun o => (w, s.number, o))
def asking (s : HS) : HS × List Lt := posted { s with has := true } "ask" s.others
def begin (s : HS) : HS × List Lt := if s.free = true then (s, []) else asking s
def askedBy (s : HS) (j : Int) : HS × List Lt :=
  if s.free = true then posted s "freed" [j] else
  if s.has = true then ({ s with askers := s.askers ++ [j] }, []) else asking { s with askers := s.askers ++ [j] }
def toldBy (s : HS) (j : Int) : HS × List Lt :=
  if (s.free || (decide (s.word = some false) && decide (s.told.length + 1 < s.others.length))) = true then ({ s with told := s.told ++ [j] }, [])
  else posted { s with told := s.told ++ [j], free := true } "freed" s.askers
/-- ahead of what the letter says: whose turn it is to wake -/
def woken (s : HS) (j : Int) : HS × List Lt := if (s.first || s.waker.isSome) = true then (s, [("back", s.number, j)]) else ({ s with waker := some j }, [])
/-- behind it: is nothing owed any more? -/
def settle (s : HS) : HS × List Lt :=
  match s.waker with
  | some k => if s.owed = 0 then ({ s with waker := none }, [("back", s.number, k)]) else (s, [])
  | none => (s, [])
def come1 (s : HS) (w : Str) (j : Int) : HS × List Lt :=
  if w = "back" then ({ s with owed := s.owed - 1 }, [])
  else
    let p := woken s j
    let q := if w = "ask" then askedBy p.1 j else toldBy p.1 j
    (q.1, p.2 ++ q.2)
def come (s : HS) (w : Str) (j : Int) : HS × List Lt :=
  let p := come1 s w j
  let q := settle p.1
  (q.1, p.2 ++ q.2)
/-- how a method of a hand ends -/
def PostH (A : Ad) (F0 H0 F : Hp) (L : List (Addr × HO)) (r : HR) (p : HS × List Lt) (Q : VK) : Prop := ∀ F' H' l vs, Zs F0 H0 F' H' ((l, .lst vs) :: hL A r p.1 L) → Same F F' → TdA F' vs (dLts p.2) → Q (.ref l) H'
end SB
/-! A hand's methods: posted, asking, begin, asked_by, told_by. -/
namespace SB
open PySem L2
def pr_Hand_posted (K : PySem.W.Frag) (A : Ad) : V → V → V → Hp → VK → XK → Prop := fun x w b H Q _ => ∃ (F0 H0 F : Hp) (L : List (Addr × HO)) (r : HR) (s : HS) (wo : Str) (rs : List Int) (pb : Addr), x = .ref r.x ∧ w = .str wo ∧ b = .ref pb ∧ Zs F0 H0 F H (hL A r s L) ∧
  (F pb = some (.lst (rs.map V.int)) ∨ (pb = r.a ∧ rs = s.askers)) ∧ rs.length ≤ 50000 ∧ PostH A F0 H0 F L r (posted s wo rs) Q
abbrev sp_Hand_posted (K : PySem.W.Frag) (A : Ad) : Sp := sp3 (pr_Hand_posted K A)
def t_Hand_posted (K : PySem.W.Frag) (A : Ad) : TS :=
    (tSeq (sFld K (tVar 0) (tOp qAdd (tFld K (tVar 0) "owed") (tCB (qLen K) (tCons (tVar 2) tNil))) "owed")
    (tRet (tLc (iList K (tVar 2)) (gName 3) tYes (tTup (tCons (tVar 1) (tCons (tFld K (tVar 0) "number") (tCons (tVar 3) tNil)))) [3])))
theorem hL_src {K : PySem.W.Frag} {A : Ad} {F0 H0 F F' H' : Hp} {L : List (Addr × HO)} {r : HR} {s s' : HS} {rs : List Int} {pb : Addr} (h : F pb = some (.lst (rs.map V.int)) ∨ (pb = r.a ∧ rs = s.askers)) (Z : Zs F0 H0 F' H' (hL A r s' L)) (e : s'.askers = s.askers) (sm : Same F F') : SqL K H' pb (rs.map V.int) := by
  rcases h with h | ⟨rfl, rfl⟩
  · exact SqL.of (Z.fix (sm _ _ h))
  · have := Z.get (i := 1) rfl
    rw [e] at this
    exact SqL.of this
theorem rd_Hand_posted {K : PySem.W.Frag} {A : Ad} (O : HandOk K A) {x w b : V} {H : Hp} {Q : VK} {E : XK} (h : pr_Hand_posted K A x w b H Q E) : t_Hand_posted K A { nx := fun _ H' => Q .non H', rt := Q } [some x, some w, some b, none] H := by
  obtain ⟨F0, H0, F, L, r, s, wo, rs, pb, rfl, rfl, rfl, Z, hb, hn, k⟩ := h
  unfold t_Hand_posted
  walk_at "rd"
  refine fl_owed O (Z.get (i := 0) rfl) ?_
  walk_at "rd"
  refine r_lenL (hL_src hb Z rfl (Same.refl _)) ?_
  rw [List.length_map]
  walk_at "rd"
  refine sf_owed O Z ?_
  intro H1 Z
  walk_at "rd"
  refine lc_lst (hL_src hb Z rfl (Same.refl _)) Z (fun i acc F' => TdA F' acc ((dLts (posted s wo rs).2).take i)) (by rw [List.take_zero]; exact .nil) (fun F' H' Z' sm => hL_src hb Z' rfl sm) ?_ ?_
  · intro i y Dl F' H' acc hi Z' sm hacc p
    obtain ⟨n, hn1, rfl⟩ := of_get_ints hi
    walk_at "rd"
    refine ⟨rfl, ?_⟩
    refine r_yes (ifT rfl ?_)
    walk_at "rd"
    refine fl_number O (Z'.get (i := 1) rfl) ?_
    walk_at "rd"
    refine r_mk sz3 Z' ?_
    intro p0 H2 Z2
    obtain ⟨F3, Z3, s3, e3⟩ := Z2.frzAt 0 rfl
    have hlt := (List.getElem?_eq_some_iff.mp hn1).1
    refine cy Z3 (sm.trans s3) hacc (by omega) ?_
    have ed : (dLts (posted s wo rs).2)[i]? = some (dLt (wo, s.number, n)) := by
      unfold dLts posted
      rw [List.getElem?_map, List.getElem?_map, hn1] <;> rfl
    rw [take_snoc ed]
    exact (p.up s3).snoc (Td.mk_lt e3)
  · intro Dl F' H' acc Z' sm p
    refine k F' H' Dl acc Z' sm ?_
    rw [List.length_map] at p
    have e : (dLts (posted s wo rs).2).length = rs.length := by unfold dLts posted; rw [List.length_map, List.length_map]
    rw [← e, List.take_length] at p
    exact p
/-- what a hand's methods lean on -/
structure HsF (F : Hp) (r : HR) (s : HS) : Prop where
  o : F r.o = some (.lst (s.others.map V.int))
  no : s.others.length ≤ 10000
  na : s.askers.length ≤ 10000
  nt : s.told.length ≤ 10000
theorem HsF.up {F F' : Hp} {r : HR} {s : HS} (h : HsF F r s) (sm : Same F F') : HsF F' r s := ⟨sm _ _ h.o, h.no, h.na, h.nt⟩
def pr_Hand_asking (K : PySem.W.Frag) (A : Ad) : V → Hp → VK → XK → Prop := fun x H Q _ => ∃ (F0 H0 F : Hp) (L : List (Addr × HO)) (r : HR) (s : HS), x = .ref r.x ∧ Zs F0 H0 F H (hL A r s L) ∧ F r.o = some (.lst (s.others.map V.int)) ∧ s.others.length ≤ 10000 ∧ PostH A F0 H0 F L r (asking s) Q
abbrev sp_Hand_asking (K : PySem.W.Frag) (A : Ad) : Sp := sp1 (pr_Hand_asking K A)
def t_Hand_asking (K : PySem.W.Frag) (A : Ad) : TS :=
    (tSeq (sFld K (tVar 0) (tC (.bl true)) "has_asked")
    (tRet (tMeth A.cHand "posted" (sp_Hand_posted K A) [] E0 (tVar 0) (tCons (tC (.str "ask")) (tCons (tFld K (tVar 0) "others") tNil)))))
theorem rd_Hand_asking {K : PySem.W.Frag} {A : Ad} (O : HandOk K A) {x : V} {H : Hp} {Q : VK} {E : XK} (h : pr_Hand_asking K A x H Q E) : t_Hand_asking K A { nx := fun _ H' => Q .non H', rt := Q } [some x] H := by
  obtain ⟨F0, H0, F, L, r, s, rfl, Z, ho, hn, k⟩ := h
  unfold t_Hand_asking
  walk_at "rd"
  refine sf_has O Z ?_
  intro H1 Z
  walk_at "rd"
  refine r_methQ (Z.get (i := 0) rfl) rfl ?_
  walk_at "rd"
  refine fl_others O (Z.get (i := 0) rfl) ?_
  walk_at "rd"
  exact ⟨F0, H0, F, L, r, { s with has := true }, "ask", s.others, r.o, rfl, rfl, rfl, Z, .inl ho, by omega, k⟩
def pr_Hand_begin (K : PySem.W.Frag) (A : Ad) : V → Hp → VK → XK → Prop := fun x H Q _ => ∃ (F0 H0 F : Hp) (L : List (Addr × HO)) (r : HR) (s : HS), x = .ref r.x ∧ Zs F0 H0 F H (hL A r s L) ∧ F r.o = some (.lst (s.others.map V.int)) ∧ s.others.length ≤ 10000 ∧ PostH A F0 H0 F L r (begin s) Q
abbrev sp_Hand_begin (K : PySem.W.Frag) (A : Ad) : Sp := sp1 (pr_Hand_begin K A)
def t_Hand_begin (K : PySem.W.Frag) (A : Ad) : TS :=
    (tSeq (tIfS (tB (tFld K (tVar 0) "is_freed"))
    (tRet (tLst tNil))
    tNext)
    (tRet (tMeth A.cHand "asking" (sp_Hand_asking K A) [] E0 (tVar 0) tNil)))
theorem rd_Hand_begin {K : PySem.W.Frag} {A : Ad} (O : HandOk K A) {x : V} {H : Hp} {Q : VK} {E : XK} (h : pr_Hand_begin K A x H Q E) : t_Hand_begin K A { nx := fun _ H' => Q .non H', rt := Q } [some x] H := by
  obtain ⟨F0, H0, F, L, r, s, rfl, Z, ho, hn, k⟩ := h
  unfold t_Hand_begin
  walk_at "rd"
  refine fl_free O (Z.get (i := 0) rfl) ?_
  walk_at "rd"
  refine ifb (fun e => ?_) (fun e => ?_)
  · walk_at "rd"
    refine r_mk sz0 Z ?_
    intro p H1 Z1
    refine k F H1 p [] ?_ (Same.refl _) ?_
    · unfold begin
      rw [if_pos e]
      exact Z1
    · unfold begin
      rw [if_pos e]
      exact .nil
  · walk_at "rd"
    refine r_methQ (Z.get (i := 0) rfl) rfl ?_
    walk_at "rd"
    refine ⟨F0, H0, F, L, r, s, rfl, Z, ho, hn, ?_⟩
    have e2 : begin s = asking s := by unfold begin; rw [if_neg (by rw [e]; decide)]
    rw [← e2]
    exact k
def pr_Hand_asked_by (K : PySem.W.Frag) (A : Ad) : V → V → Hp → VK → XK → Prop := fun x y H Q _ => ∃ (F0 H0 F : Hp) (L : List (Addr × HO)) (r : HR) (s : HS) (j : Int), x = .ref r.x ∧ y = .int j ∧ Zs F0 H0 F H (hL A r s L) ∧ HsF F r s ∧ PostH A F0 H0 F L r (askedBy s j) Q
abbrev sp_Hand_asked_by (K : PySem.W.Frag) (A : Ad) : Sp := sp2 (pr_Hand_asked_by K A)
def t_Hand_asked_by (K : PySem.W.Frag) (A : Ad) : TS :=
    (tSeq (tIfS (tB (tFld K (tVar 0) "is_freed"))
    (tRet (tMeth A.cHand "posted" (sp_Hand_posted K A) [] E0 (tVar 0) (tCons (tC (.str "freed")) (tCons (tLst (tCons (tVar 1) tNil)) tNil))))
    tNext)
    (tSeq (tDrop (tBM K "list" rAppend (tFld K (tVar 0) "askers") (tCons (tVar 1) tNil)))
    (tSeq (tIfS (tB (tFld K (tVar 0) "has_asked"))
    (tRet (tLst tNil))
    tNext)
    (tRet (tMeth A.cHand "asking" (sp_Hand_asking K A) [] E0 (tVar 0) tNil)))))
theorem rd_Hand_asked_by {K : PySem.W.Frag} {A : Ad} (O : HandOk K A) {x y : V} {H : Hp} {Q : VK} {E : XK} (h : pr_Hand_asked_by K A x y H Q E) : t_Hand_asked_by K A { nx := fun _ H' => Q .non H', rt := Q } [some x, some y] H := by
  obtain ⟨F0, H0, F, L, r, s, j, rfl, rfl, Z, hs, k⟩ := h
  unfold t_Hand_asked_by
  walk_at "rd"
  refine fl_free O (Z.get (i := 0) rfl) ?_
  walk_at "rd"
  refine ifb (fun e => ?_) (fun e => ?_)
  · walk_at "rd"
    refine r_methQ (Z.get (i := 0) rfl) rfl ?_
    walk_at "rd"
    refine r_mk sz1 Z ?_
    intro p H1 Z1
    obtain ⟨F2, Z2, s2, e2⟩ := Z1.frzAt 0 rfl
    walk_at "rd"
    refine ⟨F0, H0, F2, L, r, s, "freed", [j], p, rfl, rfl, rfl, Z2, .inl e2, by show 1 ≤ 50000; decide, ?_⟩
    have e3 : askedBy s j = posted s "freed" [j] := by unfold askedBy; rw [if_pos e]
    rw [← e3]
    exact fun F' H' l vs Z' sm hd => k F' H' l vs Z' (s2.trans sm) hd
  · walk_at "rd"
    refine fl_askers O (Z.get (i := 0) rfl) ?_
    refine ⟨ty_l (SqL.of (Z.get (i := 1) rfl)), ?_⟩
    walk_at "rd"
    refine r_append 1 Z rfl (by rw [List.length_map]; have := hs.na; omega) ?_
    intro H1 Z
    have Z : Zs F0 H0 F H1 (hL A r { s with askers := s.askers ++ [j] } L) := by
      have q := Z
      simp only [List.set_cons_succ, List.set_cons_zero] at q
      show Zs F0 H0 F H1 ((r.x, hI A r s) :: (r.a, .lst ((s.askers ++ [j]).map V.int)) :: (r.t, .lst (s.told.map V.int)) :: L)
      rw [List.map_append]
      exact q
    walk_at "rd"
    refine fl_has O (Z.get (i := 0) rfl) ?_
    walk_at "rd"
    refine ifb (fun e2 => ?_) (fun e2 => ?_)
    · walk_at "rd"
      refine r_mk sz0 Z ?_
      intro p H1 Z1
      have e3 : askedBy s j = ({ s with askers := s.askers ++ [j] }, []) := by unfold askedBy; rw [if_neg (by rw [e]; decide), if_pos e2]
      rw [e3] at k
      exact k F H1 p [] Z1 (Same.refl _) .nil
    · walk_at "rd"
      refine r_methQ (Z.get (i := 0) rfl) rfl ?_
      walk_at "rd"
      refine ⟨F0, H0, F, L, r, { s with askers := s.askers ++ [j] }, rfl, Z, hs.o, hs.no, ?_⟩
      have e3 : askedBy s j = asking { s with askers := s.askers ++ [j] } := by
        unfold askedBy
        rw [if_neg (by rw [e]; decide), if_neg (by rw [show s.has = false from e2]; decide)]
      rw [← e3]
      exact k
theorem w_all (b : Option Bool) : wOf b = .str "all" ↔ b = some false := by
  rcases b with _ | _ | _ <;> constructor <;> intro q <;> first | rfl | cases q
theorem rEq_all {H : Hp} {Q : VK} {w : Option Bool} (k : Q (.bl (decide (w = some false))) H) : rEq (wOf w) (.str "all") H Q := by
  rcases w with _ | _ | _
  · exact ⟨rfl, k⟩
  · exact r_eqS k
  · exact r_eqS k
def pr_Hand_told_by (K : PySem.W.Frag) (A : Ad) : V → V → Hp → VK → XK → Prop := fun x y H Q _ => ∃ (F0 H0 F : Hp) (L : List (Addr × HO)) (r : HR) (s : HS) (j : Int), x = .ref r.x ∧ y = .int j ∧ Zs F0 H0 F H (hL A r s L) ∧ HsF F r s ∧ PostH A F0 H0 F L r (toldBy s j) Q
abbrev sp_Hand_told_by (K : PySem.W.Frag) (A : Ad) : Sp := sp2 (pr_Hand_told_by K A)
def t_Hand_told_by (K : PySem.W.Frag) (A : Ad) : TS :=
    (tSeq (tDrop (tBM K "list" rAppend (tFld K (tVar 0) "told_so") (tCons (tVar 1) tNil)))
    (tSeq (tIfS (tOr (tB (tFld K (tVar 0) "is_freed")) (tAnd (tTest (tOp rEq (tFld K (tVar 0) "word") (tC (.str "all")))) (tTest (tOp qLt (tCB (qLen K) (tCons (tFld K (tVar 0) "told_so") tNil)) (tCB (qLen K) (tCons (tFld K (tVar 0) "others") tNil))))))
    (tRet (tLst tNil))
    tNext)
    (tSeq (sFld K (tVar 0) (tC (.bl true)) "is_freed")
    (tRet (tMeth A.cHand "posted" (sp_Hand_posted K A) [] E0 (tVar 0) (tCons (tC (.str "freed")) (tCons (tFld K (tVar 0) "askers") tNil)))))))
theorem rd_Hand_told_by {K : PySem.W.Frag} {A : Ad} (O : HandOk K A) {x y : V} {H : Hp} {Q : VK} {E : XK} (h : pr_Hand_told_by K A x y H Q E) : t_Hand_told_by K A { nx := fun _ H' => Q .non H', rt := Q } [some x, some y] H := by
  obtain ⟨F0, H0, F, L, r, s, j, rfl, rfl, Z, hs, k⟩ := h
  unfold t_Hand_told_by
  walk_at "rd"
  refine fl_told O (Z.get (i := 0) rfl) ?_
  refine ⟨ty_l (SqL.of (Z.get (i := 2) rfl)), ?_⟩
  walk_at "rd"
  refine r_append 2 Z rfl (by rw [List.length_map]; have := hs.nt; omega) ?_
  intro H1 Z
  have Z : Zs F0 H0 F H1 (hL A r { s with told := s.told ++ [j] } L) := by
    have q := Z
    simp only [List.set_cons_succ, List.set_cons_zero] at q
    show Zs F0 H0 F H1 ((r.x, hI A r s) :: (r.a, .lst (s.askers.map V.int)) :: (r.t, .lst ((s.told ++ [j]).map V.int)) :: L)
    rw [List.map_append]
    exact q
  have hyes : (s.free || (decide (s.word = some false) && decide (s.told.length + 1 < s.others.length))) = true → tIfS tYes (tRet (tLst tNil)) tNext { nx := fun _ _ => False, rt := Q } [] H1 := fun e => by
    refine r_ifS (r_yes (ifT rfl (r_ret (r_lst (r_nil ?_)))))
    refine r_mk sz0 Z ?_
    intro p H2 Z2
    have e3 : toldBy s j = ({ s with told := s.told ++ [j] }, []) := by unfold toldBy; rw [if_pos e]
    rw [e3] at k
    exact k F H2 p [] Z2 (Same.refl _) .nil
  have hno : ∀ σ : St, σ[0]? = some (some (V.ref r.x)) → (s.free || (decide (s.word = some false) && decide (s.told.length + 1 < s.others.length))) = false → tSeq (sFld K (tVar 0) (tC (.bl true)) "is_freed") (tRet (tMeth A.cHand "posted" (sp_Hand_posted K A) [] E0 (tVar 0) (tCons (tC (.str "freed")) (tCons (tFld K (tVar 0) "askers") tNil)))) { nx := fun _ H' => Q .non H', rt := Q } σ H1 := fun σ h0 e => by
    refine r_seq (r_sfld (r_c (r_var h0 ?_)))
    refine sf_free O Z ?_
    intro H2 Z
    refine r_ret (r_meth (r_var h0 ?_))
    refine r_methQ (Z.get (i := 0) rfl) rfl ?_
    refine r_cons (r_c (r_cons (r_fld (r_var h0 ?_))))
    refine fl_askers O (Z.get (i := 0) rfl) ?_
    refine r_nil (r_sp3m ?_)
    refine ⟨F0, H0, F, L, r, { s with told := s.told ++ [j], free := true }, "freed", s.askers, r.a, rfl, rfl, rfl, Z, .inr ⟨rfl, rfl⟩, by have := hs.na; omega, ?_⟩
    have e3 : toldBy s j = posted { s with told := s.told ++ [j], free := true } "freed" s.askers := by unfold toldBy; rw [if_neg (by rw [e]; decide)]
    rw [← e3]
    exact k
  walk_at "rd"
  refine fl_free O (Z.get (i := 0) rfl) ?_
  walk_at "rd"
  refine ifb (fun e => ?_) (fun e => ?_)
  · refine ifT rfl ?_
    exact hyes (by rw [show s.free = true from e]; rfl)
  · walk_at "rd"
    refine fl_word O (Z.get (i := 0) rfl) ?_
    walk_at "rd"
    refine rEq_all ?_
    walk_at "rd"
    refine ifd (fun e2 => ?_) (fun e2 => ?_)
    · walk_at "rd"
      refine fl_told O (Z.get (i := 0) rfl) ?_
      walk_at "rd"
      refine r_lenL (SqL.of (Z.get (i := 2) rfl)) ?_
      walk_at "rd"
      refine fl_others O (Z.get (i := 0) rfl) ?_
      walk_at "rd"
      refine r_lenL (SqL.of (Z.fix hs.o)) ?_
      walk_at "rd"
      rw [List.length_map, List.length_map, List.length_append, List.length_singleton]
      refine ifd (fun e3 => ?_) (fun e3 => ?_)
      · exact hyes (by rw [show s.free = false from e, decide_eq_true (show s.word = some false from e2), decide_eq_true (show s.told.length + 1 < s.others.length by omega)]; rfl)
      · refine r_next ?_
        exact hno [some (.ref r.x), some (.int j)] rfl (by rw [show s.free = false from e, decide_eq_false (show ¬ s.told.length + 1 < s.others.length by omega), Bool.and_false]; rfl)
    · refine ifF rfl ?_
      refine r_next ?_
      exact hno [some (.ref r.x), some (.int j)] rfl (by rw [show s.free = false from e, decide_eq_false (show ¬ s.word = some false from e2)]; rfl)
end SB
/-! Hand.come. -/
namespace SB
open PySem L2
theorem hL_in {A : Ad} {F0 H0 F H : Hp} {L : List (Addr × HO)} {r : HR} {s : HS} {q : Addr × HO} (Z : Zs F0 H0 F H (q :: hL A r s L)) : Zs F0 H0 F H (hL A r s (q :: L)) :=
  Z.perm ((List.Perm.swap _ _ _).trans ((List.Perm.cons _ (List.Perm.swap _ _ _)).trans (List.Perm.cons _ (List.Perm.cons _ (List.Perm.swap _ _ _)))))
theorem hL_out {A : Ad} {F0 H0 F H : Hp} {L : List (Addr × HO)} {r : HR} {s : HS} {q : Addr × HO} (Z : Zs F0 H0 F H (hL A r s (q :: L))) : Zs F0 H0 F H (q :: hL A r s L) :=
  Z.perm (((List.Perm.swap _ _ _).trans ((List.Perm.cons _ (List.Perm.swap _ _ _)).trans (List.Perm.cons _ (List.Perm.cons _ (List.Perm.swap _ _ _))))).symm)
theorem len_dLts (ls : List Lt) : (dLts ls).length = ls.length := by unfold dLts; rw [List.length_map]
theorem len_posted {s : HS} {w : Str} {rs : List Int} : (posted s w rs).2.length = rs.length := by unfold posted; rw [List.length_map]
theorem len_askedBy {F : Hp} {r : HR} {s : HS} {j : Int} (h : HsF F r s) : (askedBy s j).2.length ≤ 10000 := by
  have := h.no
  unfold askedBy
  split
  · rw [len_posted]; show 1 ≤ 10000; decide
  · split
    · exact Nat.zero_le _
    · unfold asking; rw [len_posted]; exact this
theorem len_toldBy {F : Hp} {r : HR} {s : HS} {j : Int} (h : HsF F r s) : (toldBy s j).2.length ≤ 10000 := by
  have := h.na
  unfold toldBy
  split
  · exact Nat.zero_le _
  · rw [len_posted]; exact this
theorem dec_kOf (k : Option Int) : decide (kOf k = .non) = !k.isSome := by cases k <;> rfl
theorem HsF.waker {F : Hp} {r : HR} {s : HS} (h : HsF F r s) (k : Option Int) : HsF F r { s with waker := k } := ⟨h.o, h.no, h.na, h.nt⟩
def pr_Hand_come (K : PySem.W.Frag) (A : Ad) : V → V → Hp → VK → XK → Prop := fun x y H Q _ => ∃ (F0 H0 F : Hp) (L : List (Addr × HO)) (r : HR) (s : HS) (w : Str) (j me : Int) (p : Addr), x = .ref r.x ∧ y = .ref p ∧ F p = some (.tup [.str w, .int j, .int me]) ∧ Zs F0 H0 F H (hL A r s L) ∧ HsF F r s ∧ PostH A F0 H0 F L r (come s w j) Q
abbrev sp_Hand_come (K : PySem.W.Frag) (A : Ad) : Sp := sp2 (pr_Hand_come K A)
def t_Hand_come (K : PySem.W.Frag) (A : Ad) : TS :=
    (tSeq (tAsg (tVar 1) (gTup K 3 (gCons (gName 2) (gCons (gName 3) (gCons (gName 4) gNil)))))
    (tSeq (tAsg (tLst tNil) (gName 5))
    (Evl.tCut (tIfS (tTest (tOp rEq (tVar 2) (tC (.str "back"))))
    (sFld K (tVar 0) (tOp qSub (tFld K (tVar 0) "owed") (tC (.int 1))) "owed")
    (Evl.tCut (tIfS (tOr (tB (tFld K (tVar 0) "is_asker")) (tTest (tOp qNotN (tFld K (tVar 0) "waker") (tC .non))))
    (tDrop (tBM K "list" rAppend (tVar 5) (tCons (tTup (tCons (tC (.str "back")) (tCons (tFld K (tVar 0) "number") (tCons (tVar 3) tNil)))) tNil)))
    (sFld K (tVar 0) (tVar 3) "waker"))
    (tIfS (tTest (tOp rEq (tVar 2) (tC (.str "ask"))))
    (tDrop (tBM K "list" rExtend (tVar 5) (tCons (tMeth A.cHand "asked_by" (sp_Hand_asked_by K A) [] E0 (tVar 0) (tCons (tVar 3) tNil)) tNil)))
    (tDrop (tBM K "list" rExtend (tVar 5) (tCons (tMeth A.cHand "told_by" (sp_Hand_told_by K A) [] E0 (tVar 0) (tCons (tVar 3) tNil)) tNil))))))
    (Evl.tCut (tIfS (tAnd (tTest (tOp rEq (tFld K (tVar 0) "owed") (tC (.int 0)))) (tTest (tOp qNotN (tFld K (tVar 0) "waker") (tC .non))))
    (tSeq (tDrop (tBM K "list" rAppend (tVar 5) (tCons (tTup (tCons (tC (.str "back")) (tCons (tFld K (tVar 0) "number") (tCons (tFld K (tVar 0) "waker") tNil)))) tNil)))
    (sFld K (tVar 0) (tC .non) "waker"))
    tNext)
    (tRet (tVar 5))))))
/-- what stands in the midst of come -/
def CmW (A : Ad) (F0 H0 F : Hp) (L : List (Addr × HO)) (r : HR) (pf : Addr) (p : HS × List Lt) (H' : Hp) : Prop := ∃ F' vs, Zs F0 H0 F' H' (hL A r p.1 ((pf, .lst vs) :: L)) ∧ Same F F' ∧ TdA F' vs (dLts p.2)
theorem rd_Hand_come {K : PySem.W.Frag} {A : Ad} (O : HandOk K A) {x y : V} {H : Hp} {Q : VK} {E : XK} (h : pr_Hand_come K A x y H Q E) : t_Hand_come K A { nx := fun _ H' => Q .non H', rt := Q } [some x, some y, none, none, none, none] H := by
  obtain ⟨F0, H0, F, L, r, s, w, j, me, p, rfl, rfl, hp, Z, hs, k⟩ := h
  unfold t_Hand_come
  walk_at "rd"
  refine r_gt3 (SqT.of (Z.fix hp)) ?_
  walk_at "rd"
  refine r_mk sz0 Z ?_
  intro pf H1 Z
  replace Z := hL_in Z
  walk_at "rd"
  refine r_cut (fun σ' H' => σ' = [some (.ref r.x), some (.ref p), some (.str w), some (.int j), some (.int me), some (.ref pf)] ∧ CmW A F0 H0 F L r pf (come1 s w j) H') ?_ ?_
  · walk_at "rd"
    refine ifd (fun ew => ?_) (fun ew => ?_)
    · walk_at "rd"
      refine fl_owed O (Z.get (i := 0) rfl) ?_
      walk_at "rd"
      refine sf_owed O Z ?_
      intro H2 Z2
      refine ⟨rfl, F, [], ?_, Same.refl _, ?_⟩
      · have e : come1 s w j = ({ s with owed := s.owed - 1 }, []) := by unfold come1; rw [if_pos ew]
        rw [e]
        exact Z2
      · have e : come1 s w j = ({ s with owed := s.owed - 1 }, []) := by unfold come1; rw [if_pos ew]
        rw [e]
        exact .nil
    · refine r_cut (fun σ' H' => σ' = [some (.ref r.x), some (.ref p), some (.str w), some (.int j), some (.int me), some (.ref pf)] ∧ CmW A F0 H0 F L r pf (woken s j) H') ?_ ?_
      · walk_at "rd"
        refine fl_first O (Z.get (i := 0) rfl) ?_
        walk_at "rd"
        have hyes : ∀ (σ : St), σ = [some (V.ref r.x), some (.ref p), some (.str w), some (.int j), some (.int me), some (.ref pf)] → (s.first || s.waker.isSome) = true → tDrop (tBM K "list" rAppend (tVar 5) (tCons (tTup (tCons (tC (.str "back")) (tCons (tFld K (tVar 0) "number") (tCons (tVar 3) tNil)))) tNil)) { nx := fun σ' H' => σ' = [some (V.ref r.x), some (.ref p), some (.str w), some (.int j), some (.int me), some (.ref pf)] ∧ CmW A F0 H0 F L r pf (woken s j) H', rt := Q } σ H1 := fun σ e0 e => by
          subst e0
          walk_at "rd"
          refine ⟨ty_l (SqL.of (Z.get (i := 3) rfl)), ?_⟩
          walk_at "rd"
          refine fl_number O (Z.get (i := 0) rfl) ?_
          walk_at "rd"
          refine r_mk sz3 Z ?_
          intro p2 H2 Z2
          obtain ⟨F3, Z3, s3, e3⟩ := Z2.frzAt 0 rfl
          replace Z3 : Zs F0 H0 F3 H2 (hL A r s ((pf, .lst []) :: L)) := Z3
          walk_at "rd"
          refine r_append 3 Z3 rfl (by show 0 < 100000; decide) ?_
          intro H3 Z4
          have e4 : woken s j = (s, [(("back" : Str), s.number, j)]) := by unfold woken; rw [if_pos e]
          refine ⟨rfl, F3, [.ref p2], ?_, s3, ?_⟩
          · rw [e4]
            exact Z4
          · rw [e4]
            exact .cons (Td.mk_lt e3) .nil
        refine ifb (fun e => ?_) (fun e => ?_)
        · refine ifT rfl ?_
          exact hyes _ rfl (by rw [show s.first = true from e]; rfl)
        · walk_at "rd"
          refine fl_waker O (Z.get (i := 0) rfl) ?_
          walk_at "rd"
          rw [dec_kOf, Bool.not_not]
          refine ifb (fun e2 => ?_) (fun e2 => ?_)
          · exact hyes _ rfl (by rw [show s.waker.isSome = true from e2, Bool.or_true])
          · walk_at "rd"
            refine sf_waker O Z ?_
            intro H2 Z2
            have e4 : woken s j = ({ s with waker := some j }, []) := by unfold woken; rw [if_neg (by rw [show s.first = false from e, show s.waker.isSome = false from e2]; decide)]
            refine ⟨rfl, F, [], ?_, Same.refl _, ?_⟩
            · rw [e4]
              exact Z2
            · rw [e4]
              exact .nil
      · rintro σ' H' ⟨rfl, F2, vs, Z2, s2, hd⟩
        have hs2 : HsF F2 r (woken s j).1 := by
          unfold woken
          split
          · exact hs.up s2
          · exact (hs.up s2).waker _
        have hw : (woken s j).2.length ≤ 1 := by
          unfold woken
          split
          · exact Nat.le_refl 1
          · exact Nat.zero_le 1
        walk_at "rd"
        refine ifd (fun ea => ?_) (fun ea => ?_)
        · walk_at "rd"
          refine ⟨ty_l (SqL.of (Z2.get (i := 3) rfl)), ?_⟩
          walk_at "rd"
          refine r_methQ (Z2.get (i := 0) rfl) rfl ?_
          walk_at "rd"
          refine ⟨F0, H0, F2, (pf, .lst vs) :: L, r, (woken s j).1, j, rfl, rfl, Z2, hs2, ?_⟩
          intro F3 H3 l ws Z3 s3 hd3
          walk_at "rd"
          refine r_extend 4 Z3 rfl (Z3.get (i := 0) rfl) ?_ ?_
          · have h1 := hd.len
            have h2 := hd3.len
            have h3 := len_askedBy (j := j) hs2
            rw [len_dLts] at h1 h2
            omega
          · intro H4 Z4
            have e : come1 s w j = ((askedBy (woken s j).1 j).1, (woken s j).2 ++ (askedBy (woken s j).1 j).2) := by
              unfold come1
              rw [if_neg ew]
              simp only [if_pos ea]
            refine ⟨rfl, F3, vs ++ ws, ?_, s2.trans s3, ?_⟩
            · rw [e]
              exact Z4.drop
            · rw [e]
              show TdA F3 (vs ++ ws) (dLts ((woken s j).2 ++ (askedBy (woken s j).1 j).2))
              unfold dLts
              rw [List.map_append]
              exact (hd.up s3).append hd3
        · walk_at "rd"
          refine ⟨ty_l (SqL.of (Z2.get (i := 3) rfl)), ?_⟩
          walk_at "rd"
          refine r_methQ (Z2.get (i := 0) rfl) rfl ?_
          walk_at "rd"
          refine ⟨F0, H0, F2, (pf, .lst vs) :: L, r, (woken s j).1, j, rfl, rfl, Z2, hs2, ?_⟩
          intro F3 H3 l ws Z3 s3 hd3
          walk_at "rd"
          refine r_extend 4 Z3 rfl (Z3.get (i := 0) rfl) ?_ ?_
          · have h1 := hd.len
            have h2 := hd3.len
            have h3 := len_toldBy (j := j) hs2
            rw [len_dLts] at h1 h2
            omega
          · intro H4 Z4
            have e : come1 s w j = ((toldBy (woken s j).1 j).1, (woken s j).2 ++ (toldBy (woken s j).1 j).2) := by
              unfold come1
              rw [if_neg ew]
              simp only [if_neg ea]
            refine ⟨rfl, F3, vs ++ ws, ?_, s2.trans s3, ?_⟩
            · rw [e]
              exact Z4.drop
            · rw [e]
              show TdA F3 (vs ++ ws) (dLts ((woken s j).2 ++ (toldBy (woken s j).1 j).2))
              unfold dLts
              rw [List.map_append]
              exact (hd.up s3).append hd3
  · rintro σ' H' ⟨rfl, F2, vs, Z2, s2, hd⟩
    have hlen : (come1 s w j).2.length ≤ 20000 := by
      have hw : (woken s j).2.length ≤ 1 := by
        unfold woken
        split
        · exact Nat.le_refl 1
        · exact Nat.zero_le 1
      have hs2 : HsF F r (woken s j).1 := by
        unfold woken
        split
        · exact hs
        · exact hs.waker _
      have h1 := len_askedBy (j := j) hs2
      have h2 := len_toldBy (j := j) hs2
      unfold come1
      split
      · exact Nat.zero_le _
      · simp only []
        split
        · rw [List.length_append]; omega
        · rw [List.length_append]; omega
    have hstop : settle (come1 s w j).1 = ((come1 s w j).1, []) → Q (.ref pf) H' := fun e => by
      have e2 : come s w j = come1 s w j := by
        unfold come
        simp only [e, List.append_nil]
      rw [e2] at k
      exact k F2 H' pf vs (hL_out Z2) s2 hd
    refine r_cut (fun σ' H' => σ' = [some (.ref r.x), some (.ref p), some (.str w), some (.int j), some (.int me), some (.ref pf)] ∧ Q (.ref pf) H') ?_ ?_
    · walk_at "rd"
      refine fl_owed O (Z2.get (i := 0) rfl) ?_
      walk_at "rd"
      refine ifd (fun e0 => ?_) (fun e0 => ?_)
      · walk_at "rd"
        refine fl_waker O (Z2.get (i := 0) rfl) ?_
        walk_at "rd"
        rw [dec_kOf, Bool.not_not]
        refine ifb (fun e2 => ?_) (fun e2 => ?_)
        · obtain ⟨kk, ek⟩ := Option.isSome_iff_exists.mp e2
          walk_at "rd"
          refine ⟨ty_l (SqL.of (Z2.get (i := 3) rfl)), ?_⟩
          walk_at "rd"
          refine fl_number O (Z2.get (i := 0) rfl) ?_
          walk_at "rd"
          refine fl_waker O (Z2.get (i := 0) rfl) ?_
          rw [ek]
          walk_at "rd"
          refine r_mk sz3 Z2 ?_
          intro p2 H2 Z3
          obtain ⟨F3, Z3, s3, e3⟩ := Z3.frzAt 0 rfl
          replace Z3 : Zs F0 H0 F3 H2 (hL A r (come1 s w j).1 ((pf, .lst vs) :: L)) := Z3
          walk_at "rd"
          refine r_append 3 Z3 rfl (by have := hd.len; rw [len_dLts] at this; omega) ?_
          intro H3 Z4
          walk_at "rd"
          refine sf_wakerN O (s := (come1 s w j).1) (L := (pf, .lst (vs ++ [.ref p2])) :: L) Z4 ?_
          intro H5 Z5
          refine ⟨rfl, ?_⟩
          have e5 : come s w j = ({ (come1 s w j).1 with waker := none }, (come1 s w j).2 ++ [(("back" : Str), (come1 s w j).1.number, kk)]) := by
            unfold come settle
            simp only [ek, if_pos e0]
          rw [e5] at k
          refine k F3 H5 pf _ (hL_out Z5) (s2.trans s3) ?_
          show TdA F3 (vs ++ [.ref p2]) (dLts ((come1 s w j).2 ++ [(("back" : Str), (come1 s w j).1.number, kk)]))
          unfold dLts
          rw [List.map_append]
          exact (hd.up s3).append (.cons (Td.mk_lt e3) .nil)
        · walk_at "rd"
          refine ⟨rfl, hstop ?_⟩
          unfold settle
          have e3 : (come1 s w j).1.waker = none := Option.isSome_eq_false_iff.mp e2 |> Option.isNone_iff_eq_none.mp
          rw [e3]
      · refine ifF rfl ?_
        walk_at "rd"
        refine ⟨rfl, hstop ?_⟩
        unfold settle
        split
        · rw [if_neg e0]
        · rfl
    · rintro σ2 H2 ⟨rfl, q⟩
      walk_at "rd"
      exact q
end SB
/-! Hand.__init__. -/
namespace SB
open PySem L2
def mkH (n : Int) (wt : Wt) (f : Bool) : HS := { number := n, word := wt.map (·.1), others := (wt.map (·.2)).getD [], first := f, free := wt.isNone, has := false, askers := [], told := [], owed := 0, waker := none }
/-- what a wait handed to a hand is -/
def WtIn (F : Hp) (L : List (Addr × HO)) (w : V) (wt : Wt) : Prop := (wt = none ∧ w = .non) ∨ ∃ b os p l, wt = some (b, os) ∧ w = .ref p ∧ F p = some (.tup [.str (wd b), .ref l]) ∧ (F l = some (.lst (os.map V.int)) ∨ (l, HO.lst (os.map V.int)) ∈ L)
def pr_Hand_init (K : PySem.W.Frag) (A : Ad) : V → V → V → V → Hp → VK → XK → Prop := fun x n w f H Q _ => ∃ (F0 H0 F : Hp) (L : List (Addr × HO)) (xa dx : Addr) (num : Int) (wt : Wt) (first : Bool), x = .ref xa ∧ n = .int num ∧ f = .bl first ∧ WtIn F L w wt ∧ Zs F0 H0 F H ((xa, .ins A.cHand dx []) :: L) ∧
  ∀ F' H' r, Zs F0 H0 F' H' (hL A r (mkH num wt first) L) → Same F F' → r.x = xa → F' r.o = some (.lst ((mkH num wt first).others.map V.int)) → Q .non H'
abbrev sp_Hand_init (K : PySem.W.Frag) (A : Ad) : Sp := sp4 (pr_Hand_init K A)
def t_Hand_init (K : PySem.W.Frag) (A : Ad) : TS :=
    (tSeq (sFld K (tVar 0) (tVar 1) "number")
    (tSeq (sFld K (tVar 0) (tC .non) "word")
    (tSeq (sFld K (tVar 0) (tLst tNil) "others")
    (Evl.tCut (tIfS (tTest (tOp qNotN (tVar 2) (tC .non)))
    (tSeq (sFld K (tVar 0) (tOp (rIxT K) (tVar 2) (tC (.int 0))) "word")
    (sFld K (tVar 0) (tCB (qListOf K) (tCons (tOp (rIxT K) (tVar 2) (tC (.int 1))) tNil)) "others"))
    tNext)
    (tSeq (sFld K (tVar 0) (tVar 3) "is_asker")
    (tSeq (sFld K (tVar 0) (tOp qIsN (tVar 2) (tC .non)) "is_freed")
    (tSeq (sFld K (tVar 0) (tC (.bl false)) "has_asked")
    (tSeq (sFld K (tVar 0) (tLst tNil) "askers")
    (tSeq (sFld K (tVar 0) (tLst tNil) "told_so")
    (tSeq (sFld K (tVar 0) (tC (.int 0)) "owed")
    (sFld K (tVar 0) (tC .non) "waker")))))))))))
theorem rd_Hand_init {K : PySem.W.Frag} {A : Ad} (O : HandOk K A) {x n w f : V} {H : Hp} {Q : VK} {E : XK} (h : pr_Hand_init K A x n w f H Q E) : t_Hand_init K A { nx := fun _ H' => Q .non H', rt := Q } [some x, some n, some w, some f] H := by
  obtain ⟨F0, H0, F, L, xa, dx, num, wt, first, rfl, rfl, rfl, hw, Z, k⟩ := h
  unfold t_Hand_init
  walk_at "rd"
  refine r_sfldQ O.cl O.number 0 Z rfl (by show 0 < 1000; decide) ?_
  intro H1 Z
  replace Z : Zs F0 H0 F H1 ((xa, .ins A.cHand dx [("number", .int num)]) :: L) := Z
  walk_at "rd"
  refine r_sfldQ O.cl O.word 0 Z rfl (by show 1 < 1000; decide) ?_
  intro H1 Z
  replace Z : Zs F0 H0 F H1 ((xa, .ins A.cHand dx [("number", .int num), ("word", .non)]) :: L) := Z
  walk_at "rd"
  refine r_mk sz0 Z ?_
  intro o1 H1 Z
  obtain ⟨F1, Z, s1, e1⟩ := Z.frzAt 0 rfl
  replace Z : Zs F0 H0 F1 H1 ((xa, .ins A.cHand dx [("number", .int num), ("word", .non)]) :: L) := Z
  walk_at "rd"
  refine r_sfldQ O.cl O.others 0 Z rfl (by show 2 < 1000; decide) ?_
  intro H1 Z
  replace Z : Zs F0 H0 F1 H1 ((xa, .ins A.cHand dx [("number", .int num), ("word", .non), ("others", .ref o1)]) :: L) := Z
  walk_at "rd"
  refine r_cut (fun σ' H' => σ' = [some (.ref xa), some (.int num), some w, some (.bl first)] ∧ ∃ F' o, Zs F0 H0 F' H' ((xa, .ins A.cHand dx [("number", .int num), ("word", wOf (wt.map (·.1))), ("others", .ref o)]) :: L) ∧ Same F F' ∧ F' o = some (.lst ((mkH num wt first).others.map V.int))) ?_ ?_
  · walk_at "rd"
    rcases hw with ⟨rfl, rfl⟩ | ⟨b, os, p, l, rfl, rfl, hp, hl⟩
    · refine ifF rfl ?_
      walk_at "rd"
      exact ⟨rfl, F1, o1, Z, s1, e1⟩
    · refine ifT rfl ?_
      walk_at "rd"
      refine r_ixT (SqT.of (Z.fix (s1 _ _ hp))) (at_i (by decide) rfl) ?_
      walk_at "rd"
      refine r_sfldQ O.cl O.word 0 Z rfl (by show 3 < 1000; decide) ?_
      intro H2 Z
      replace Z : Zs F0 H0 F1 H2 ((xa, .ins A.cHand dx [("number", .int num), ("word", .str (wd b)), ("others", .ref o1)]) :: L) := Z
      walk_at "rd"
      refine r_ixT (SqT.of (Z.fix (s1 _ _ hp))) (at_i (by decide) rfl) ?_
      walk_at "rd"
      refine r_listL (ys := os.map V.int) ?_ Z ?_
      · rcases hl with hl | hl
        · exact SqL.of (Z.fix (s1 _ _ hl))
        · exact SqL.of (Z.led _ (List.mem_cons_of_mem _ hl)).1
      intro o2 H3 Z
      obtain ⟨F2, Z, s2, e2⟩ := Z.frzAt 0 rfl
      replace Z : Zs F0 H0 F2 H3 ((xa, .ins A.cHand dx [("number", .int num), ("word", .str (wd b)), ("others", .ref o1)]) :: L) := Z
      walk_at "rd"
      refine r_sfldQ O.cl O.others 0 Z rfl (by show 3 < 1000; decide) ?_
      intro H4 Z
      replace Z : Zs F0 H0 F2 H4 ((xa, .ins A.cHand dx [("number", .int num), ("word", .str (wd b)), ("others", .ref o2)]) :: L) := Z
      exact ⟨rfl, F2, o2, Z, s1.trans s2, e2⟩
  · rintro σ' H2 ⟨rfl, F2, o, Z, s2, e2⟩
    have hn : decide (w = .non) = wt.isNone := by
      rcases hw with ⟨rfl, rfl⟩ | ⟨b, os, p, l, rfl, rfl, hp, hl⟩
      · rfl
      · rfl
    walk_at "rd"
    refine r_sfldQ O.cl O.first 0 Z rfl (by show 3 < 1000; decide) ?_
    intro H1 Z
    replace Z : Zs F0 H0 F2 H1 ((xa, .ins A.cHand dx [("number", .int num), ("word", wOf (wt.map (·.1))), ("others", .ref o), ("is_asker", .bl first)]) :: L) := Z
    walk_at "rd"
    rw [hn]
    refine r_sfldQ O.cl O.free 0 Z rfl (by show 4 < 1000; decide) ?_
    intro H1 Z
    replace Z : Zs F0 H0 F2 H1 ((xa, .ins A.cHand dx [("number", .int num), ("word", wOf (wt.map (·.1))), ("others", .ref o), ("is_asker", .bl first), ("is_freed", .bl wt.isNone)]) :: L) := Z
    walk_at "rd"
    refine r_sfldQ O.cl O.has 0 Z rfl (by show 5 < 1000; decide) ?_
    intro H1 Z
    replace Z : Zs F0 H0 F2 H1 ((xa, .ins A.cHand dx [("number", .int num), ("word", wOf (wt.map (·.1))), ("others", .ref o), ("is_asker", .bl first), ("is_freed", .bl wt.isNone), ("has_asked", .bl false)]) :: L) := Z
    walk_at "rd"
    refine r_mk sz0 Z ?_
    intro a H1 Z
    walk_at "rd"
    refine r_sfldQ O.cl O.askers 1 Z rfl (by show 6 < 1000; decide) ?_
    intro H1 Z
    replace Z : Zs F0 H0 F2 H1 ((a, .lst []) :: (xa, .ins A.cHand dx [("number", .int num), ("word", wOf (wt.map (·.1))), ("others", .ref o), ("is_asker", .bl first), ("is_freed", .bl wt.isNone), ("has_asked", .bl false), ("askers", .ref a)]) :: L) := Z
    walk_at "rd"
    refine r_mk sz0 Z ?_
    intro t H1 Z
    walk_at "rd"
    refine r_sfldQ O.cl O.told 2 Z rfl (by show 7 < 1000; decide) ?_
    intro H1 Z
    replace Z : Zs F0 H0 F2 H1 ((t, .lst []) :: (a, .lst []) :: (xa, .ins A.cHand dx [("number", .int num), ("word", wOf (wt.map (·.1))), ("others", .ref o), ("is_asker", .bl first), ("is_freed", .bl wt.isNone), ("has_asked", .bl false), ("askers", .ref a), ("told_so", .ref t)]) :: L) := Z
    walk_at "rd"
    refine r_sfldQ O.cl O.owed 2 Z rfl (by show 8 < 1000; decide) ?_
    intro H1 Z
    replace Z : Zs F0 H0 F2 H1 ((t, .lst []) :: (a, .lst []) :: (xa, .ins A.cHand dx [("number", .int num), ("word", wOf (wt.map (·.1))), ("others", .ref o), ("is_asker", .bl first), ("is_freed", .bl wt.isNone), ("has_asked", .bl false), ("askers", .ref a), ("told_so", .ref t), ("owed", .int 0)]) :: L) := Z
    walk_at "rd"
    refine r_sfldQ O.cl O.waker 2 Z rfl (by show 9 < 1000; decide) ?_
    intro H1 Z
    have Z1 : Zs F0 H0 F2 H1 ((t, .lst []) :: (a, .lst []) :: (xa, hI A ⟨xa, dx, o, a, t⟩ (mkH num wt first)) :: L) := Z
    refine k F2 H1 ⟨xa, dx, o, a, t⟩ (Z1.perm ?_) s2 rfl e2
    exact ((List.Perm.cons _ (List.Perm.swap _ _ _)).trans (List.Perm.swap _ _ _)).trans (List.Perm.cons _ (List.Perm.swap _ _ _))
end SB
/-! d.update(a dict): a rule of our own over the library's dict.update; short names. -/
namespace SB
open PySem PySem.Spec PyProof.Rows L2
/-- d.update(e) -/
def tDUpd (td te : TE) : TE := fun σ H Q => td σ H fun x H1 => ∃ a, x = .ref a ∧ IsD H1 a ∧ te σ H1 fun y H2 => ∃ b kvs more, y = .ref b ∧ a ≠ b ∧ H2 a = some (.dK kvs) ∧ H2 b = some (.dK more) ∧ kvs.length + more.length ≤ sizeLine ∧ Q .non (upd H2 a (.dK (mergeK kvs more)))
section
variable {X : Cx} {o e : Expr} {apos cpos : Pos} {td te : TE}
theorem pe_dupd (ho : PE X o td) (he : PE X e te) (m : M1 X o "update" apos e cpos) : PE X (.Call (.Attribute o "update" apos) [e] [] cpos) (tDUpd td te) := by
  refine ⟨fun pins s σ H Q I h => ?_⟩
  refine wpAny_Call_method m.base m.few m.line PySem.F.plainAttrs_dict PySem.F.slot_dict_update PySem.F.type_dict_update (thn (ho.run pins s σ H _ I h) fun u s1 ⟨x, H1, I1, rx, a, ex, d, q1⟩ => ?_)
  subst ex
  obtain rfl : u = Value.ref a := rx
  obtain ⟨t1, t2, _⟩ := isD_at I1 d
  refine ⟨t1, t2, ?_⟩
  rw [m.trees]
  refine Calls.callWith_builtin rfl (Calls.evalArgs_plain (Calls.spliced_cons (thn (he.run pins s1 σ H1 _ I1 q1) fun iv s2 ⟨y, H2, I2, ry, b, kvs, more, ey, ne, ea, eb, hz, q2⟩ => Calls.spliced_nil ?_)))
  subst ey
  obtain rfl : iv = Value.ref b := ry
  obtain ⟨z, hd, vs, rel, dd⟩ := dk_of I2.hok ea
  obtain ⟨z2, hd2, vs2, rel2, dd2⟩ := dk_of I2.hok eb
  refine call_meetsIn PySem.F.slot_dict_update dd.typeIs PySem.F.entry_dict_update (PySem.F.args_dict_update_2 _ _) (meets_dict_update (mixKind X.prog X.w) a b ne hd2) ⟨vs, vs2, dd, dd2, by rw [← rel.length, ← rel2.length]; exact hz, fun h' dd' _ hs => ⟨.non, _, ?_, rfl, q2⟩⟩
  have hz2 : (mergeK kvs more).length ≤ sizeLine := Nat.le_trans (length_mergeK more kvs) hz
  have hex : ∃ q, h'.get? a = some q := let ⟨q, _, _, hq, _⟩ := dd'; ⟨q, hq⟩
  exact d_write I2 (by rw [ea]; exact True.intro) hs hex (dk_new hz2 hd (rel2.merge rel) dd')
end
end SB
namespace SB
open PySem L2
def pr_cell_at (K : PySem.W.Frag) (A : Ad) : V → V → Hp → VK → XK → Prop := fun a b H Q _ => ∃ p ns k, a = .ref p ∧ b = .int k ∧ SqL K H p (ns.map V.int) ∧ 0 ≤ k ∧ Q (.int (cellAt ns k)) H
abbrev sp_cell_at (K : PySem.W.Frag) (A : Ad) : Sp := sp2 (pr_cell_at K A)
def t_cell_at (K : PySem.W.Frag) (A : Ad) : TS :=
    (tSeq (tIfS (tTest (tOp qLt (tVar 1) (tCB (qLen K) (tCons (tVar 0) tNil))))
    (tRet (tOp (rIxL K) (tVar 0) (tVar 1)))
    tNext)
    (tRet (tC (.int 0))))
theorem rd_cell_at {K : PySem.W.Frag} {A : Ad} {a b : V} {H : Hp} {Q : VK} {E : XK} (h : pr_cell_at K A a b H Q E) : t_cell_at K A { nx := fun _ H' => Q .non H', rt := Q } [some a, some b] H := by
  obtain ⟨p, ns, k, rfl, rfl, hs, h0, q⟩ := h
  unfold t_cell_at
  walk_at "rd"
  refine r_lenL hs ?_
  walk_at "rd"
  refine ifd (fun h => ?_) (fun h => ?_)
  · walk_at "rd"
    refine r_ixL hs (at_i h0 (cellAt_lt h0 (by simpa using h))) ?_
    exact q
  · walk_at "rd"
    rw [← cellAt_ge (ns := ns) (k := k) (by simpa using h)]
    exact q
end SB
/-! Law k05: its own keeping of one hand. -/
namespace SB
open PySem L2
/-- the law's dict: the hand's state, its word, who asked, whom letters went to, the letters to itself -/
structure DS where
  hs : HS
  wb : Bool
  asked : List Int
  out : List Int
  mine : List (Str × Int)
structure DR where
  d : Addr
  o : Addr
  a : Addr
  k : Addr
  t : Addr
  u : Addr
  m : Addr
def df (s : DS) (r : DR) : List (Key × V) := [(.inr "number", .int s.hs.number), (.inr "word", .str (wd s.wb)), (.inr "others", .ref r.o), (.inr "first", .bl s.hs.first), (.inr "free", .bl s.hs.free), (.inr "has", .bl s.hs.has), (.inr "askers", .ref r.a), (.inr "asked", .ref r.k), (.inr "told", .ref r.t), (.inr "owed", .int s.hs.owed), (.inr "waker", kOf s.hs.waker), (.inr "out", .ref r.u), (.inr "mine", .ref r.m)]
def dI (r : DR) (s : DS) : HO := .dK (df s r)
abbrev dL (r : DR) (s : DS) (ms : List V) (L : List (Addr × HO)) : List (Addr × HO) := (r.d, dI r s) :: (r.a, .lst (s.hs.askers.map V.int)) :: (r.k, .lst (s.asked.map V.int)) :: (r.t, .lst (s.hs.told.map V.int)) :: (r.u, .lst (s.out.map V.int)) :: (r.m, .lst ms) :: L
def dM (p : Str × Int) : PyData := .tuple [.str p.1, .int p.2]
section
variable {K : PySem.W.Frag} {A : Ad} {σ : St} {F0 H0 F H : Hp} {L : List (Addr × HO)} {Q : VK} {r : DR} {s : DS} {P : St → Hp → Prop} {n : Int} {b : Bool} {ms : List V}
theorem dg_number (e : H r.d = some (dI r s)) (q : Q (.int s.hs.number) H) : DGQ Q (.ref r.d) (.str "number") H := r_dgetQ e rfl q
theorem dg_word (e : H r.d = some (dI r s)) (q : Q (.str (wd s.wb)) H) : DGQ Q (.ref r.d) (.str "word") H := r_dgetQ e rfl q
theorem dg_others (e : H r.d = some (dI r s)) (q : Q (.ref r.o) H) : DGQ Q (.ref r.d) (.str "others") H := r_dgetQ e rfl q
theorem dg_first (e : H r.d = some (dI r s)) (q : Q (.bl s.hs.first) H) : DGQ Q (.ref r.d) (.str "first") H := r_dgetQ e rfl q
theorem dg_free (e : H r.d = some (dI r s)) (q : Q (.bl s.hs.free) H) : DGQ Q (.ref r.d) (.str "free") H := r_dgetQ e rfl q
theorem dg_has (e : H r.d = some (dI r s)) (q : Q (.bl s.hs.has) H) : DGQ Q (.ref r.d) (.str "has") H := r_dgetQ e rfl q
theorem dg_askers (e : H r.d = some (dI r s)) (q : Q (.ref r.a) H) : DGQ Q (.ref r.d) (.str "askers") H := r_dgetQ e rfl q
theorem dg_asked (e : H r.d = some (dI r s)) (q : Q (.ref r.k) H) : DGQ Q (.ref r.d) (.str "asked") H := r_dgetQ e rfl q
theorem dg_told (e : H r.d = some (dI r s)) (q : Q (.ref r.t) H) : DGQ Q (.ref r.d) (.str "told") H := r_dgetQ e rfl q
theorem dg_owed (e : H r.d = some (dI r s)) (q : Q (.int s.hs.owed) H) : DGQ Q (.ref r.d) (.str "owed") H := r_dgetQ e rfl q
theorem dg_waker (e : H r.d = some (dI r s)) (q : Q (kOf s.hs.waker) H) : DGQ Q (.ref r.d) (.str "waker") H := r_dgetQ e rfl q
theorem dg_out (e : H r.d = some (dI r s)) (q : Q (.ref r.u) H) : DGQ Q (.ref r.d) (.str "out") H := r_dgetQ e rfl q
theorem dg_mine (e : H r.d = some (dI r s)) (q : Q (.ref r.m) H) : DGQ Q (.ref r.d) (.str "mine") H := r_dgetQ e rfl q
theorem df_lt : (df s r).length < 100000 := by show 13 < 100000; decide
theorem dp_owed (Z : Zs F0 H0 F H (dL r s ms L)) (k : ∀ H', Zs F0 H0 F H' (dL r { s with hs := { s.hs with owed := n } } ms L) → P σ H') : DPQ (.int n) P σ (.ref r.d) (.str "owed") H := r_dputQ 0 Z rfl df_lt k
theorem dp_has (Z : Zs F0 H0 F H (dL r s ms L)) (k : ∀ H', Zs F0 H0 F H' (dL r { s with hs := { s.hs with has := b } } ms L) → P σ H') : DPQ (.bl b) P σ (.ref r.d) (.str "has") H := r_dputQ 0 Z rfl df_lt k
theorem dp_free (Z : Zs F0 H0 F H (dL r s ms L)) (k : ∀ H', Zs F0 H0 F H' (dL r { s with hs := { s.hs with free := b } } ms L) → P σ H') : DPQ (.bl b) P σ (.ref r.d) (.str "free") H := r_dputQ 0 Z rfl df_lt k
theorem dp_waker (Z : Zs F0 H0 F H (dL r s ms L)) (k : ∀ H', Zs F0 H0 F H' (dL r { s with hs := { s.hs with waker := some n } } ms L) → P σ H') : DPQ (.int n) P σ (.ref r.d) (.str "waker") H := r_dputQ 0 Z rfl df_lt k
theorem dp_wakerN (Z : Zs F0 H0 F H (dL r s ms L)) (k : ∀ H', Zs F0 H0 F H' (dL r { s with hs := { s.hs with waker := none } } ms L) → P σ H') : DPQ .non P σ (.ref r.d) (.str "waker") H := r_dputQ 0 Z rfl df_lt k
end
end SB
/-! Law k05: sent, sent_back, come by its own dict. -/
namespace SB
open PySem L2
def sentL (s : DS) (w : Str) (rs : List Int) : DS × List Lt := ({ s with hs := (posted s.hs w rs).1, out := s.out ++ rs, mine := s.mine ++ (rs.filter fun o => decide (o = s.hs.number)).map fun o => (w, o) }, (posted s.hs w rs).2)
def backL (s : DS) (j : Int) : DS × List Lt := ({ s with mine := s.mine ++ if j = s.hs.number then [(("back" : Str), j)] else [] }, [(("back" : Str), s.hs.number, j)])
def PostD (F0 H0 F : Hp) (L : List (Addr × HO)) (r : DR) (p : DS × List Lt) (Q : VK) : Prop := ∀ F' H' l vs ms, Zs F0 H0 F' H' ((l, .lst vs) :: dL r p.1 ms L) → Same F F' → TdA F' ms (p.1.mine.map dM) → TdA F' vs (dLts p.2) → Q (.ref l) H'
theorem dL_in {F0 H0 F H : Hp} {L : List (Addr × HO)} {r : DR} {s : DS} {ms : List V} {q : Addr × HO} (Z : Zs F0 H0 F H (q :: dL r s ms L)) : Zs F0 H0 F H (dL r s ms (q :: L)) :=
  Z.perm (List.perm_middle (a := q) (l₁ := dL r s ms []) (l₂ := L)).symm
theorem dL_out {F0 H0 F H : Hp} {L : List (Addr × HO)} {r : DR} {s : DS} {ms : List V} {q : Addr × HO} (Z : Zs F0 H0 F H (dL r s ms (q :: L))) : Zs F0 H0 F H (q :: dL r s ms L) :=
  Z.perm (List.perm_middle (a := q) (l₁ := dL r s ms []) (l₂ := L))
theorem dL_src {K : PySem.W.Frag} {F0 H0 F F' H' : Hp} {L : List (Addr × HO)} {r : DR} {s s' : DS} {ms : List V} {rs : List Int} {pb : Addr} (h : F pb = some (.lst (rs.map V.int)) ∨ (pb = r.a ∧ rs = s.hs.askers)) (Z : Zs F0 H0 F' H' (dL r s' ms L)) (e : s'.hs.askers = s.hs.askers) (sm : Same F F') : SqL K H' pb (rs.map V.int) := by
  rcases h with h | ⟨rfl, rfl⟩
  · exact SqL.of (Z.fix (sm _ _ h))
  · have := Z.get (i := 1) rfl
    rw [e] at this
    exact SqL.of this
theorem Td.mk_m {F : Hp} {a : Addr} {l : Str × Int} (h : F a = some (.tup [.str l.1, .int l.2])) : Td F (.ref a) (dM l) := .tup h (.cons (.str _) (.cons (.int _) .nil))
def pr_sent (K : PySem.W.Frag) (A : Ad) : V → V → V → Hp → VK → XK → Prop := fun d w b H Q _ => ∃ (F0 H0 F : Hp) (L : List (Addr × HO)) (r : DR) (s : DS) (ms : List V) (wo : Str) (rs : List Int) (pb : Addr), d = .ref r.d ∧ w = .str wo ∧ b = .ref pb ∧ Zs F0 H0 F H (dL r s ms L) ∧ TdA F ms (s.mine.map dM) ∧
  (F pb = some (.lst (rs.map V.int)) ∨ (pb = r.a ∧ rs = s.hs.askers)) ∧ rs.length ≤ 20000 ∧ s.out.length ≤ 40000 ∧ s.mine.length ≤ 40000 ∧ PostD F0 H0 F L r (sentL s wo rs) Q
abbrev sp_sent (K : PySem.W.Frag) (A : Ad) : Sp := sp3 (pr_sent K A)
def t_sent (K : PySem.W.Frag) (A : Ad) : TS :=
    (tSeq (sDPut (tVar 0) (tC (.str "owed")) (tOp qAdd (tDGet (tVar 0) (tC (.str "owed"))) (tCB (qLen K) (tCons (tVar 2) tNil))))
    (tSeq (tDrop (tBM K "list" rExtend (tDGet (tVar 0) (tC (.str "out"))) (tCons (tVar 2) tNil)))
    (tSeq (tDrop (tBM K "list" rExtend (tDGet (tVar 0) (tC (.str "mine"))) (tCons (tLc (iList K (tVar 2)) (gName 3) (tTest (tOp rEq (tVar 3) (tDGet (tVar 0) (tC (.str "number"))))) (tTup (tCons (tVar 1) (tCons (tVar 3) tNil))) [3]) tNil)))
    (tRet (tLc (iList K (tVar 2)) (gName 3) tYes (tTup (tCons (tVar 1) (tCons (tDGet (tVar 0) (tC (.str "number"))) (tCons (tVar 3) tNil)))) [3])))))
theorem rd_sent {K : PySem.W.Frag} {A : Ad} {d w b : V} {H : Hp} {Q : VK} {E : XK} (h : pr_sent K A d w b H Q E) : t_sent K A { nx := fun _ H' => Q .non H', rt := Q } [some d, some w, some b, none] H := by
  obtain ⟨F0, H0, F, L, r, s, ms, wo, rs, pb, rfl, rfl, rfl, Z, hm, hb, hn, ho, hmi, k⟩ := h
  unfold t_sent
  walk_at "rd"
  refine dg_owed (Z.get (i := 0) rfl) ?_
  walk_at "rd"
  refine r_lenL (dL_src hb Z rfl (Same.refl _)) ?_
  rw [List.length_map]
  walk_at "rd"
  refine dp_owed Z ?_
  intro H1 Z
  replace hb : F pb = some (.lst (rs.map V.int)) ∨ (pb = r.a ∧ rs = s.hs.askers) := hb
  walk_at "rd"
  refine dg_out (Z.get (i := 0) rfl) ?_
  refine ⟨ty_l (SqL.of (Z.get (i := 4) rfl)), ?_⟩
  walk_at "rd"
  have hsrc := dL_src (K := K) hb Z rfl (Same.refl _)
  have hb2 : H1 pb = some (.lst (rs.map V.int)) := by
    rcases hb with h | ⟨rfl, rfl⟩
    · exact Z.fix h
    · exact Z.get (i := 1) rfl
  refine r_extend 4 Z rfl hb2 (by rw [List.length_map, List.length_map]; show s.out.length + rs.length ≤ 100000; omega) ?_
  intro H2 Z
  replace Z : Zs F0 H0 F H2 (dL r { s with hs := (posted s.hs wo rs).1, out := s.out ++ rs } ms L) := by
    have q := Z
    simp only [List.set_cons_succ, List.set_cons_zero] at q
    show Zs F0 H0 F H2 ((r.d, _) :: (r.a, _) :: (r.k, _) :: (r.t, _) :: (r.u, .lst ((s.out ++ rs).map V.int)) :: (r.m, _) :: L)
    rw [List.map_append]
    exact q
  walk_at "rd"
  refine dg_mine (Z.get (i := 0) rfl) ?_
  refine ⟨ty_l (SqL.of (Z.get (i := 5) rfl)), ?_⟩
  walk_at "rd"
  refine lc_lst (dL_src hb Z rfl (Same.refl _)) Z (fun i acc F' => TdA F' acc ((((rs.take i).filter fun o => decide (o = s.hs.number)).map fun o => (wo, o)).map dM)) .nil (fun F' H' Z' sm => dL_src hb Z' rfl sm) ?_ ?_
  · intro i y Dl F' H' acc hi Z' sm hacc p
    obtain ⟨n, hn1, rfl⟩ := of_get_ints hi
    have hlt := (List.getElem?_eq_some_iff.mp hn1).1
    walk_at "rd"
    refine ⟨rfl, ?_⟩
    walk_at "rd"
    refine dg_number (Z'.get (i := 1) rfl) ?_
    walk_at "rd"
    refine ifd (fun e => ?_) (fun e => ?_)
    · replace e : n = s.hs.number := e
      walk_at "rd"
      refine r_mk sz2 Z' ?_
      intro p0 H2 Z2
      obtain ⟨F3, Z3, s3, e3⟩ := Z2.frzAt 0 rfl
      refine cy Z3 (sm.trans s3) hacc (by omega) ?_
      rw [take_snoc hn1, List.filter_append, List.filter_cons, if_pos (decide_eq_true e), List.filter_nil, List.map_append, List.map_append]
      exact (p.up s3).snoc (Td.mk_m (l := (wo, n)) e3)
    · replace e : ¬ n = s.hs.number := e
      refine cn Z' sm hacc ?_
      rw [take_snoc hn1, List.filter_append, List.filter_cons, if_neg (by rw [decide_eq_false e]; decide), List.filter_nil, List.append_nil]
      exact p
  · intro Dl F2 H3 acc Z2 s2 p
    rw [List.length_map, List.take_length] at p
    walk_at "rd"
    have hl1 := p.len
    have hl2 := hm.len
    rw [List.length_map, List.length_map] at hl1
    rw [List.length_map] at hl2
    have hl3 := List.length_filter_le (fun o => decide (o = s.hs.number)) rs
    refine r_extend 6 Z2 rfl (Z2.get (i := 0) rfl) (by omega) ?_
    intro H4 Z3
    replace Z3 : Zs F0 H0 F2 H4 (dL r (sentL s wo rs).1 (ms ++ acc) L) := Z3.drop
    have hm3 : TdA F2 (ms ++ acc) ((sentL s wo rs).1.mine.map dM) := by
      show TdA F2 (ms ++ acc) ((s.mine ++ _).map dM)
      rw [List.map_append]
      exact (hm.up s2).append p
    have hb3 : F2 pb = some (.lst (rs.map V.int)) ∨ (pb = r.a ∧ rs = s.hs.askers) := by
      rcases hb with h | h
      · exact .inl (s2 _ _ h)
      · exact .inr h
    clear hb2 hsrc
    walk_at "rd"
    refine lc_lst (dL_src hb3 Z3 rfl (Same.refl _)) Z3 (fun i acc F' => TdA F' acc ((dLts (posted s.hs wo rs).2).take i)) (by rw [List.take_zero]; exact .nil) (fun F' H' Z' sm => dL_src hb3 Z' rfl sm) ?_ ?_
    · intro i y Dl F' H' acc hi Z' sm hacc p
      obtain ⟨n, hn1, rfl⟩ := of_get_ints hi
      have hlt := (List.getElem?_eq_some_iff.mp hn1).1
      walk_at "rd"
      refine ⟨rfl, ?_⟩
      refine r_yes (ifT rfl ?_)
      walk_at "rd"
      refine dg_number (Z'.get (i := 1) rfl) ?_
      walk_at "rd"
      refine r_mk sz3 Z' ?_
      intro p0 H2 Z2
      obtain ⟨F3, Z3, s3, e3⟩ := Z2.frzAt 0 rfl
      refine cy Z3 (sm.trans s3) hacc (by omega) ?_
      have ed : (dLts (posted s.hs wo rs).2)[i]? = some (dLt (wo, s.hs.number, n)) := by
        unfold dLts posted
        rw [List.getElem?_map, List.getElem?_map, hn1] <;> rfl
      rw [take_snoc ed]
      exact (p.up s3).snoc (Td.mk_lt e3)
    · intro Dl F' H' acc Z' sm p
      refine k F' H' Dl acc _ Z' (s2.trans sm) (hm3.up sm) ?_
      rw [List.length_map] at p
      have e : (dLts (posted s.hs wo rs).2).length = rs.length := by rw [len_dLts, len_posted]
      rw [← e, List.take_length] at p
      exact p
def pr_sent_back (K : PySem.W.Frag) (A : Ad) : V → V → Hp → VK → XK → Prop := fun d j H Q _ => ∃ (F0 H0 F : Hp) (L : List (Addr × HO)) (r : DR) (s : DS) (ms : List V) (n : Int), d = .ref r.d ∧ j = .int n ∧ Zs F0 H0 F H (dL r s ms L) ∧ TdA F ms (s.mine.map dM) ∧ s.mine.length ≤ 90000 ∧ PostD F0 H0 F L r (backL s n) Q
abbrev sp_sent_back (K : PySem.W.Frag) (A : Ad) : Sp := sp2 (pr_sent_back K A)
def t_sent_back (K : PySem.W.Frag) (A : Ad) : TS :=
    (Evl.tCut (tIfS (tTest (tOp rEq (tVar 1) (tDGet (tVar 0) (tC (.str "number")))))
    (tDrop (tBM K "list" rAppend (tDGet (tVar 0) (tC (.str "mine"))) (tCons (tTup (tCons (tC (.str "back")) (tCons (tVar 1) tNil))) tNil)))
    tNext)
    (tRet (tLst (tCons (tTup (tCons (tC (.str "back")) (tCons (tDGet (tVar 0) (tC (.str "number"))) (tCons (tVar 1) tNil)))) tNil))))
theorem rd_sent_back {K : PySem.W.Frag} {A : Ad} {d j : V} {H : Hp} {Q : VK} {E : XK} (h : pr_sent_back K A d j H Q E) : t_sent_back K A { nx := fun _ H' => Q .non H', rt := Q } [some d, some j] H := by
  obtain ⟨F0, H0, F, L, r, s, ms, n, rfl, rfl, Z, hm, hmi, k⟩ := h
  unfold t_sent_back
  walk_at "rd"
  refine r_cut (fun σ' H' => σ' = [some (.ref r.d), some (.int n)] ∧ ∃ F' ms', Zs F0 H0 F' H' (dL r (backL s n).1 ms' L) ∧ Same F F' ∧ TdA F' ms' ((backL s n).1.mine.map dM)) ?_ ?_
  · walk_at "rd"
    refine dg_number (Z.get (i := 0) rfl) ?_
    walk_at "rd"
    refine ifd (fun e => ?_) (fun e => ?_)
    · walk_at "rd"
      refine dg_mine (Z.get (i := 0) rfl) ?_
      refine ⟨ty_l (SqL.of (Z.get (i := 5) rfl)), ?_⟩
      walk_at "rd"
      refine r_mk sz2 Z ?_
      intro p0 H2 Z2
      obtain ⟨F3, Z3, s3, e3⟩ := Z2.frzAt 0 rfl
      replace Z3 : Zs F0 H0 F3 H2 (dL r s ms L) := Z3
      walk_at "rd"
      refine r_append 5 Z3 rfl (by have := hm.len; rw [List.length_map] at this; omega) ?_
      intro H3 Z4
      replace Z4 : Zs F0 H0 F3 H3 (dL r (backL s n).1 (ms ++ [V.ref p0]) L) := Z4
      refine ⟨rfl, F3, ms ++ [V.ref p0], Z4, s3, ?_⟩
      unfold backL
      rw [if_pos e]
      show TdA F3 (ms ++ [.ref p0]) ((s.mine ++ _).map dM)
      rw [List.map_append]
      exact (hm.up s3).append (.cons (Td.mk_m (l := (("back" : Str), n)) e3) .nil)
    · walk_at "rd"
      refine ⟨rfl, F, ms, Z, Same.refl _, ?_⟩
      unfold backL
      rw [if_neg e]
      show TdA F ms ((s.mine ++ []).map dM)
      rw [List.append_nil]
      exact hm
  · rintro σ' H' ⟨rfl, F2, ms2, Z2, s2, hm2⟩
    walk_at "rd"
    refine dg_number (Z2.get (i := 0) rfl) ?_
    walk_at "rd"
    refine r_mk sz3 Z2 ?_
    intro p0 H2 Z3
    obtain ⟨F3, Z3, s3, e3⟩ := Z3.frzAt 0 rfl
    replace Z3 : Zs F0 H0 F3 H2 (dL r (backL s n).1 ms2 L) := Z3
    walk_at "rd"
    refine r_mk sz1 Z3 ?_
    intro p1 H3 Z4
    exact k F3 H3 p1 _ ms2 Z4 (s2.trans s3) (hm2.up s3) (.cons (Td.mk_lt (l := (("back" : Str), s.hs.number, n)) e3) .nil)
end SB
/-! Law k05: come by its own dict. -/
namespace SB
open PySem L2
def l1 (s : DS) (w : Str) (j : Int) : DS × List Lt :=
  if w = "back" then ({ s with hs := { s.hs with owed := s.hs.owed - 1 }, out := s.out.erase j }, [])
  else if (s.hs.first || s.hs.waker.isSome) = true then backL s j else ({ s with hs := { s.hs with waker := some j } }, [])
def l2 (s : DS) (w : Str) (j : Int) : DS × List Lt :=
  if w = "ask" then
    if s.hs.free = true then sentL { s with asked := s.asked ++ [j] } "freed" [j]
    else if s.hs.has = true then ({ s with asked := s.asked ++ [j], hs := { s.hs with askers := s.hs.askers ++ [j] } }, [])
    else sentL { s with asked := s.asked ++ [j], hs := { s.hs with askers := s.hs.askers ++ [j], has := true } } "ask" s.hs.others
  else (s, [])
def l3 (s : DS) (w : Str) (j : Int) : DS × List Lt :=
  if w = "freed" then
    if (!s.hs.free && (s.wb || decide (s.hs.told.length + 1 = s.hs.others.length))) = true then sentL { s with hs := { s.hs with told := s.hs.told ++ [j], free := true } } "freed" s.hs.askers
    else ({ s with hs := { s.hs with told := s.hs.told ++ [j] } }, [])
  else (s, [])
def l4 (s : DS) : DS × List Lt :=
  match s.hs.waker with
  | some k => if s.hs.owed = 0 then ({ (backL s k).1 with hs := { s.hs with waker := none } }, (backL s k).2) else (s, [])
  | none => (s, [])
def andThen (p : DS × List Lt) (f : DS → DS × List Lt) : DS × List Lt := ((f p.1).1, p.2 ++ (f p.1).2)
def comeL (s : DS) (w : Str) (j : Int) : DS × List Lt := andThen (andThen (andThen (l1 s w j) fun t => l2 t w j) fun t => l3 t w j) l4
structure DsF (F : Hp) (r : DR) (s : DS) : Prop where
  o : F r.o = some (.lst (s.hs.others.map V.int))
  no : s.hs.others.length ≤ 5000
  na : s.hs.askers.length ≤ 5000
  nt : s.hs.told.length ≤ 5000
  nk : s.asked.length ≤ 5000
  nu : s.out.length ≤ 5000
  nm : s.mine.length ≤ 5000
/-- in the midst: the list found so far behind the dict's cells -/
def DmW (F0 H0 F : Hp) (L : List (Addr × HO)) (r : DR) (pf : Addr) (p : DS × List Lt) (H' : Hp) : Prop := ∃ F' vs ms, Zs F0 H0 F' H' (dL r p.1 ms ((pf, .lst vs) :: L)) ∧ Same F F' ∧ TdA F' ms (p.1.mine.map dM) ∧ TdA F' vs (dLts p.2)
/-- found = found + a call -/
theorem dm_cat {F0 H0 F F1 H : Hp} {L : List (Addr × HO)} {r : DR} {pf l : Addr} {vs ws ms : List V} {p q : DS × List Lt} {Q : VK} (Z : Zs F0 H0 F1 H ((l, .lst ws) :: dL r q.1 ms ((pf, .lst vs) :: L))) (sm : Same F F1) (hm : TdA F1 ms (q.1.mine.map dM)) (h1 : TdA F1 vs (dLts p.2)) (h2 : TdA F1 ws (dLts q.2)) (hl : p.2.length + q.2.length ≤ 100000)
    (k : ∀ l2 H', DmW F0 H0 F L r l2 (q.1, p.2 ++ q.2) H' → Q (.ref l2) H') : rCat (.ref pf) (.ref l) H Q := by
  refine r_cat Z (Z.get (i := 7) rfl) (Z.get (i := 0) rfl) (by have a := h1.len; have b := h2.len; rw [len_dLts] at a b; omega) ?_
  intro l2 H2 Z2
  refine k l2 H2 ⟨F1, vs ++ ws, ms, ?_, sm, hm, ?_⟩
  · have Z3 : Zs F0 H0 F1 H2 ((l2, .lst (vs ++ ws)) :: dL r q.1 ms ((pf, .lst vs) :: L)) := Z2.dropAt 1
    have Z4 := dL_in Z3
    exact Z4.dropAt 7
  · show TdA F1 (vs ++ ws) (dLts (p.2 ++ q.2))
    unfold dLts
    rw [List.map_append]
    exact h1.append h2
/-- nothing is added -/
theorem dm_same {F0 H0 F : Hp} {L : List (Addr × HO)} {r : DR} {pf : Addr} {s : DS} {ls : List Lt} {H' : Hp} (h : DmW F0 H0 F L r pf (s, ls) H') : DmW F0 H0 F L r pf (s, ls ++ []) H' := by rw [List.append_nil]; exact h
theorem len_sentL {s : DS} {w : Str} {rs : List Int} : (sentL s w rs).2.length = rs.length := len_posted
theorem erase_ix : ∀ (l : List Int) (j : Int), j ∈ l → ∃ i, l[i]? = some j ∧ (∀ m : Nat, m < i → l[m]? ≠ some j) ∧ l.eraseIdx i = l.erase j
  | [], _, h => nomatch h
  | a :: l, j, h => by
    by_cases e : a = j
    · subst e
      exact ⟨0, rfl, fun m hm => absurd hm (Nat.not_lt_zero _), by rw [List.erase_cons_head]; rfl⟩
    · obtain ⟨i, h1, h2, h3⟩ := erase_ix l j (by rcases List.mem_cons.mp h with q | q; exact absurd q.symm e; exact q)
      refine ⟨i + 1, h1, fun m hm => ?_, ?_⟩
      · cases m with
        | zero => exact fun q => e (Option.some.inj q)
        | succ m => exact h2 m (by omega)
      · rw [List.erase_cons_tail (by simpa using e), List.eraseIdx_cons_succ, h3]
theorem len_sentM {s : DS} {w : Str} {rs : List Int} : (sentL s w rs).1.mine.length ≤ s.mine.length + rs.length := by
  show (s.mine ++ _).length ≤ _
  rw [List.length_append, List.length_map]
  have := List.length_filter_le (fun o => decide (o = s.hs.number)) rs
  omega
theorem dm_nil {F0 H0 F : Hp} {L : List (Addr × HO)} {r : DR} {pf : Addr} {p : DS × List Lt} {f : DS → DS × List Lt} {s' : DS} {H' : Hp} (e : f p.1 = (s', [])) (h : DmW F0 H0 F L r pf (s', p.2) H') : DmW F0 H0 F L r pf (andThen p f) H' := by
  unfold andThen
  rw [e, List.append_nil]
  exact h
def pr_come (K : PySem.W.Frag) (A : Ad) : V → V → V → Hp → VK → XK → Prop := fun d w j H Q _ => ∃ (F0 H0 F : Hp) (L : List (Addr × HO)) (r : DR) (s : DS) (ms : List V) (wo : Str) (n : Int), d = .ref r.d ∧ w = .str wo ∧ j = .int n ∧ Zs F0 H0 F H (dL r s ms L) ∧ TdA F ms (s.mine.map dM) ∧ DsF F r s ∧ (wo = "back" → n ∈ s.out) ∧
  PostD F0 H0 F L r (comeL s wo n) Q
abbrev sp_come (K : PySem.W.Frag) (A : Ad) : Sp := sp3 (pr_come K A)
def t_come (K : PySem.W.Frag) (A : Ad) : TS :=
    (tSeq (tAsg (tLst tNil) (gName 3))
    (Evl.tCut (tIfS (tTest (tOp rEq (tVar 1) (tC (.str "back"))))
    (tSeq (sDPut (tVar 0) (tC (.str "owed")) (tOp qSub (tDGet (tVar 0) (tC (.str "owed"))) (tC (.int 1))))
    (tDrop (tBM K "list" rRemI (tDGet (tVar 0) (tC (.str "out"))) (tCons (tVar 2) tNil))))
    (tIfS (tOr (tB (tDGet (tVar 0) (tC (.str "first")))) (tTest (tOp qNotN (tDGet (tVar 0) (tC (.str "waker"))) (tC .non))))
    (tAsg (tOp rCat (tVar 3) (tCall (sp_sent_back K A) [] E0 (tCons (tVar 0) (tCons (tVar 2) tNil)))) (gName 3))
    (sDPut (tVar 0) (tC (.str "waker")) (tVar 2))))
    (Evl.tCut (tIfS (tTest (tOp rEq (tVar 1) (tC (.str "ask"))))
    (tSeq (tDrop (tBM K "list" rAppend (tDGet (tVar 0) (tC (.str "asked"))) (tCons (tVar 2) tNil)))
    (tIfS (tB (tDGet (tVar 0) (tC (.str "free"))))
    (tAsg (tOp rCat (tVar 3) (tCall (sp_sent K A) [] E0 (tCons (tVar 0) (tCons (tC (.str "freed")) (tCons (tLst (tCons (tVar 2) tNil)) tNil))))) (gName 3))
    (tSeq (tDrop (tBM K "list" rAppend (tDGet (tVar 0) (tC (.str "askers"))) (tCons (tVar 2) tNil)))
    (tIfS (tNot (tB (tDGet (tVar 0) (tC (.str "has")))))
    (tSeq (sDPut (tVar 0) (tC (.str "has")) (tC (.bl true)))
    (tAsg (tOp rCat (tVar 3) (tCall (sp_sent K A) [] E0 (tCons (tVar 0) (tCons (tC (.str "ask")) (tCons (tDGet (tVar 0) (tC (.str "others"))) tNil))))) (gName 3)))
    tNext))))
    tNext)
    (Evl.tCut (tIfS (tTest (tOp rEq (tVar 1) (tC (.str "freed"))))
    (tSeq (tDrop (tBM K "list" rAppend (tDGet (tVar 0) (tC (.str "told"))) (tCons (tVar 2) tNil)))
    (tIfS (tAnd (tNot (tB (tDGet (tVar 0) (tC (.str "free"))))) (tOr (tTest (tOp rEq (tDGet (tVar 0) (tC (.str "word"))) (tC (.str "any")))) (tTest (tOp rEq (tCB (qLen K) (tCons (tDGet (tVar 0) (tC (.str "told"))) tNil)) (tCB (qLen K) (tCons (tDGet (tVar 0) (tC (.str "others"))) tNil))))))
    (tSeq (sDPut (tVar 0) (tC (.str "free")) (tC (.bl true)))
    (tAsg (tOp rCat (tVar 3) (tCall (sp_sent K A) [] E0 (tCons (tVar 0) (tCons (tC (.str "freed")) (tCons (tDGet (tVar 0) (tC (.str "askers"))) tNil))))) (gName 3)))
    tNext))
    tNext)
    (Evl.tCut (tIfS (tAnd (tTest (tOp rEq (tDGet (tVar 0) (tC (.str "owed"))) (tC (.int 0)))) (tTest (tOp qNotN (tDGet (tVar 0) (tC (.str "waker"))) (tC .non))))
    (tSeq (tAsg (tOp rCat (tVar 3) (tCall (sp_sent_back K A) [] E0 (tCons (tVar 0) (tCons (tDGet (tVar 0) (tC (.str "waker"))) tNil)))) (gName 3))
    (sDPut (tVar 0) (tC (.str "waker")) (tC .non)))
    tNext)
    (tRet (tVar 3)))))))
theorem l1_b {s : DS} {w : Str} {j : Int} : (l1 s w j).1.hs.others = s.hs.others ∧ (l1 s w j).1.hs.askers = s.hs.askers ∧ (l1 s w j).1.hs.told = s.hs.told ∧ (l1 s w j).1.asked = s.asked ∧ (l1 s w j).1.out.length ≤ s.out.length ∧ (l1 s w j).1.mine.length ≤ s.mine.length + 1 ∧ (l1 s w j).2.length ≤ 1 := by
  unfold l1 backL
  split
  · exact ⟨rfl, rfl, rfl, rfl, List.length_erase_le, Nat.le_succ _, Nat.zero_le _⟩
  · split
    · refine ⟨rfl, rfl, rfl, rfl, Nat.le_refl _, ?_, Nat.le_refl _⟩
      show (s.mine ++ _).length ≤ _
      rw [List.length_append]
      split
      · exact Nat.le_refl _
      · exact Nat.le_succ _
    · exact ⟨rfl, rfl, rfl, rfl, Nat.le_refl _, Nat.le_succ _, Nat.zero_le _⟩
theorem l2_b {s : DS} {w : Str} {j : Int} : (l2 s w j).1.hs.others = s.hs.others ∧ (l2 s w j).1.hs.askers.length ≤ s.hs.askers.length + 1 ∧ (l2 s w j).1.hs.told = s.hs.told ∧ (l2 s w j).1.asked.length ≤ s.asked.length + 1 ∧ (l2 s w j).1.out.length ≤ s.out.length + (s.hs.others.length + 1) ∧ (l2 s w j).1.mine.length ≤ s.mine.length + (s.hs.others.length + 1) ∧ (l2 s w j).2.length ≤ s.hs.others.length + 1 := by
  unfold l2
  split
  · split
    · refine ⟨rfl, Nat.le_succ _, rfl, ?_, ?_, ?_, ?_⟩
      · show (s.asked ++ [j]).length ≤ _
        rw [List.length_append]; exact Nat.le_refl _
      · show (s.out ++ [j]).length ≤ _
        rw [List.length_append, List.length_singleton]; omega
      · exact Nat.le_trans len_sentM (by show s.mine.length + 1 ≤ _; omega)
      · rw [len_sentL]; show 1 ≤ _; omega
    · split
      · refine ⟨rfl, ?_, rfl, ?_, ?_, ?_, Nat.zero_le _⟩
        · show (s.hs.askers ++ [j]).length ≤ _
          rw [List.length_append]; exact Nat.le_refl _
        · show (s.asked ++ [j]).length ≤ _
          rw [List.length_append]; exact Nat.le_refl _
        · exact Nat.le_add_right _ _
        · exact Nat.le_add_right _ _
      · refine ⟨rfl, ?_, rfl, ?_, ?_, ?_, ?_⟩
        · show (s.hs.askers ++ [j]).length ≤ _
          rw [List.length_append]; exact Nat.le_refl _
        · show (s.asked ++ [j]).length ≤ _
          rw [List.length_append]; exact Nat.le_refl _
        · show (s.out ++ s.hs.others).length ≤ _
          rw [List.length_append]; omega
        · exact Nat.le_trans len_sentM (by show s.mine.length + s.hs.others.length ≤ _; omega)
        · rw [len_sentL]; exact Nat.le_succ _
  · exact ⟨rfl, Nat.le_succ _, rfl, Nat.le_succ _, Nat.le_add_right _ _, Nat.le_add_right _ _, Nat.zero_le _⟩
theorem l3_b {s : DS} {w : Str} {j : Int} : (l3 s w j).1.hs.others = s.hs.others ∧ (l3 s w j).1.hs.askers = s.hs.askers ∧ (l3 s w j).1.hs.told.length ≤ s.hs.told.length + 1 ∧ (l3 s w j).1.asked = s.asked ∧ (l3 s w j).1.out.length ≤ s.out.length + s.hs.askers.length ∧ (l3 s w j).1.mine.length ≤ s.mine.length + s.hs.askers.length ∧ (l3 s w j).2.length ≤ s.hs.askers.length := by
  unfold l3
  split
  · split
    · refine ⟨rfl, rfl, ?_, rfl, ?_, ?_, ?_⟩
      · show (s.hs.told ++ [j]).length ≤ _
        rw [List.length_append]; exact Nat.le_refl _
      · show (s.out ++ s.hs.askers).length ≤ _
        rw [List.length_append]; omega
      · exact Nat.le_trans len_sentM (Nat.le_refl _)
      · rw [len_sentL]; exact Nat.le_refl _
    · refine ⟨rfl, rfl, ?_, rfl, Nat.le_add_right _ _, Nat.le_add_right _ _, Nat.zero_le _⟩
      show (s.hs.told ++ [j]).length ≤ _
      rw [List.length_append]; exact Nat.le_refl _
  · exact ⟨rfl, rfl, Nat.le_succ _, rfl, Nat.le_add_right _ _, Nat.le_add_right _ _, Nat.zero_le _⟩
theorem rd_come {K : PySem.W.Frag} {A : Ad} {d w j : V} {H : Hp} {Q : VK} {E : XK} (h : pr_come K A d w j H Q E) : t_come K A { nx := fun _ H' => Q .non H', rt := Q } [some d, some w, some j, none] H := by
  obtain ⟨F0, H0, F, L, r, s, ms, w, n, rfl, rfl, rfl, Z, hm, hs, hout, k⟩ := h
  unfold t_come
  walk_at "rd"
  refine r_mk sz0 Z ?_
  intro pf H1 Z
  replace Z := dL_in Z
  walk_at "rd"
  have ho := hs.no
  have ha := hs.na
  have ht := hs.nt
  have hk := hs.nk
  have hu := hs.nu
  have hmi := hs.nm
  refine r_cut (fun σ' H' => ∃ pf, σ' = [some (.ref r.d), some (.str w), some (.int n), some (.ref pf)] ∧ DmW F0 H0 F L r pf (l1 s w n) H') ?_ ?_
  · walk_at "rd"
    refine ifd (fun ew => ?_) (fun ew => ?_)
    · walk_at "rd"
      refine dg_owed (Z.get (i := 0) rfl) ?_
      walk_at "rd"
      refine dp_owed Z ?_
      intro H2 Z2
      walk_at "rd"
      refine dg_out (Z2.get (i := 0) rfl) ?_
      refine ⟨ty_l (SqL.of (Z2.get (i := 4) rfl)), ?_⟩
      walk_at "rd"
      obtain ⟨i, e1, e2, e3⟩ := erase_ix s.out n (hout ew)
      refine r_remI 4 Z2 rfl e1 e2 ?_
      intro H3 Z3
      have e : l1 s w n = ({ s with hs := { s.hs with owed := s.hs.owed - 1 }, out := s.out.erase n }, []) := by unfold l1; rw [if_pos ew]
      rw [e]
      refine ⟨pf, rfl, F, [], ms, ?_, Same.refl _, hm, .nil⟩
      rw [e3] at Z3
      exact Z3
    · walk_at "rd"
      refine dg_first (Z.get (i := 0) rfl) ?_
      walk_at "rd"
      have hyes : ∀ (σ : St), σ = [some (V.ref r.d), some (.str w), some (.int n), some (.ref pf)] → (s.hs.first || s.hs.waker.isSome) = true → tAsg (tOp rCat (tVar 3) (tCall (sp_sent_back K A) [] E0 (tCons (tVar 0) (tCons (tVar 2) tNil)))) (gName 3) { nx := fun σ' H' => ∃ pf, σ' = [some (.ref r.d), some (.str w), some (.int n), some (.ref pf)] ∧ DmW F0 H0 F L r pf (l1 s w n) H', rt := Q } σ H1 := fun σ e0 e => by
        subst e0
        have e1 : l1 s w n = backL s n := by unfold l1; rw [if_neg ew, if_pos e]
        rw [e1]
        walk_at "rd"
        refine ⟨F0, H0, F, (pf, .lst []) :: L, r, s, ms, n, rfl, rfl, Z, hm, by omega, ?_⟩
        intro F2 H2 l ws ms2 Z2 s2 hm2 hw2
        refine dm_cat (p := (s, [])) Z2 s2 hm2 .nil hw2 (by show 0 + 1 ≤ 100000; decide) ?_
        intro l3 H3 q
        walk_at "rd"
        exact ⟨l3, rfl, q⟩
      refine ifb (fun e => ?_) (fun e => ?_)
      · refine ifT rfl ?_
        exact hyes _ rfl (by rw [show s.hs.first = true from e]; rfl)
      · walk_at "rd"
        refine dg_waker (Z.get (i := 0) rfl) ?_
        walk_at "rd"
        rw [dec_kOf, Bool.not_not]
        refine ifb (fun e2 => ?_) (fun e2 => ?_)
        · exact hyes _ rfl (by rw [show s.hs.waker.isSome = true from e2, Bool.or_true])
        · walk_at "rd"
          refine dp_waker Z ?_
          intro H2 Z2
          have e1 : l1 s w n = ({ s with hs := { s.hs with waker := some n } }, []) := by unfold l1; rw [if_neg ew, if_neg (by rw [show s.hs.first = false from e, show s.hs.waker.isSome = false from e2]; decide)]
          rw [e1]
          exact ⟨pf, rfl, F, [], ms, Z2, Same.refl _, hm, .nil⟩
  · rintro σ' H' ⟨pf, rfl, F2, vs, ms2, Z2, s2, hm2, hv2⟩
    obtain ⟨b1, b2, b3, b4, b5, b6, b7⟩ := l1_b (s := s) (w := w) (j := n)
    generalize e1 : l1 s w n = p1 at *
    refine r_cut (fun σ' H' => ∃ pf, σ' = [some (.ref r.d), some (.str w), some (.int n), some (.ref pf)] ∧ DmW F0 H0 F L r pf (andThen p1 fun t => l2 t w n) H') ?_ ?_
    · walk_at "rd"
      refine ifd (fun ew => ?_) (fun ew => ?_)
      · walk_at "rd"
        refine dg_asked (Z2.get (i := 0) rfl) ?_
        refine ⟨ty_l (SqL.of (Z2.get (i := 2) rfl)), ?_⟩
        walk_at "rd"
        refine r_append 2 Z2 rfl (by rw [List.length_map, b4]; omega) ?_
        intro H3 Z3
        replace Z3 : Zs F0 H0 F2 H3 (dL r { p1.1 with asked := p1.1.asked ++ [n] } ms2 ((pf, .lst vs) :: L)) := by
          show Zs F0 H0 F2 H3 ((r.d, _) :: (r.a, _) :: (r.k, .lst ((p1.1.asked ++ [n]).map V.int)) :: (r.t, _) :: (r.u, _) :: (r.m, _) :: _)
          rw [List.map_append]
          exact Z3
        walk_at "rd"
        refine dg_free (Z3.get (i := 0) rfl) ?_
        walk_at "rd"
        refine ifb (fun e => ?_) (fun e => ?_)
        · replace e : p1.1.hs.free = true := e
          have e2 : (l2 p1.1 w n) = sentL { p1.1 with asked := p1.1.asked ++ [n] } "freed" [n] := by unfold l2; rw [if_pos ew, if_pos e]
          walk_at "rd"
          refine r_mk sz1 Z3 ?_
          intro p H4 Z4
          obtain ⟨F4, Z4, s4, e4⟩ := Z4.frzAt 0 rfl
          replace Z4 : Zs F0 H0 F4 H4 (dL r { p1.1 with asked := p1.1.asked ++ [n] } ms2 ((pf, .lst vs) :: L)) := Z4
          walk_at "rd"
          refine ⟨F0, H0, F4, (pf, .lst vs) :: L, r, { p1.1 with asked := p1.1.asked ++ [n] }, ms2, "freed", [n], p, rfl, rfl, rfl, Z4, hm2.up s4, .inl e4, by show 1 ≤ 20000; decide, by show p1.1.out.length ≤ _; omega, by show p1.1.mine.length ≤ _; omega, ?_⟩
          rw [← e2]
          intro F5 H5 l ws ms5 Z5 s5 hm5 hw5
          refine dm_cat (p := p1) Z5 ((s2.trans s4).trans s5) hm5 (hv2.up (s4.trans s5)) hw5 (by rw [e2, len_sentL]; show p1.2.length + 1 ≤ 100000; omega) ?_
          intro l3 H3 q
          walk_at "rd"
          exact ⟨l3, rfl, q⟩
        · replace e : p1.1.hs.free = false := e
          walk_at "rd"
          refine dg_askers (Z3.get (i := 0) rfl) ?_
          refine ⟨ty_l (SqL.of (Z3.get (i := 1) rfl)), ?_⟩
          walk_at "rd"
          refine r_append 1 Z3 rfl (by rw [List.length_map]; show p1.1.hs.askers.length < _; rw [b2]; omega) ?_
          intro H4 Z4
          replace Z4 : Zs F0 H0 F2 H4 (dL r { p1.1 with asked := p1.1.asked ++ [n], hs := { p1.1.hs with askers := p1.1.hs.askers ++ [n] } } ms2 ((pf, .lst vs) :: L)) := by
            show Zs F0 H0 F2 H4 ((r.d, _) :: (r.a, .lst ((p1.1.hs.askers ++ [n]).map V.int)) :: (r.k, _) :: (r.t, _) :: (r.u, _) :: (r.m, _) :: _)
            rw [List.map_append]
            exact Z4
          walk_at "rd"
          refine dg_has (Z4.get (i := 0) rfl) ?_
          walk_at "rd"
          refine ifnb (fun e3 => ?_) (fun e3 => ?_)
          · replace e3 : p1.1.hs.has = false := e3
            have e2 : (l2 p1.1 w n) = sentL { p1.1 with asked := p1.1.asked ++ [n], hs := { p1.1.hs with askers := p1.1.hs.askers ++ [n], has := true } } "ask" p1.1.hs.others := by unfold l2; rw [if_pos ew, if_neg (by rw [e]; decide), if_neg (by rw [e3]; decide)]
            walk_at "rd"
            refine dp_has Z4 ?_
            intro H5 Z5
            walk_at "rd"
            refine dg_others (Z5.get (i := 0) rfl) ?_
            walk_at "rd"
            refine ⟨F0, H0, F2, (pf, .lst vs) :: L, r, { p1.1 with asked := p1.1.asked ++ [n], hs := { p1.1.hs with askers := p1.1.hs.askers ++ [n], has := true } }, ms2, "ask", p1.1.hs.others, r.o, rfl, rfl, rfl, Z5, hm2, .inl (by rw [b1]; exact s2 _ _ hs.o), by rw [b1]; omega, by show p1.1.out.length ≤ _; omega, by show p1.1.mine.length ≤ _; omega, ?_⟩
            rw [← e2]
            intro F5 H5 l ws ms5 Z5 s5 hm5 hw5
            refine dm_cat (p := p1) Z5 (s2.trans s5) hm5 (hv2.up s5) hw5 (by rw [e2, len_sentL, b1]; omega) ?_
            intro l3 H3 q
            walk_at "rd"
            exact ⟨l3, rfl, q⟩
          · replace e3 : p1.1.hs.has = true := e3
            have e2 : (l2 p1.1 w n) = ({ p1.1 with asked := p1.1.asked ++ [n], hs := { p1.1.hs with askers := p1.1.hs.askers ++ [n] } }, []) := by unfold l2; rw [if_pos ew, if_neg (by rw [e]; decide), if_pos e3]
            walk_at "rd"
            exact ⟨pf, rfl, dm_nil e2 ⟨F2, vs, ms2, Z4, s2, hm2, hv2⟩⟩
      · have e2 : (l2 p1.1 w n) = (p1.1, []) := by unfold l2; rw [if_neg ew]
        walk_at "rd"
        exact ⟨pf, rfl, dm_nil e2 ⟨F2, vs, ms2, Z2, s2, hm2, hv2⟩⟩
    · rintro σ' H' ⟨pf, rfl, F2, vs, ms2, Z2, s2, hm2, hv2⟩
      obtain ⟨c1, c2, c3, c4, c5, c6, c7⟩ := l2_b (s := p1.1) (w := w) (j := n)
      have c8 : (andThen p1 fun t => l2 t w n).2.length ≤ s.hs.others.length + 2 := by
        show (p1.2 ++ (l2 p1.1 w n).2).length ≤ _
        rw [List.length_append]
        rw [b1] at c7
        omega
      have d1 : (andThen p1 fun t => l2 t w n).1 = (l2 p1.1 w n).1 := rfl
      rw [← d1] at c1 c2 c3 c4 c5 c6
      generalize e9 : (andThen p1 fun t => l2 t w n) = p2 at *
      rw [b1] at c1 c5 c6
      rw [b2] at c2
      rw [b3] at c3
      rw [b4] at c4
      refine r_cut (fun σ' H' => ∃ pf, σ' = [some (.ref r.d), some (.str w), some (.int n), some (.ref pf)] ∧ DmW F0 H0 F L r pf (andThen p2 fun t => l3 t w n) H') ?_ ?_
      · walk_at "rd"
        refine ifd (fun ew => ?_) (fun ew => ?_)
        · walk_at "rd"
          refine dg_told (Z2.get (i := 0) rfl) ?_
          refine ⟨ty_l (SqL.of (Z2.get (i := 3) rfl)), ?_⟩
          walk_at "rd"
          refine r_append 3 Z2 rfl (by rw [List.length_map, c3]; omega) ?_
          intro H3 Z3
          replace Z3 : Zs F0 H0 F2 H3 (dL r { p2.1 with hs := { p2.1.hs with told := p2.1.hs.told ++ [n] } } ms2 ((pf, .lst vs) :: L)) := by
            show Zs F0 H0 F2 H3 ((r.d, _) :: (r.a, _) :: (r.k, _) :: (r.t, .lst ((p2.1.hs.told ++ [n]).map V.int)) :: (r.u, _) :: (r.m, _) :: _)
            rw [List.map_append]
            exact Z3
          walk_at "rd"
          refine dg_free (Z3.get (i := 0) rfl) ?_
          walk_at "rd"
          have hno : (!p2.1.hs.free && (p2.1.wb || decide (p2.1.hs.told.length + 1 = p2.1.hs.others.length))) = false → ∃ pf', [some (V.ref r.d), some (.str w), some (.int n), some (.ref pf)] = [some (.ref r.d), some (.str w), some (.int n), some (.ref pf')] ∧ DmW F0 H0 F L r pf' (andThen p2 fun t => l3 t w n) H3 := fun e => by
            have e2 : l3 p2.1 w n = ({ p2.1 with hs := { p2.1.hs with told := p2.1.hs.told ++ [n] } }, []) := by unfold l3; rw [if_pos ew, if_neg (by rw [e]; decide)]
            exact ⟨pf, rfl, dm_nil e2 ⟨F2, vs, ms2, Z3, s2, hm2, hv2⟩⟩
          have hyes : ∀ (σ : St), σ = [some (V.ref r.d), some (.str w), some (.int n), some (.ref pf)] → (!p2.1.hs.free && (p2.1.wb || decide (p2.1.hs.told.length + 1 = p2.1.hs.others.length))) = true → tSeq (sDPut (tVar 0) (tC (.str "free")) (tC (.bl true))) (tAsg (tOp rCat (tVar 3) (tCall (sp_sent K A) [] E0 (tCons (tVar 0) (tCons (tC (.str "freed")) (tCons (tDGet (tVar 0) (tC (.str "askers"))) tNil))))) (gName 3)) { nx := fun σ' H' => ∃ pf, σ' = [some (.ref r.d), some (.str w), some (.int n), some (.ref pf)] ∧ DmW F0 H0 F L r pf (andThen p2 fun t => l3 t w n) H', rt := Q } σ H3 := fun σ e0 e => by
            subst e0
            have e2 : l3 p2.1 w n = sentL { p2.1 with hs := { p2.1.hs with told := p2.1.hs.told ++ [n], free := true } } "freed" p2.1.hs.askers := by unfold l3; rw [if_pos ew, if_pos e]
            walk_at "rd"
            refine dp_free Z3 ?_
            intro H5 Z5
            walk_at "rd"
            refine dg_askers (Z5.get (i := 0) rfl) ?_
            walk_at "rd"
            refine ⟨F0, H0, F2, (pf, .lst vs) :: L, r, { p2.1 with hs := { p2.1.hs with told := p2.1.hs.told ++ [n], free := true } }, ms2, "freed", p2.1.hs.askers, r.a, rfl, rfl, rfl, Z5, hm2, .inr ⟨rfl, rfl⟩, by omega, by show p2.1.out.length ≤ _; omega, by show p2.1.mine.length ≤ _; omega, ?_⟩
            rw [← e2]
            intro F5 H5 l ws ms5 Z5 s5 hm5 hw5
            refine dm_cat (p := p2) Z5 (s2.trans s5) hm5 (hv2.up s5) hw5 (by rw [e2, len_sentL]; omega) ?_
            intro l3 H3 q
            walk_at "rd"
            exact ⟨l3, rfl, q⟩
          refine ifnb (fun e => ?_) (fun e => ?_)
          · replace e : p2.1.hs.free = false := e
            walk_at "rd"
            refine dg_word (Z3.get (i := 0) rfl) ?_
            walk_at "rd"
            refine ifd (fun e2 => ?_) (fun e2 => ?_) 
            · replace e2 : p2.1.wb = true := by rw [← wd_any p2.1.wb]; exact decide_eq_true e2
              refine ifT rfl ?_
              exact hyes _ rfl (by rw [e, show p2.1.wb = true from e2]; rfl)
            · replace e2 : p2.1.wb = false := by rw [← wd_any p2.1.wb]; exact decide_eq_false e2
              walk_at "rd"
              refine dg_told (Z3.get (i := 0) rfl) ?_
              walk_at "rd"
              refine r_lenL (SqL.of (Z3.get (i := 3) rfl)) ?_
              walk_at "rd"
              refine dg_others (Z3.get (i := 0) rfl) ?_
              walk_at "rd"
              refine r_lenL (ys := p2.1.hs.others.map V.int) (SqL.of (Z3.fix (by rw [c1]; exact s2 _ _ hs.o))) ?_
              walk_at "rd"
              rw [List.length_map, List.length_map, List.length_append, List.length_singleton]
              refine ifd (fun e3 => ?_) (fun e3 => ?_)
              · exact hyes _ rfl (by rw [e, show p2.1.wb = false from e2, decide_eq_true (show p2.1.hs.told.length + 1 = p2.1.hs.others.length by omega)]; rfl)
              · walk_at "rd"
                exact hno (by rw [e, show p2.1.wb = false from e2, decide_eq_false (show ¬ p2.1.hs.told.length + 1 = p2.1.hs.others.length by omega)]; rfl)
          · replace e : p2.1.hs.free = true := e
            refine ifF rfl ?_
            walk_at "rd"
            exact hno (by rw [e]; rfl)
        · have e2 : (l3 p2.1 w n) = (p2.1, []) := by unfold l3; rw [if_neg ew]
          walk_at "rd"
          exact ⟨pf, rfl, dm_nil e2 ⟨F2, vs, ms2, Z2, s2, hm2, hv2⟩⟩
      · rintro σ' H' ⟨pf, rfl, F2, vs, ms2, Z2, s2, hm2, hv2⟩
        obtain ⟨g1, g2, g3, g4, g5, g6, g7⟩ := l3_b (s := p2.1) (w := w) (j := n)
        have g8 : (andThen p2 fun t => l3 t w n).2.length ≤ s.hs.others.length + 2 + (s.hs.askers.length + 1) := by
          show (p2.2 ++ (l3 p2.1 w n).2).length ≤ _
          rw [List.length_append]
          omega
        have d1 : (andThen p2 fun t => l3 t w n).1 = (l3 p2.1 w n).1 := rfl
        rw [← d1] at g1 g2 g3 g4 g5 g6
        generalize e10 : (andThen p2 fun t => l3 t w n) = p3 at *
        have ec : comeL s w n = andThen p3 l4 := by unfold comeL; rw [e1, e9, e10]
        rw [ec] at k
        refine r_cut (fun σ' H' => ∃ pf, σ' = [some (.ref r.d), some (.str w), some (.int n), some (.ref pf)] ∧ DmW F0 H0 F L r pf (andThen p3 l4) H') ?_ ?_
        · walk_at "rd"
          refine dg_owed (Z2.get (i := 0) rfl) ?_
          walk_at "rd"
          refine ifd (fun e0 => ?_) (fun e0 => ?_)
          · walk_at "rd"
            refine dg_waker (Z2.get (i := 0) rfl) ?_
            walk_at "rd"
            rw [dec_kOf, Bool.not_not]
            refine ifb (fun e2 => ?_) (fun e2 => ?_)
            · obtain ⟨kk, ek⟩ := Option.isSome_iff_exists.mp e2
              have e4 : l4 p3.1 = ({ (backL p3.1 kk).1 with hs := { p3.1.hs with waker := none } }, (backL p3.1 kk).2) := by unfold l4; rw [ek]; simp only [if_pos e0]
              walk_at "rd"
              refine dg_waker (Z2.get (i := 0) rfl) ?_
              rw [ek]
              walk_at "rd"
              refine ⟨F0, H0, F2, (pf, .lst vs) :: L, r, p3.1, ms2, kk, rfl, rfl, Z2, hm2, by omega, ?_⟩
              intro F5 H5 l ws ms5 Z5 s5 hm5 hw5
              refine dm_cat (p := p3) Z5 (s2.trans s5) hm5 (hv2.up s5) hw5 (by show p3.2.length + 1 ≤ 100000; omega) ?_
              rintro l3 H3 ⟨F6, vs6, ms6, Z6, s6, hm6, hv6⟩
              walk_at "rd"
              refine dp_wakerN Z6 ?_
              intro H7 Z7
              refine ⟨l3, rfl, F6, vs6, ms6, ?_, s6, ?_, ?_⟩
              · show Zs F0 H0 F6 H7 (dL r (l4 p3.1).1 ms6 _)
                rw [e4]
                exact Z7
              · show TdA F6 ms6 ((l4 p3.1).1.mine.map dM)
                rw [e4]
                exact hm6
              · show TdA F6 vs6 (dLts (p3.2 ++ (l4 p3.1).2))
                rw [e4]
                exact hv6
            · have e3 : p3.1.hs.waker = none := Option.isNone_iff_eq_none.mp (by rw [← Option.not_isSome]; rw [show p3.1.hs.waker.isSome = false from e2]; rfl)
              have e4 : l4 p3.1 = (p3.1, []) := by unfold l4; rw [e3]
              walk_at "rd"
              exact ⟨pf, rfl, dm_nil e4 ⟨F2, vs, ms2, Z2, s2, hm2, hv2⟩⟩
          · refine ifF rfl ?_
            have e4 : l4 p3.1 = (p3.1, []) := by
              unfold l4
              split
              · rw [if_neg e0]
              · rfl
            walk_at "rd"
            exact ⟨pf, rfl, dm_nil e4 ⟨F2, vs, ms2, Z2, s2, hm2, hv2⟩⟩
        · rintro σ' H' ⟨pf, rfl, F2, vs, ms2, Z2, s2, hm2, hv2⟩
          walk_at "rd"
          exact k F2 H' pf vs ms2 (dL_out Z2) s2 hm2 hv2
end SB
/-! The words of letters, and letters as data. -/
namespace SB
open PySem L2
def Wd3 (w : Str) : Prop := w = "ask" ∨ w = "freed" ∨ w = "back"
theorem Wd3.ok {w : Str} (h : Wd3 w) : PyData.canLay0 (.str w) = true := by
  rcases h with rfl | rfl | rfl <;> decide +kernel
theorem lay_mem {α : Type} {f : α → PyData} : ∀ {l : List α}, (∀ a ∈ l, (f a).canLay0 = true) → PyData.canLayAll0 (l.map f) = true
  | [], _ => rfl
  | a :: l, h => by
    show ((f a).canLay0 && PyData.canLayAll0 (l.map f)) = true
    rw [h a List.mem_cons_self, lay_mem fun b hb => h b (List.mem_cons_of_mem _ hb)] <;> rfl
theorem shaped_mem {α : Type} {f : α → PyData} {n : Nat} (hn : n ≤ 60) {l : List α} (h : ∀ a ∈ l, (f a).canLay0 = true) (h2 : ∀ a, (f a).depth ≤ n) : SeqAt.shaped (.list (l.map f)) = true :=
  shaped_of (lay_mem h) (by have := dep_map h2 l; show PyData.depthAll (l.map f) + 1 ≤ 64; omega)
theorem dLt_lay {l : Lt} (h : Wd3 l.1) : (dLt l).canLay0 = true := by
  show (PyData.canLay0 (.str l.1) && (true && (true && true))) = true
  rw [h.ok] <;> rfl
theorem dLt_dep (l : Lt) : (dLt l).depth ≤ 1 := Nat.le_refl 1
theorem dLt_shaped {l : Lt} (h : Wd3 l.1) : SeqAt.shaped (dLt l) = true := shaped_of (dLt_lay h) (by have := dLt_dep l; omega)
theorem dLts_shaped {ls : List Lt} (h : ∀ l ∈ ls, Wd3 l.1) : SeqAt.shaped (.list (dLts ls)) = true := shaped_mem (n := 1) (by decide) (fun l hl => dLt_lay (h l hl)) dLt_dep
theorem posted_w {s : HS} {w : Str} {rs : List Int} (h : Wd3 w) : ∀ l ∈ (posted s w rs).2, Wd3 l.1 := by
  intro l hl
  unfold posted at hl
  obtain ⟨o, _, rfl⟩ := List.mem_map.mp hl
  exact h
theorem askedBy_w {s : HS} {j : Int} : ∀ l ∈ (askedBy s j).2, Wd3 l.1 := by
  intro l hl
  unfold askedBy at hl
  split at hl
  · exact posted_w (.inr (.inl rfl)) l hl
  · split at hl
    · cases hl
    · exact posted_w (.inl rfl) l hl
theorem toldBy_w {s : HS} {j : Int} : ∀ l ∈ (toldBy s j).2, Wd3 l.1 := by
  intro l hl
  unfold toldBy at hl
  split at hl
  · cases hl
  · exact posted_w (.inr (.inl rfl)) l hl
theorem begin_w {s : HS} : ∀ l ∈ (begin s).2, Wd3 l.1 := by
  intro l hl
  unfold begin at hl
  split at hl
  · cases hl
  · exact posted_w (.inl rfl) l hl
theorem woken_w {s : HS} {j : Int} : ∀ l ∈ (woken s j).2, Wd3 l.1 := by
  intro l hl
  unfold woken at hl
  split at hl
  · rw [List.mem_singleton.mp hl]
    exact .inr (.inr rfl)
  · cases hl
theorem settle_w {s : HS} : ∀ l ∈ (settle s).2, Wd3 l.1 := by
  intro l hl
  unfold settle at hl
  split at hl
  · split at hl
    · rw [List.mem_singleton.mp hl]
      exact .inr (.inr rfl)
    · cases hl
  · cases hl
theorem come1_w {s : HS} {w : Str} {j : Int} : ∀ l ∈ (come1 s w j).2, Wd3 l.1 := by
  intro l hl
  unfold come1 at hl
  split at hl
  · cases hl
  · simp only [List.mem_append] at hl
    rcases hl with hl | hl
    · exact woken_w l hl
    · split at hl
      · exact askedBy_w l hl
      · exact toldBy_w l hl
theorem come_w {s : HS} {w : Str} {j : Int} : ∀ l ∈ (come s w j).2, Wd3 l.1 := by
  intro l hl
  unfold come at hl
  simp only [List.mem_append] at hl
  rcases hl with hl | hl
  · exact come1_w l hl
  · exact settle_w l hl
/-- what no letter changes -/
structure Keep (s t : HS) : Prop where
  number : t.number = s.number
  word : t.word = s.word
  others : t.others = s.others
  first : t.first = s.first
theorem Keep.refl (s : HS) : Keep s s := ⟨rfl, rfl, rfl, rfl⟩
theorem Keep.trans {s t u : HS} (h : Keep s t) (k : Keep t u) : Keep s u := ⟨k.number.trans h.number, k.word.trans h.word, k.others.trans h.others, k.first.trans h.first⟩
theorem keep_begin {s : HS} : Keep s (begin s).1 := by
  unfold begin
  split <;> exact ⟨rfl, rfl, rfl, rfl⟩
theorem keep_askedBy {s : HS} {j : Int} : Keep s (askedBy s j).1 := by
  unfold askedBy
  split
  · exact ⟨rfl, rfl, rfl, rfl⟩
  · split <;> exact ⟨rfl, rfl, rfl, rfl⟩
theorem keep_toldBy {s : HS} {j : Int} : Keep s (toldBy s j).1 := by
  unfold toldBy
  split <;> exact ⟨rfl, rfl, rfl, rfl⟩
theorem keep_woken {s : HS} {j : Int} : Keep s (woken s j).1 := by
  unfold woken
  split <;> exact ⟨rfl, rfl, rfl, rfl⟩
theorem keep_settle {s : HS} : Keep s (settle s).1 := by
  unfold settle
  split
  · split <;> exact ⟨rfl, rfl, rfl, rfl⟩
  · exact Keep.refl _
theorem keep_come1 {s : HS} {w : Str} {j : Int} : Keep s (come1 s w j).1 := by
  unfold come1
  split
  · exact ⟨rfl, rfl, rfl, rfl⟩
  · simp only []
    split
    · exact keep_woken.trans keep_askedBy
    · exact keep_woken.trans keep_toldBy
theorem keep_come {s : HS} {w : Str} {j : Int} : Keep s (come s w j).1 := by
  unfold come
  exact keep_come1.trans keep_settle
end SB
/-! Law k05: a letter that can come. -/
namespace SB
open PySem L2
theorem dM_lay {p : Str × Int} (h : Wd3 p.1) : (dM p).canLay0 = true := by
  show (PyData.canLay0 (.str p.1) && (true && true)) = true
  rw [h.ok] <;> rfl
theorem dM_dep (p : Str × Int) : (dM p).depth ≤ 1 := Nat.le_refl 1
/-- what letter tells of the state -/
def LetR (s : DS) (w : Str) (j : Int) (s' : DS) (ms ms' : List V) : Prop :=
  (∃ i, s.mine[i]? = some (w, j) ∧ s' = { s with mine := s.mine.eraseIdx i } ∧ ms' = ms.eraseIdx i) ∨
  (s' = s ∧ ms' = ms ∧ ((w = "back" ∧ j ∈ s.out ∧ j ≠ s.hs.number) ∨ (w = "freed" ∧ s.hs.has = true ∧ j ∈ s.hs.others ∧ j ∉ s.hs.told ∧ j ≠ s.hs.number) ∨ (w = "ask" ∧ j ∉ s.asked ∧ j ≠ s.hs.number) ∨ w = ""))
theorem TdA.erase {F : Hp} : ∀ {vs : List V} {ds : List PyData} (i : Nat), TdA F vs ds → TdA F (vs.eraseIdx i) (ds.eraseIdx i)
  | _, _, _, .nil => .nil
  | _, _, 0, .cons _ h2 => h2
  | _, _, i + 1, .cons h1 h2 => .cons h1 (TdA.erase i h2)
theorem map_eraseIdx {α β : Type} (f : α → β) : ∀ (l : List α) (i : Nat), (l.eraseIdx i).map f = (l.map f).eraseIdx i
  | [], _ => rfl
  | _ :: _, 0 => rfl
  | a :: l, i + 1 => by rw [List.eraseIdx_cons_succ, List.map_cons, map_eraseIdx f l i, List.map_cons, List.eraseIdx_cons_succ]
/-- a list of ints, each with a property -/
def IntsP (p : Int → Prop) (acc : List V) : Prop := ∃ ns : List Int, acc = ns.map V.int ∧ ∀ n ∈ ns, p n
theorem IntsP.nil {p : Int → Prop} : IntsP p [] := ⟨[], rfl, fun _ h => nomatch h⟩
theorem IntsP.snoc {p : Int → Prop} {acc : List V} {n : Int} (h : IntsP p acc) (hn : p n) : IntsP p (acc ++ [.int n]) := by
  obtain ⟨ns, rfl, h2⟩ := h
  refine ⟨ns ++ [n], by rw [List.map_append] <;> rfl, fun m hm => ?_⟩
  rcases List.mem_append.mp hm with hm | hm
  · exact h2 m hm
  · rw [List.mem_singleton.mp hm]; exact hn
def pr_letter (K : PySem.W.Frag) (A : Ad) : V → V → Hp → VK → XK → Prop := fun d c H Q _ => ∃ (F0 H0 F : Hp) (L : List (Addr × HO)) (r : DR) (s : DS) (ms : List V) (cell : Int), d = .ref r.d ∧ c = .int cell ∧ Zs F0 H0 F H (dL r s ms L) ∧ TdA F ms (s.mine.map dM) ∧ DsF F r s ∧ (∀ p ∈ s.mine, Wd3 p.1) ∧
  ∀ F' H' l w j s' ms', LetR s w j s' ms ms' → Zs F0 H0 F' H' (dL r s' ms' L) → Same F F' → TdA F' ms' (s'.mine.map dM) → F' l = some (.tup [.str w, .int j]) → Q (.ref l) H'
abbrev sp_letter (K : PySem.W.Frag) (A : Ad) : Sp := sp2 (pr_letter K A)
def t_letter (K : PySem.W.Frag) (A : Ad) : TS :=
    (tSeq (tAsg (tLc (iRng1 (tCons (tC (.int 40)) tNil)) (gName 2) (tAnd (tTest (tOp (rIn K true) (tVar 2) (tDGet (tVar 0) (tC (.str "asked"))))) (tTest (tOp rNe (tVar 2) (tDGet (tVar 0) (tC (.str "number")))))) (tVar 2) [2]) (gName 3))
    (tSeq (tAsg (tLc (iList K (tDGet (tVar 0) (tC (.str "others")))) (gName 2) (tAnd (tB (tDGet (tVar 0) (tC (.str "has")))) (tAnd (tTest (tOp (rIn K true) (tVar 2) (tDGet (tVar 0) (tC (.str "told"))))) (tTest (tOp rNe (tVar 2) (tDGet (tVar 0) (tC (.str "number"))))))) (tVar 2) [2]) (gName 4))
    (tSeq (tAsg (tLc (iList K (tDGet (tVar 0) (tC (.str "out")))) (gName 2) (tTest (tOp rNe (tVar 2) (tDGet (tVar 0) (tC (.str "number"))))) (tVar 2) [2]) (gName 5))
    (tSeq (tIfS (tAnd (tTest (tOp rEq (tOp qMod (tVar 1) (tC (.int 4))) (tC (.int 3)))) (tTest (tOp (rNeD K) (tDGet (tVar 0) (tC (.str "mine"))) (tLst tNil))))
    (tRet (tBM K "list" rPopAt (tDGet (tVar 0) (tC (.str "mine"))) (tCons (tOp qMod (tOp qDiv (tVar 1) (tC (.int 12))) (tCB (qLen K) (tCons (tDGet (tVar 0) (tC (.str "mine"))) tNil))) tNil)))
    tNext)
    (tSeq (tIfS (tAnd (tTest (tOp rEq (tOp qMod (tVar 1) (tC (.int 3))) (tC (.int 0)))) (tTest (tOp (rNeD K) (tVar 5) (tLst tNil))))
    (tRet (tTup (tCons (tC (.str "back")) (tCons (tOp (rIxL K) (tVar 5) (tOp qMod (tOp qDiv (tVar 1) (tC (.int 3))) (tCB (qLen K) (tCons (tVar 5) tNil)))) tNil))))
    tNext)
    (tSeq (tIfS (tAnd (tTest (tOp rEq (tOp qMod (tVar 1) (tC (.int 3))) (tC (.int 1)))) (tTest (tOp (rNeD K) (tVar 4) (tLst tNil))))
    (tRet (tTup (tCons (tC (.str "freed")) (tCons (tOp (rIxL K) (tVar 4) (tOp qMod (tOp qDiv (tVar 1) (tC (.int 3))) (tCB (qLen K) (tCons (tVar 4) tNil)))) tNil))))
    tNext)
    (tSeq (tIfS (tTest (tOp (rNeD K) (tVar 3) (tLst tNil)))
    (tRet (tTup (tCons (tC (.str "ask")) (tCons (tOp (rIxL K) (tVar 3) (tOp qMod (tOp qMod (tOp qMul (tOp qDiv (tVar 1) (tC (.int 3))) (tC (.int 48271))) (tC (.int 10007))) (tCB (qLen K) (tCons (tVar 3) tNil)))) tNil))))
    tNext)
    (tRet (tTup (tCons (tC (.str "")) (tCons (tC (.int 0)) tNil)))))))))))
theorem rd_letter {K : PySem.W.Frag} {A : Ad} {d c : V} {H : Hp} {Q : VK} {E : XK} (h : pr_letter K A d c H Q E) : t_letter K A { nx := fun _ H' => Q .non H', rt := Q } [some d, some c, none, none, none, none] H := by
  obtain ⟨F0, H0, F, L, r, s, ms, cell, rfl, rfl, Z, hm, hs, hw, k⟩ := h
  have ho := hs.no
  have hk := hs.nk
  have hu := hs.nu
  have hmi := hs.nm
  unfold t_letter
  walk_at "rd"
  refine lc_rng (by omega) Z (fun i acc F' => IntsP (fun n => n ∉ s.asked ∧ n ≠ s.hs.number) acc) (fun _ => rfl) .nil ?_ ?_
  · intro i Dl F' H' acc hi Z' sm hacc p
    walk_at "rd"
    refine dg_asked (Z'.get (i := 1) rfl) ?_
    walk_at "rd"
    refine r_inL (SqL.of (Z'.get (i := 3) rfl)) rfl (flat_ints _) ?_
    rw [inV_int]
    walk_at "rd"
    refine ifn (fun e => ?_) (fun e => ?_)
    · walk_at "rd"
      refine dg_number (Z'.get (i := 1) rfl) ?_
      walk_at "rd"
      refine ifn (fun e2 => ?_) (fun e2 => ?_)
      · walk_at "rd"
        exact cy Z' sm hacc (by omega) (p.snoc ⟨e, e2⟩)
      · exact cn Z' sm hacc p
    · refine ifF rfl ?_
      exact cn Z' sm hacc p
  intro ls F1 H1 acc Z s1 hp1
  obtain ⟨ns1, rfl, hp1⟩ := hp1
  replace Z := dL_in Z
  walk_at "rd"
  refine dg_others (Z.get (i := 0) rfl) ?_
  refine lc_lst (SqL.of (Z.fix (s1 _ _ hs.o))) Z (fun i acc F' => IntsP (fun n => s.hs.has = true ∧ n ∈ s.hs.others ∧ n ∉ s.hs.told ∧ n ≠ s.hs.number) acc ∧ acc.length ≤ 5000) ⟨.nil, Nat.zero_le _⟩ (fun F' H' Z' sm => SqL.of (Z'.fix ((s1.trans sm) _ _ hs.o))) ?_ ?_
  · rintro i y Dl F' H' acc hi Z' sm hacc ⟨p, p2⟩
    obtain ⟨n, hn1, rfl⟩ := of_get_ints hi
    have hlt := (List.getElem?_eq_some_iff.mp hn1).1
    walk_at "rd"
    refine ⟨rfl, ?_⟩
    walk_at "rd"
    refine dg_has (Z'.get (i := 1) rfl) ?_
    walk_at "rd"
    refine ifb (fun e0 => ?_) (fun e0 => ?_)
    · walk_at "rd"
      refine dg_told (Z'.get (i := 1) rfl) ?_
      walk_at "rd"
      refine r_inL (SqL.of (Z'.get (i := 4) rfl)) rfl (flat_ints _) ?_
      rw [inV_int]
      walk_at "rd"
      refine ifn (fun e => ?_) (fun e => ?_)
      · walk_at "rd"
        refine dg_number (Z'.get (i := 1) rfl) ?_
        walk_at "rd"
        refine ifn (fun e2 => ?_) (fun e2 => ?_)
        · walk_at "rd"
          exact cy Z' sm hacc (by omega) ⟨p.snoc ⟨e0, List.mem_of_getElem? hn1, e, e2⟩, by rw [List.length_append, List.length_singleton]; omega⟩
        · exact cn Z' sm hacc ⟨p, p2⟩
      · refine ifF rfl ?_
        exact cn Z' sm hacc ⟨p, p2⟩
    · refine ifF rfl ?_
      exact cn Z' sm hacc ⟨p, p2⟩
  rintro lt F2 H2 acc Z s2 ⟨hp2, hl2⟩
  obtain ⟨ns2, rfl, hp2⟩ := hp2
  replace Z := dL_in Z
  walk_at "rd"
  refine dg_out (Z.get (i := 0) rfl) ?_
  refine lc_lst (SqL.of (Z.get (i := 4) rfl)) Z (fun i acc F' => IntsP (fun n => n ∈ s.out ∧ n ≠ s.hs.number) acc) .nil (fun F' H' Z' sm => SqL.of (Z'.get (i := 4) rfl)) ?_ ?_
  · intro i y Dl F' H' acc hi Z' sm hacc p
    obtain ⟨n, hn1, rfl⟩ := of_get_ints hi
    have hlt := (List.getElem?_eq_some_iff.mp hn1).1
    walk_at "rd"
    refine ⟨rfl, ?_⟩
    walk_at "rd"
    refine dg_number (Z'.get (i := 1) rfl) ?_
    walk_at "rd"
    refine ifn (fun e2 => ?_) (fun e2 => ?_)
    · walk_at "rd"
      exact cy Z' sm hacc (by omega) (p.snoc ⟨List.mem_of_getElem? hn1, e2⟩)
    · exact cn Z' sm hacc p
  intro lo F3 H3 acc Z s3 hp3
  obtain ⟨ns3, rfl, hp3⟩ := hp3
  replace Z := dL_in Z
  have hm3 := hm.up ((s1.trans s2).trans s3)
  walk_at "rd"
  have hend : ∀ (F4 H4 : Hp) (L4 : List (Addr × HO)) (w : Str) (j : Int) (p : Addr), Zs F0 H0 F4 H4 ((p, .tup [.str w, .int j]) :: dL r s ms ((lo, .lst (ns3.map V.int)) :: (lt, .lst (ns2.map V.int)) :: (ls, .lst (ns1.map V.int)) :: L)) → Same F3 F4 → LetR s w j s ms ms → Q (.ref p) H4 := by
    intro F4 H4 L4 w j p Z4 s4 q
    obtain ⟨F5, Z5, s5, e5⟩ := Z4.frzAt 0 rfl
    replace Z5 : Zs F0 H0 F5 H4 (dL r s ms ((lo, .lst (ns3.map V.int)) :: (lt, .lst (ns2.map V.int)) :: (ls, .lst (ns1.map V.int)) :: L)) := Z5
    exact k F5 H4 p w j s ms q (((Z5.dropAt 6).dropAt 6).dropAt 6) (((s1.trans s2).trans s3).trans (s4.trans s5)) (hm3.up (s4.trans s5)) e5
  have hne : ∀ {H' : Hp} {ns : List Int} {la le : Addr} {R : VK}, H' la = some (.lst (ns.map V.int)) → H' le = some (.lst []) → R (.bl (!ns.isEmpty)) H' → rNeD K (.ref la) (.ref le) H' R := by
    intro H' ns la le R h1 h2 q
    refine r_neD (d := .list (ns.map PyData.int)) (e := .list []) (Td.ints_lst h1) (.lst h2 .nil) (shaped_ints ns) (shaped_ints []) ?_
    rw [eqv_nil]
    cases ns <;> exact q
  -- the rest, behind the first if
  have rest : ∀ (H4 : Hp), Zs F0 H0 F3 H4 (dL r s ms ((lo, .lst (ns3.map V.int)) :: (lt, .lst (ns2.map V.int)) :: (ls, .lst (ns1.map V.int)) :: L)) →
      (tSeq (tIfS (tAnd (tTest (tOp rEq (tOp qMod (tVar 1) (tC (.int 3))) (tC (.int 0)))) (tTest (tOp (rNeD K) (tVar 5) (tLst tNil))))
    (tRet (tTup (tCons (tC (.str "back")) (tCons (tOp (rIxL K) (tVar 5) (tOp qMod (tOp qDiv (tVar 1) (tC (.int 3))) (tCB (qLen K) (tCons (tVar 5) tNil)))) tNil))))
    tNext)
    (tSeq (tIfS (tAnd (tTest (tOp rEq (tOp qMod (tVar 1) (tC (.int 3))) (tC (.int 1)))) (tTest (tOp (rNeD K) (tVar 4) (tLst tNil))))
    (tRet (tTup (tCons (tC (.str "freed")) (tCons (tOp (rIxL K) (tVar 4) (tOp qMod (tOp qDiv (tVar 1) (tC (.int 3))) (tCB (qLen K) (tCons (tVar 4) tNil)))) tNil))))
    tNext)
    (tSeq (tIfS (tTest (tOp (rNeD K) (tVar 3) (tLst tNil)))
    (tRet (tTup (tCons (tC (.str "ask")) (tCons (tOp (rIxL K) (tVar 3) (tOp qMod (tOp qMod (tOp qMul (tOp qDiv (tVar 1) (tC (.int 3))) (tC (.int 48271))) (tC (.int 10007))) (tCB (qLen K) (tCons (tVar 3) tNil)))) tNil))))
    tNext)
    (tRet (tTup (tCons (tC (.str "")) (tCons (tC (.int 0)) tNil))))))) { nx := fun _ H' => Q .non H', rt := Q } [some (.ref r.d), some (.int cell), none, some (.ref ls), some (.ref lt), some (.ref lo)] H4 := by
    intro H4 Z
    have third : ∀ (H4 : Hp), Zs F0 H0 F3 H4 (dL r s ms ((lo, .lst (ns3.map V.int)) :: (lt, .lst (ns2.map V.int)) :: (ls, .lst (ns1.map V.int)) :: L)) →
      (tSeq (tIfS (tTest (tOp (rNeD K) (tVar 3) (tLst tNil)))
    (tRet (tTup (tCons (tC (.str "ask")) (tCons (tOp (rIxL K) (tVar 3) (tOp qMod (tOp qMod (tOp qMul (tOp qDiv (tVar 1) (tC (.int 3))) (tC (.int 48271))) (tC (.int 10007))) (tCB (qLen K) (tCons (tVar 3) tNil)))) tNil))))
    tNext)
    (tRet (tTup (tCons (tC (.str "")) (tCons (tC (.int 0)) tNil))))) { nx := fun _ H' => Q .non H', rt := Q } [some (.ref r.d), some (.int cell), none, some (.ref ls), some (.ref lt), some (.ref lo)] H4 := by
      intro H4 Z
      walk_at "rd"
      refine r_mk sz0 Z ?_
      intro p5 H5 Z5
      refine hne (Z5.get (i := 9) rfl) (Z5.get (i := 0) rfl) ?_
      walk_at "rd"
      refine ifnb (fun e => ?_) (fun e => ?_)
      · have hpos : 0 < ns1.length := by cases ns1 with | nil => cases e | cons a l => exact Nat.succ_pos _
        have hpos2 : (0 : Int) < ((ns1.map V.int).length : Int) := by rw [List.length_map]; omega
        walk_at "rd"
        refine r_lenL (SqL.of (Z5.get (i := 9) rfl)) ?_
        walk_at "rd"
        have h0 := Int.emod_nonneg (cell / 3 * 48271 % 10007) (show ((ns1.map V.int).length : Int) ≠ 0 by omega)
        have h1 := Int.emod_lt_of_pos (cell / 3 * 48271 % 10007) hpos2
        have hlt : (cell / 3 * 48271 % 10007 % ((ns1.map V.int).length : Int)).toNat < ns1.length := by rw [List.length_map] at h0 h1 ⊢; omega
        refine r_ixL (SqL.of (Z5.get (i := 9) rfl)) (at_i h0 (get_ints hlt)) ?_
        walk_at "rd"
        refine r_mk sz2 Z5.drop ?_
        intro p6 H6 Z6
        exact hend F3 H6 [] "ask" _ p6 Z6 (Same.refl _) (.inr ⟨rfl, rfl, .inr (.inr (.inl ⟨rfl, hp1 _ (List.getElem_mem hlt)⟩))⟩)
      · walk_at "rd"
        refine r_mk sz2 Z5.drop ?_
        intro p6 H6 Z6
        exact hend F3 H6 [] "" 0 p6 Z6 (Same.refl _) (.inr ⟨rfl, rfl, .inr (.inr (.inr rfl))⟩)
    have second : ∀ (H4 : Hp), Zs F0 H0 F3 H4 (dL r s ms ((lo, .lst (ns3.map V.int)) :: (lt, .lst (ns2.map V.int)) :: (ls, .lst (ns1.map V.int)) :: L)) →
      (tSeq (tIfS (tAnd (tTest (tOp rEq (tOp qMod (tVar 1) (tC (.int 3))) (tC (.int 1)))) (tTest (tOp (rNeD K) (tVar 4) (tLst tNil))))
    (tRet (tTup (tCons (tC (.str "freed")) (tCons (tOp (rIxL K) (tVar 4) (tOp qMod (tOp qDiv (tVar 1) (tC (.int 3))) (tCB (qLen K) (tCons (tVar 4) tNil)))) tNil))))
    tNext)
    (tSeq (tIfS (tTest (tOp (rNeD K) (tVar 3) (tLst tNil)))
    (tRet (tTup (tCons (tC (.str "ask")) (tCons (tOp (rIxL K) (tVar 3) (tOp qMod (tOp qMod (tOp qMul (tOp qDiv (tVar 1) (tC (.int 3))) (tC (.int 48271))) (tC (.int 10007))) (tCB (qLen K) (tCons (tVar 3) tNil)))) tNil))))
    tNext)
    (tRet (tTup (tCons (tC (.str "")) (tCons (tC (.int 0)) tNil)))))) { nx := fun _ H' => Q .non H', rt := Q } [some (.ref r.d), some (.int cell), none, some (.ref ls), some (.ref lt), some (.ref lo)] H4 := by
      intro H4 Z
      walk_at "rd"
      refine ifd (fun e1 => ?_) (fun e1 => ?_)
      · walk_at "rd"
        refine r_mk sz0 Z ?_
        intro p5 H5 Z5
        refine hne (Z5.get (i := 8) rfl) (Z5.get (i := 0) rfl) ?_
        walk_at "rd"
        refine ifnb (fun e => ?_) (fun e => ?_)
        · have hpos : 0 < ns2.length := by cases ns2 with | nil => cases e | cons a l => exact Nat.succ_pos _
          have hpos2 : (0 : Int) < ((ns2.map V.int).length : Int) := by rw [List.length_map]; omega
          walk_at "rd"
          refine r_lenL (SqL.of (Z5.get (i := 8) rfl)) ?_
          walk_at "rd"
          have h0 := Int.emod_nonneg (cell / 3) (show ((ns2.map V.int).length : Int) ≠ 0 by omega)
          have h1 := Int.emod_lt_of_pos (cell / 3) hpos2
          have hlt : (cell / 3 % ((ns2.map V.int).length : Int)).toNat < ns2.length := by rw [List.length_map] at h0 h1 ⊢; omega
          refine r_ixL (SqL.of (Z5.get (i := 8) rfl)) (at_i h0 (get_ints hlt)) ?_
          walk_at "rd"
          refine r_mk sz2 Z5.drop ?_
          intro p6 H6 Z6
          exact hend F3 H6 [] "freed" _ p6 Z6 (Same.refl _) (.inr ⟨rfl, rfl, .inr (.inl ⟨rfl, hp2 _ (List.getElem_mem hlt)⟩)⟩)
        · refine r_next ?_
          exact third H5 Z5.drop
      · refine ifF rfl ?_
        refine r_next ?_
        exact third H4 Z
    walk_at "rd"
    refine ifd (fun e1 => ?_) (fun e1 => ?_)
    · walk_at "rd"
      refine r_mk sz0 Z ?_
      intro p5 H5 Z5
      refine hne (Z5.get (i := 7) rfl) (Z5.get (i := 0) rfl) ?_
      walk_at "rd"
      refine ifnb (fun e => ?_) (fun e => ?_)
      · have hpos : 0 < ns3.length := by cases ns3 with | nil => cases e | cons a l => exact Nat.succ_pos _
        have hpos2 : (0 : Int) < ((ns3.map V.int).length : Int) := by rw [List.length_map]; omega
        walk_at "rd"
        refine r_lenL (SqL.of (Z5.get (i := 7) rfl)) ?_
        walk_at "rd"
        have h0 := Int.emod_nonneg (cell / 3) (show ((ns3.map V.int).length : Int) ≠ 0 by omega)
        have h1 := Int.emod_lt_of_pos (cell / 3) hpos2
        have hlt : (cell / 3 % ((ns3.map V.int).length : Int)).toNat < ns3.length := by rw [List.length_map] at h0 h1 ⊢; omega
        refine r_ixL (SqL.of (Z5.get (i := 7) rfl)) (at_i h0 (get_ints hlt)) ?_
        walk_at "rd"
        refine r_mk sz2 Z5.drop ?_
        intro p6 H6 Z6
        exact hend F3 H6 [] "back" _ p6 Z6 (Same.refl _) (.inr ⟨rfl, rfl, .inl ⟨rfl, hp3 _ (List.getElem_mem hlt)⟩⟩)
      · refine r_next ?_
        exact second H5 Z5.drop
    · refine ifF rfl ?_
      refine r_next ?_
      exact second H4 Z
  refine ifd (fun e1 => ?_) (fun e1 => ?_)
  · walk_at "rd"
    refine dg_mine (Z.get (i := 0) rfl) ?_
    walk_at "rd"
    refine r_mk sz0 Z ?_
    intro p5 H5 Z5
    refine r_neD (d := .list (s.mine.map dM)) (e := .list []) (.lst (Z5.get (i := 6) rfl) (hm3.up Z5.fh)) (.lst (Z5.get (i := 0) rfl) .nil) (shaped_mem (n := 1) (by decide) (fun p hp => dM_lay (hw p hp)) dM_dep) (shaped_ints []) ?_
    rw [eqv_nil]
    walk_at "rd"
    refine ifnb (fun e => ?_) (fun e => ?_)
    · have hpos : 0 < s.mine.length := by
        cases hh : s.mine with
        | nil => rw [hh] at e; cases e
        | cons a l => exact Nat.succ_pos _
      have hlen : ms.length = s.mine.length := by have := hm.len; rw [List.length_map] at this; exact this
      have hpos2 : (0 : Int) < (ms.length : Int) := by omega
      walk_at "rd"
      refine dg_mine (Z5.get (i := 1) rfl) ?_
      refine ⟨ty_l (SqL.of (Z5.get (i := 6) rfl)), ?_⟩
      walk_at "rd"
      refine dg_mine (Z5.get (i := 1) rfl) ?_
      walk_at "rd"
      refine r_lenL (SqL.of (Z5.get (i := 6) rfl)) ?_
      walk_at "rd"
      have h0 := Int.emod_nonneg (cell / 12) (show (ms.length : Int) ≠ 0 by omega)
      have h1 := Int.emod_lt_of_pos (cell / 12) hpos2
      have hlt : (cell / 12 % (ms.length : Int)).toNat < s.mine.length := by omega
      have eg : s.mine[(cell / 12 % (ms.length : Int)).toNat]? = some s.mine[(cell / 12 % (ms.length : Int)).toNat] := List.getElem?_eq_getElem hlt
      obtain ⟨y, hy1, hy2⟩ := TdA.get hm3 (i := (cell / 12 % (ms.length : Int)).toNat) (d := dM s.mine[(cell / 12 % (ms.length : Int)).toNat]) (by rw [List.getElem?_map, eg] <;> rfl)
      generalize hj : (cell / 12 % (ms.length : Int)).toNat = jj at *
      refine r_popAt 6 (j := jj) Z5 rfl (by omega) (by omega) hy1 ?_
      intro H6 Z6
      obtain ⟨a, xs, rfl, ha, hx⟩ := Td.inv_tup hy2
      have hxs : xs = [.str s.mine[jj].1, .int s.mine[jj].2] := by
        cases hx with
        | cons k1 k2 =>
          cases k2 with
          | cons k3 k4 => cases k4; cases k1; cases k3; rfl
      rw [hxs] at ha
      replace Z6 : Zs F0 H0 F3 H6 (dL r { s with mine := s.mine.eraseIdx jj } (ms.eraseIdx jj) ((lo, .lst (ns3.map V.int)) :: (lt, .lst (ns2.map V.int)) :: (ls, .lst (ns1.map V.int)) :: L)) := Z6.drop
      refine k F3 H6 a s.mine[jj].1 s.mine[jj].2 _ _ (.inl ⟨jj, eg, rfl, rfl⟩) (((Z6.dropAt 6).dropAt 6).dropAt 6) ((s1.trans s2).trans s3) ?_ ha
      show TdA F3 (ms.eraseIdx jj) ((s.mine.eraseIdx jj).map dM)
      rw [map_eraseIdx]
      exact hm3.erase jj
    · refine r_next ?_
      exact rest H5 Z5.drop
  · refine ifF rfl ?_
    refine r_next ?_
    exact rest _ Z
end SB
namespace SB
open PySem L2
/-! ### the program: waits.py -/
/-- isinstance over data -/
def tyD : PyData → String
  | .none => "NoneType"
  | .bool _ => "bool"
  | .int _ => "int"
  | .str _ => "str"
  | .list _ => "list"
  | .tuple _ => "tuple"
  | .dict _ => "dict"
theorem ty_of {K : PySem.W.Frag} {H : Hp} {v : V} {d : PyData} (h : Td H v d) : TyX K H v (.type (tyD d)) := by
  cases h with
  | non => exact .base .non
  | bl b => exact .base (.bl b)
  | int i => exact .base (.int i)
  | str x => exact .base (.str x)
  | lst a b => exact .base (.lst a)
  | tup a b => exact .base (.tup a)
def isD (d : PyData) (n : String) : Bool := (kitB (tyD d) n).getD false
theorem r_isi {K : PySem.W.Frag} {H : Hp} {v : V} {d : PyData} {n : String} {b : Bool} {Q : VK} (h : Td H v d) (hb : kitB (tyD d) n = some b) (k : Q (.bl b) H) : rIsi K [v, .ty n] H Q :=
  ⟨v, .ty n, .type (tyD d), .type n, b, rfl, .ty n, ty_of h, kit_ty hb, k⟩
theorem ki_int : ∀ d : PyData, kitB (tyD d) "int" = some (match d with | .int _ => true | .bool _ => true | _ => false)
  | .none => by decide +kernel
  | .bool _ => by show kitB "bool" "int" = some true; decide +kernel
  | .int _ => by show kitB "int" "int" = some true; decide +kernel
  | .str _ => by show kitB "str" "int" = some false; decide +kernel
  | .list _ => by show kitB "list" "int" = some false; decide +kernel
  | .tuple _ => by show kitB "tuple" "int" = some false; decide +kernel
  | .dict _ => by show kitB "dict" "int" = some false; decide +kernel
theorem ki_bool : ∀ d : PyData, kitB (tyD d) "bool" = some (match d with | .bool _ => true | _ => false)
  | .none => by decide +kernel
  | .bool _ => by show kitB "bool" "bool" = some true; decide +kernel
  | .int _ => by show kitB "int" "bool" = some false; decide +kernel
  | .str _ => by show kitB "str" "bool" = some false; decide +kernel
  | .list _ => by show kitB "list" "bool" = some false; decide +kernel
  | .tuple _ => by show kitB "tuple" "bool" = some false; decide +kernel
  | .dict _ => by show kitB "dict" "bool" = some false; decide +kernel
theorem ki_str : ∀ d : PyData, kitB (tyD d) "str" = some (match d with | .str _ => true | _ => false)
  | .none => by decide +kernel
  | .bool _ => by show kitB "bool" "str" = some false; decide +kernel
  | .int _ => by show kitB "int" "str" = some false; decide +kernel
  | .str _ => by show kitB "str" "str" = some true; decide +kernel
  | .list _ => by show kitB "list" "str" = some false; decide +kernel
  | .tuple _ => by show kitB "tuple" "str" = some false; decide +kernel
  | .dict _ => by show kitB "dict" "str" = some false; decide +kernel
theorem ki_list : ∀ d : PyData, kitB (tyD d) "list" = some (match d with | .list _ => true | _ => false)
  | .none => by decide +kernel
  | .bool _ => by show kitB "bool" "list" = some false; decide +kernel
  | .int _ => by show kitB "int" "list" = some false; decide +kernel
  | .str _ => by show kitB "str" "list" = some false; decide +kernel
  | .list _ => by show kitB "list" "list" = some true; decide +kernel
  | .tuple _ => by show kitB "tuple" "list" = some false; decide +kernel
  | .dict _ => by show kitB "dict" "list" = some false; decide +kernel
theorem ki_tuple : ∀ d : PyData, kitB (tyD d) "tuple" = some (match d with | .tuple _ => true | _ => false)
  | .none => by decide +kernel
  | .bool _ => by show kitB "bool" "tuple" = some false; decide +kernel
  | .int _ => by show kitB "int" "tuple" = some false; decide +kernel
  | .str _ => by show kitB "str" "tuple" = some false; decide +kernel
  | .list _ => by show kitB "list" "tuple" = some false; decide +kernel
  | .tuple _ => by show kitB "tuple" "tuple" = some true; decide +kernel
  | .dict _ => by show kitB "dict" "tuple" = some false; decide +kernel

/-- is_hand -/
def handD : PyData → Int → Bool
  | .int i, m => decide (0 ≤ i) && decide (i < m)
  | _, _ => false
def pr_is_hand (K : PySem.W.Frag) (A : Ad) : V → V → Hp → VK → XK → Prop := fun a b H Q _ => ∃ d m, Td H a d ∧ b = .int m ∧ Q (.bl (handD d m)) H
abbrev sp_is_hand (K : PySem.W.Frag) (A : Ad) : Sp := sp2 (pr_is_hand K A)
def t_is_hand (K : PySem.W.Frag) (A : Ad) : TS :=
    (tRet (tAndV (tCB (rIsi K) (tCons (tVar 0) (tCons (tC (.ty "int")) tNil))) (tAndV (tNotV (tCB (rIsi K) (tCons (tVar 0) (tCons (tC (.ty "bool")) tNil)))) (tChain qLe qLt (tC (.int 0)) (tVar 0) (tVar 1)))))
theorem rd_is_hand {K : PySem.W.Frag} {A : Ad} {a b : V} {H : Hp} {Q : VK} {E : XK} (h : pr_is_hand K A a b H Q E) : t_is_hand K A { nx := fun _ H' => Q .non H', rt := Q } [some a, some b] H := by
  obtain ⟨d, m, hd, rfl, q⟩ := h
  unfold t_is_hand
  walk_at "rd"
  refine r_isi hd (ki_int d) ?_
  walk_at "rd"
  refine ifb (fun h => ?_) (fun h => ?_)
  · walk_at "rd"
    refine r_isi hd (ki_bool d) ?_
    walk_at "rd"
    refine ifnb (fun h2 => ?_) (fun h2 => ?_)
    · cases hd with
      | int i =>
        walk_at "rd"
        refine ifd (fun h3 => ?_) (fun h3 => ?_)
        · walk_at "rd"
          have e : handD (.int i) m = decide (i < m) := by
            show (decide (0 ≤ i) && decide (i < m)) = _
            rw [decide_eq_true h3, Bool.true_and]
          rw [← e]
          exact q
        · have e : handD (.int i) m = false := by
            show (decide (0 ≤ i) && decide (i < m)) = _
            rw [decide_eq_false h3, Bool.false_and]
          rw [← e]
          exact q
      | bl b => cases h2
      | non => cases h
      | str x => cases h
      | lst x y => cases h
      | tup x y => cases h
    · cases hd with
      | bl b => exact q
      | int i => cases h2
      | non => cases h
      | str x => cases h
      | lst x y => cases h
      | tup x y => cases h
  · cases hd with
    | bl b => cases h
    | int i => cases h
    | non => exact q
    | str x => exact q
    | lst x y => exact q
    | tup x y => exact q
/-- need_hand of a hand -/
def pr_need_hand (K : PySem.W.Frag) (A : Ad) : V → V → Hp → VK → XK → Prop := fun a b H Q _ => ∃ m i, a = .int m ∧ b = .int i ∧ 0 ≤ i ∧ i < m ∧ Q (.int i) H
abbrev sp_need_hand (K : PySem.W.Frag) (A : Ad) : Sp := sp2 (pr_need_hand K A)
def t_need_hand (K : PySem.W.Frag) (A : Ad) : TS :=
    (tSeq (tIfS (tNot (tB (tCall (sp_is_hand K A) [] E0 (tCons (tVar 1) (tCons (tVar 0) tNil)))))
    tNever
    tNext)
    (tRet (tVar 1)))
theorem rd_need_hand {K : PySem.W.Frag} {A : Ad} {a b : V} {H : Hp} {Q : VK} {E : XK} (h : pr_need_hand K A a b H Q E) : t_need_hand K A { nx := fun _ H' => Q .non H', rt := Q } [some a, some b] H := by
  obtain ⟨m, i, rfl, rfl, h0, h1, q⟩ := h
  unfold t_need_hand
  walk_at "rd"
  refine ⟨_, m, .int i, rfl, ?_⟩
  walk_at "rd"
  have e : handD (.int i) m = true := by
    show (decide (0 ≤ i) && decide (i < m)) = true
    rw [decide_eq_true h0, decide_eq_true h1] <;> rfl
  rw [e]
  refine ifF rfl ?_
  walk_at "rd"
  exact q
end SB
/-! Law k05: kept, alike. -/
namespace SB
open PySem L2
def pr_kept (K : PySem.W.Frag) (A : Ad) : V → V → Hp → VK → XK → Prop := fun h d H Q _ => ∃ (r : HR) (s : HS) (r2 : DR) (t : DS), h = .ref r.x ∧ d = .ref r2.d ∧ H r.x = some (hI A r s) ∧ H r.a = some (.lst (s.askers.map V.int)) ∧ H r2.d = some (dI r2 t) ∧ H r2.a = some (.lst (t.hs.askers.map V.int)) ∧
  s.free = t.hs.free ∧ s.has = t.hs.has ∧ s.owed = t.hs.owed ∧ s.askers = t.hs.askers ∧ s.waker = t.hs.waker ∧ Q (.bl true) H
abbrev sp_kept (K : PySem.W.Frag) (A : Ad) : Sp := sp2 (pr_kept K A)
def t_kept (K : PySem.W.Frag) (A : Ad) : TS :=
    (tSeq (tIfS (tOr (tNot (tB (tCB (rIsi K) (tCons (tFld K (tVar 0) "is_freed") (tCons (tC (.ty "bool")) tNil))))) (tNot (tB (tCB (rIsi K) (tCons (tFld K (tVar 0) "has_asked") (tCons (tC (.ty "bool")) tNil))))))
    (tRet (tC (.bl false)))
    tNext)
    (tSeq (tIfS (tOr (tTest (tOp rNe (tFld K (tVar 0) "is_freed") (tDGet (tVar 1) (tC (.str "free"))))) (tTest (tOp rNe (tFld K (tVar 0) "has_asked") (tDGet (tVar 1) (tC (.str "has"))))))
    (tRet (tC (.bl false)))
    tNext)
    (tSeq (tIfS (tOr (tB (tCB (rIsi K) (tCons (tFld K (tVar 0) "owed") (tCons (tC (.ty "bool")) tNil)))) (tOr (tNot (tB (tCB (rIsi K) (tCons (tFld K (tVar 0) "owed") (tCons (tC (.ty "int")) tNil))))) (tTest (tOp rNe (tFld K (tVar 0) "owed") (tDGet (tVar 1) (tC (.str "owed")))))))
    (tRet (tC (.bl false)))
    tNext)
    (tSeq (tIfS (tOr (tNot (tB (tCB (rIsi K) (tCons (tFld K (tVar 0) "askers") (tCons (tC (.ty "list")) tNil))))) (tTest (tOp (rNeD K) (tFld K (tVar 0) "askers") (tDGet (tVar 1) (tC (.str "askers"))))))
    (tRet (tC (.bl false)))
    tNext)
    (tSeq (tIfS (tTest (tOp qIsN (tDGet (tVar 1) (tC (.str "waker"))) (tC .non)))
    (tRet (tOp qIsN (tFld K (tVar 0) "waker") (tC .non)))
    tNext)
    (tRet (tAndV (tNotV (tCB (rIsi K) (tCons (tFld K (tVar 0) "waker") (tCons (tC (.ty "bool")) tNil)))) (tAndV (tCB (rIsi K) (tCons (tFld K (tVar 0) "waker") (tCons (tC (.ty "int")) tNil))) (tOp (rEqD K) (tFld K (tVar 0) "waker") (tDGet (tVar 1) (tC (.str "waker"))))))))))))
theorem rd_kept {K : PySem.W.Frag} {A : Ad} (O : HandOk K A) {h d : V} {H : Hp} {Q : VK} {E : XK} (hh : pr_kept K A h d H Q E) : t_kept K A { nx := fun _ H' => Q .non H', rt := Q } [some h, some d] H := by
  obtain ⟨r, s, r2, t, rfl, rfl, h1, h2, h3, h4, e1, e2, e3, e4, e5, q⟩ := hh
  unfold t_kept
  walk_at "rd"
  refine fl_free O h1 ?_
  walk_at "rd"
  refine r_isi (.bl _) (ki_bool _) ?_
  walk_at "rd"
  refine ifF rfl ?_
  walk_at "rd"
  refine fl_has O h1 ?_
  walk_at "rd"
  refine r_isi (.bl _) (ki_bool _) ?_
  walk_at "rd"
  refine ifF rfl ?_
  walk_at "rd"
  refine fl_free O h1 ?_
  walk_at "rd"
  refine dg_free h3 ?_
  walk_at "rd"
  refine ifF (by rw [e1, beq_self_eq_true]; rfl) ?_
  walk_at "rd"
  refine fl_has O h1 ?_
  walk_at "rd"
  refine dg_has h3 ?_
  walk_at "rd"
  refine ifF (by rw [e2, beq_self_eq_true]; rfl) ?_
  walk_at "rd"
  refine fl_owed O h1 ?_
  walk_at "rd"
  refine r_isi (.int _) (ki_bool _) ?_
  walk_at "rd"
  refine ifF rfl ?_
  walk_at "rd"
  refine fl_owed O h1 ?_
  walk_at "rd"
  refine r_isi (.int _) (ki_int _) ?_
  walk_at "rd"
  refine ifF rfl ?_
  walk_at "rd"
  refine fl_owed O h1 ?_
  walk_at "rd"
  refine dg_owed h3 ?_
  walk_at "rd"
  refine ifF (by rw [e3, decide_eq_true rfl]; rfl) ?_
  walk_at "rd"
  refine fl_askers O h1 ?_
  walk_at "rd"
  refine r_isi (Td.ints_lst h2) (ki_list _) ?_
  walk_at "rd"
  refine ifF rfl ?_
  walk_at "rd"
  refine fl_askers O h1 ?_
  walk_at "rd"
  refine dg_askers h3 ?_
  refine r_neD (Td.ints_lst h2) (Td.ints_lst h4) (shaped_ints _) (shaped_ints _) ?_
  rw [eqv_ints, e4, decide_eq_true rfl]
  walk_at "rd"
  refine ifF rfl ?_
  walk_at "rd"
  refine dg_waker h3 ?_
  walk_at "rd"
  rw [dec_kOf, ← e5]
  refine ifnb (fun e => ?_) (fun e => ?_)
  · replace e : s.waker = none := Option.isNone_iff_eq_none.mp (by rw [← Option.not_isSome, e]; rfl)
    walk_at "rd"
    refine fl_waker O h1 ?_
    walk_at "rd"
    rw [e]
    exact q
  · obtain ⟨k, ek⟩ := Option.isSome_iff_exists.mp e
    walk_at "rd"
    refine fl_waker O h1 ?_
    rw [ek]
    walk_at "rd"
    refine r_isi (.int k) (ki_bool _) ?_
    walk_at "rd"
    refine ifT rfl ?_
    walk_at "rd"
    refine fl_waker O h1 ?_
    rw [ek]
    walk_at "rd"
    refine r_isi (.int k) (ki_int _) ?_
    walk_at "rd"
    refine ifT rfl ?_
    walk_at "rd"
    refine fl_waker O h1 ?_
    rw [ek]
    walk_at "rd"
    refine dg_waker h3 ?_
    rw [← e5, ek]
    refine r_eqD (.int k) (.int k) rfl rfl ?_
    rw [eqv_refl rfl]
    exact q
theorem r_slT {K : PySem.W.Frag} {F0 H0 F H : Hp} {L : List (Addr × HO)} {Q : VK} {a : Addr} {xs : List V} {lo hi : Option Int} (Z : Zs F0 H0 F H L) (ha : SqT K H a xs) (hw : ¬ (HT.sIx xs.length 0 lo = 0 ∧ HT.sIx xs.length xs.length hi = xs.length)) (k : ∀ p H', Zs F0 H0 F H' ((p, .tup (cutV xs lo hi)) :: L) → Q (.ref p) H') : rSlT K (.ref a) lo hi H Q := ⟨a, xs, rfl, ha, hw, fun p hp => k p _ (Z.alloc hp)⟩
def pr_alike (K : PySem.W.Frag) (A : Ad) : V → V → Hp → VK → XK → Prop := fun f d H Q _ => ∃ ls : List Lt, Td H f (.list (dLts ls)) ∧ Td H d (.list (dLts ls)) ∧ (∀ l ∈ ls, Wd3 l.1) ∧ ls.length ≤ 50000 ∧ ∀ H', Same H H' → Q (.bl true) H'
abbrev sp_alike (K : PySem.W.Frag) (A : Ad) : Sp := sp2 (pr_alike K A)
def t_alike (K : PySem.W.Frag) (A : Ad) : TS :=
    (tSeq (tIfS (tOr (tNot (tB (tCB (rIsi K) (tCons (tVar 0) (tCons (tC (.ty "list")) tNil))))) (tTest (tOp rNe (tCB (qLen K) (tCons (tVar 0) tNil)) (tCB (qLen K) (tCons (tVar 1) tNil)))))
    (tRet (tC (.bl false)))
    tNext)
    (tSeq (tFor (iRng1 (tCons (tCB (qLen K) (tCons (tVar 1) tNil)) tNil)) (gName 2)
    (tSeq (tIfS (tOr (tNot (tB (tCB (rIsi K) (tCons (tOp (rIxL K) (tVar 0) (tVar 2)) (tCons (tC (.ty "tuple")) tNil))))) (tOr (tTest (tOp rNe (tCB (qLen K) (tCons (tOp (rIxL K) (tVar 0) (tVar 2)) tNil)) (tC (.int 3)))) (tNot (tB (tCB (rIsi K) (tCons (tOp (rIxT K) (tOp (rIxL K) (tVar 0) (tVar 2)) (tC (.int 0))) (tCons (tC (.ty "str")) tNil)))))))
    (tRet (tC (.bl false)))
    tNext)
    (tSeq (tIfS (tTest (tOp (rNeD K) (tLc (iTup K (tSl (rSlT K) (tOp (rIxL K) (tVar 0) (tVar 2)) (tPart (tC (.int 1))) tNoPart)) (gName 3) (tOr (tB (tCB (rIsi K) (tCons (tVar 3) (tCons (tC (.ty "bool")) tNil)))) (tNot (tB (tCB (rIsi K) (tCons (tVar 3) (tCons (tC (.ty "int")) tNil)))))) (tVar 3) [3]) (tLst tNil)))
    (tRet (tC (.bl false)))
    tNext)
    (tIfS (tTest (tOp (rNeD K) (tOp (rIxL K) (tVar 0) (tVar 2)) (tOp (rIxL K) (tVar 1) (tVar 2))))
    (tRet (tC (.bl false)))
    tNext))))
    (tRet (tC (.bl true)))))
theorem rd_alike {K : PySem.W.Frag} {A : Ad} {f d : V} {H : Hp} {Q : VK} {E : XK} (hh : pr_alike K A f d H Q E) : t_alike K A { nx := fun _ H' => Q .non H', rt := Q } [some f, some d, none, none] H := by
  obtain ⟨ls, hf, hd, hw, hn, q⟩ := hh
  obtain ⟨a, vs, rfl, ha, hva⟩ := Td.inv_lst hf
  obtain ⟨b, us, rfl, hb, hub⟩ := Td.inv_lst hd
  have la := hva.len
  have lb := hub.len
  rw [len_dLts] at la lb
  unfold t_alike
  walk_at "rd"
  refine r_isi hf (ki_list _) ?_
  walk_at "rd"
  refine ifF rfl ?_
  walk_at "rd"
  refine r_lenL (SqL.of ha) ?_
  walk_at "rd"
  refine r_lenL (SqL.of hb) ?_
  walk_at "rd"
  rw [la, lb]
  refine ifF (by rw [decide_eq_true rfl]; rfl) ?_
  walk_at "rd"
  refine r_lenL (SqL.of hb) ?_
  walk_at "rd"
  rw [lb]
  refine r_rng1 (by omega) (fun i σ' H' => (∃ x, σ' = [some (.ref a), some (.ref b), x, none]) ∧ Zs H H H H' []) ⟨⟨_, rfl⟩, Zs.start (Same.refl _)⟩ ?_ ?_
  · rintro i σ' H1 hi ⟨⟨x, rfl⟩, Z⟩
    have hi2 : i < ls.length := by omega
    have el : (dLts ls)[i]? = some (dLt ls[i]) := by unfold dLts; rw [List.getElem?_map, List.getElem?_eq_getElem hi2] <;> rfl
    obtain ⟨v, hv, hv2⟩ := hva.get el
    obtain ⟨u, hu, hu2⟩ := hub.get el
    obtain ⟨pv, rfl, hpv⟩ := hv2.inv_lt
    have hwi := hw _ (List.getElem_mem hi2)
    dsimp only [List.set_cons_succ, List.set_cons_zero]
    walk_at "rd"
    refine r_ixL (SqL.of (Z.fix ha)) (atI_nat hv) ?_
    walk_at "rd"
    refine r_isi (hv2.up Z.fh) (ki_tuple _) ?_
    walk_at "rd"
    refine ifF rfl ?_
    walk_at "rd"
    refine r_ixL (SqL.of (Z.fix ha)) (atI_nat hv) ?_
    walk_at "rd"
    refine r_lenT (SqT.of (Z.fix hpv)) ?_
    walk_at "rd"
    refine ifF rfl ?_
    walk_at "rd"
    refine r_ixL (SqL.of (Z.fix ha)) (atI_nat hv) ?_
    walk_at "rd"
    refine r_ixT (SqT.of (Z.fix hpv)) (at_i (by decide) rfl) ?_
    walk_at "rd"
    refine r_isi (.str _) (ki_str _) ?_
    walk_at "rd"
    refine ifF rfl ?_
    walk_at "rd"
    refine r_ixL (SqL.of (Z.fix ha)) (atI_nat hv) ?_
    walk_at "rd"
    refine r_slT Z (SqT.of (Z.fix hpv)) (by show ¬ (HT.sIx 3 0 (some 1) = 0 ∧ HT.sIx 3 3 none = 3); decide) ?_
    intro p1 H2 Z2
    replace Z2 : Zs H H H H2 [(p1, .tup [.int ls[i].2.1, .int ls[i].2.2])] := Z2
    refine lc_tpl (SqT.of (Z2.get (i := 0) rfl)) Z2 (fun i acc F' => acc = []) rfl (fun F' H' Z' sm => SqT.of (Z'.get (i := 0) rfl)) ?_ ?_
    · rintro j y Dl F' H' acc hy Z' sm hacc rfl
      have ey : ∃ n : Int, y = .int n := by
        rcases j with _ | _ | j
        · exact ⟨_, (Option.some.inj hy).symm⟩
        · exact ⟨_, (Option.some.inj hy).symm⟩
        · cases hy
      obtain ⟨n, rfl⟩ := ey
      walk_at "rd"
      refine ⟨rfl, ?_⟩
      walk_at "rd"
      refine r_isi (.int n) (ki_bool _) ?_
      walk_at "rd"
      refine ifF rfl ?_
      walk_at "rd"
      refine r_isi (.int n) (ki_int _) ?_
      walk_at "rd"
      refine ifF rfl ?_
      exact cn Z' sm hacc rfl
    · rintro Dl F' H3 acc Z3 sm rfl
      walk_at "rd"
      refine r_mk sz0 Z3 ?_
      intro p2 H4 Z4
      refine r_neD (d := .list []) (e := .list []) (.lst (Z4.get (i := 1) rfl) .nil) (.lst (Z4.get (i := 0) rfl) .nil) (shaped_ints []) (shaped_ints []) ?_
      rw [eqv_nil]
      walk_at "rd"
      refine ifF rfl ?_
      walk_at "rd"
      have Z5 : Zs H H H H4 [] := Z4.nil.weak (Same.refl _) sm
      refine r_ixL (SqL.of (Z5.fix ha)) (atI_nat hv) ?_
      walk_at "rd"
      refine r_ixL (SqL.of (Z5.fix hb)) (atI_nat hu) ?_
      refine r_neD (hv2.up Z5.fh) (hu2.up Z5.fh) (dLt_shaped hwi) (dLt_shaped hwi) ?_
      rw [eqv_refl (dLt_shaped hwi)]
      walk_at "rd"
      refine ifF rfl ?_
      walk_at "rd"
      exact ⟨⟨_, rfl⟩, Z5⟩
  · rintro σ' H1 ⟨_, Z⟩
    walk_at "rd"
    exact q H1 Z.hh
end SB
/-! Law k05, plainly: the law's keeping goes as the hand does. -/
namespace SB
open PySem L2
theorem sub_len : ∀ {l m : List Int}, l.Nodup → (∀ x ∈ l, x ∈ m) → l.length ≤ m.length
  | [], _, _, _ => Nat.zero_le _
  | a :: l, m, nd, h => by
    have h1 := h a List.mem_cons_self
    have nd2 := (List.nodup_cons.mp nd)
    have ih := sub_len (l := l) (m := m.erase a) nd2.2 fun x hx => (List.mem_erase_of_ne (fun e => nd2.1 (by rw [← e]; exact hx))).mpr (h x (List.mem_cons_of_mem _ hx))
    rw [List.length_erase_of_mem h1] at ih
    have := List.length_pos_of_mem h1
    rw [List.length_cons]
    omega
structure DI (c : Nat) (s : DS) : Prop where
  ci : s.out.count s.hs.number = s.mine.length + (if s.hs.waker = some s.hs.number then 1 else 0) + c
  mi : ∀ p ∈ s.mine, p.2 = s.hs.number ∧ Wd3 p.1
  fi : s.hs.free = false → (∀ p ∈ s.mine, p.1 ≠ "freed") ∧ s.hs.told.Nodup ∧ (∀ x ∈ s.hs.told, x ∈ s.hs.others) ∧ s.hs.word = some s.wb
theorem count_filter (n : Int) : ∀ rs : List Int, rs.count n = ((rs.filter fun o => decide (o = n)).map fun o => ((default : Str), o)).length
  | [] => rfl
  | a :: rs => by
    rw [List.count_cons, count_filter n rs, List.filter_cons]
    by_cases e : a = n
    · rw [if_pos (decide_eq_true e), if_pos (by rw [e]; exact beq_self_eq_true n)]; rfl
    · rw [if_neg (by rw [beq_eq_false_iff_ne.mpr e]; decide), if_neg (by rw [decide_eq_false e]; decide), Nat.add_zero]
theorem DI.sent {c : Nat} {s : DS} {w : Str} {rs : List Int} (h : DI c s) (hw : Wd3 w) (hf : w = "freed" → s.hs.free = true) : DI c (sentL s w rs).1 where
  ci := by
    show (s.out ++ rs).count s.hs.number = (s.mine ++ _).length + (if s.hs.waker = some s.hs.number then 1 else 0) + c
    rw [List.count_append, List.length_append, h.ci, count_filter, List.length_map, List.length_map]
    omega
  mi := fun p hp => by
    rcases List.mem_append.mp hp with hp | hp
    · exact h.mi p hp
    · obtain ⟨o, ho, rfl⟩ := List.mem_map.mp hp
      exact ⟨of_decide_eq_true (List.mem_filter.mp ho).2, hw⟩
  fi := fun e => by
    obtain ⟨a, b, c, d⟩ := h.fi e
    refine ⟨fun p hp => ?_, b, c, d⟩
    rcases List.mem_append.mp hp with hp | hp
    · exact a p hp
    · obtain ⟨o, ho, rfl⟩ := List.mem_map.mp hp
      intro q
      have := hf q
      rw [show s.hs.free = false from e] at this
      cases this
theorem DI.back {c c' : Nat} {s : DS} {j : Int} (h : DI c s) (hc : c = c' + if j = s.hs.number then 1 else 0) : DI c' (backL s j).1 where
  ci := by
    show s.out.count s.hs.number = (s.mine ++ if j = s.hs.number then [(("back" : Str), j)] else []).length + (if s.hs.waker = some s.hs.number then 1 else 0) + c'
    rw [h.ci, hc, List.length_append]
    by_cases e : j = s.hs.number
    · rw [if_pos e, if_pos e, List.length_singleton]; omega
    · rw [if_neg e, if_neg e, List.length_nil]; omega
  mi := fun p hp => by
    rcases List.mem_append.mp hp with hp | hp
    · exact h.mi p hp
    · split at hp
      · rename_i e
        rw [List.mem_singleton.mp hp]
        exact ⟨e, .inr (.inr rfl)⟩
      · cases hp
  fi := fun e => by
    obtain ⟨a, b, c, d⟩ := h.fi e
    refine ⟨fun p hp => ?_, b, c, d⟩
    rcases List.mem_append.mp hp with hp | hp
    · exact a p hp
    · split at hp
      · rw [List.mem_singleton.mp hp]
        show ("back" : Str) ≠ "freed"
        decide
      · cases hp
/-- what the four pieces compute, beside the hand's own -/
theorem l1_hs {s : DS} {w : Str} {j : Int} (hw : w ≠ "back") : (l1 s w j).1.hs = (woken s.hs j).1 ∧ (l1 s w j).2 = (woken s.hs j).2 ∧ (l1 s w j).1.wb = s.wb := by
  unfold l1 woken
  rw [if_neg hw]
  split <;> exact ⟨rfl, rfl, rfl⟩
theorem l2_hs {s : DS} {j : Int} : (l2 s "ask" j).1.hs = (askedBy s.hs j).1 ∧ (l2 s "ask" j).2 = (askedBy s.hs j).2 := by
  unfold l2 askedBy
  rw [if_pos rfl]
  split
  · exact ⟨rfl, rfl⟩
  · split
    · exact ⟨rfl, rfl⟩
    · exact ⟨rfl, rfl⟩
theorem l3_hs {s : DS} {j : Int} (h : s.hs.free = false → s.hs.word = some s.wb ∧ (s.wb = false → s.hs.told.length + 1 ≤ s.hs.others.length)) : (l3 s "freed" j).1.hs = (toldBy s.hs j).1 ∧ (l3 s "freed" j).2 = (toldBy s.hs j).2 := by
  have e : (!s.hs.free && (s.wb || decide (s.hs.told.length + 1 = s.hs.others.length))) = !(s.hs.free || (decide (s.hs.word = some false) && decide (s.hs.told.length + 1 < s.hs.others.length))) := by
    cases hf : s.hs.free with
    | true => rfl
    | false =>
      obtain ⟨h1, h2⟩ := h hf
      rw [h1]
      cases hb : s.wb with
      | true => rfl
      | false =>
        have := h2 hb
        by_cases q : s.hs.told.length + 1 = s.hs.others.length
        · rw [decide_eq_true q, decide_eq_false (show ¬ s.hs.told.length + 1 < s.hs.others.length by omega)]; rfl
        · rw [decide_eq_false q, decide_eq_true (show s.hs.told.length + 1 < s.hs.others.length by omega)]; rfl
  unfold l3 toldBy
  rw [if_pos rfl, e]
  cases (s.hs.free || (decide (s.hs.word = some false) && decide (s.hs.told.length + 1 < s.hs.others.length))) with
  | true => exact ⟨rfl, rfl⟩
  | false => exact ⟨rfl, rfl⟩
theorem l4_hs {s : DS} : (l4 s).1.hs = (settle s.hs).1 ∧ (l4 s).2 = (settle s.hs).2 := by
  unfold l4 settle
  cases s.hs.waker with
  | none => exact ⟨rfl, rfl⟩
  | some k =>
    simp only []
    split <;> exact ⟨rfl, rfl⟩
theorem DI.l4 {s : DS} (h : DI 0 s) : DI 0 (l4 s).1 := by
  unfold SB.l4
  cases hk : s.hs.waker with
  | none => exact h
  | some k =>
    simp only []
    split
    · refine ⟨?_, fun p hp => ?_, fun e => ?_⟩
      · have h1 := h.ci
        rw [hk] at h1
        show s.out.count s.hs.number = (s.mine ++ if k = s.hs.number then [(("back" : Str), k)] else []).length + (if (none : Option Int) = some s.hs.number then 1 else 0) + 0
        rw [h1, List.length_append]
        by_cases e : k = s.hs.number
        · rw [if_pos e, if_pos (by rw [e]), if_neg (by simp)]; rfl
        · rw [if_neg e, if_neg (fun q => e (Option.some.inj q)), if_neg (by simp)]; rfl
      · rcases List.mem_append.mp hp with hp | hp
        · exact h.mi p hp
        · split at hp
          · rename_i e
            rw [List.mem_singleton.mp hp]
            exact ⟨e, .inr (.inr rfl)⟩
          · cases hp
      · obtain ⟨a, b, c, d⟩ := h.fi e
        refine ⟨fun p hp => ?_, b, c, d⟩
        rcases List.mem_append.mp hp with hp | hp
        · exact a p hp
        · split at hp
          · rw [List.mem_singleton.mp hp]
            show ("back" : Str) ≠ "freed"
            decide
          · cases hp
    · exact h
theorem DI.l1 {c : Nat} {s : DS} {w : Str} {j : Int} (h : DI c s) (hw : w ≠ "back") (hc : c = if j = s.hs.number then 1 else 0) : DI 0 (l1 s w j).1 := by
  unfold SB.l1
  rw [if_neg hw]
  split
  · exact h.back (by omega)
  · rename_i e
    have e2 : s.hs.waker = none := by
      cases hk : s.hs.waker with
      | none => rfl
      | some k => rw [hk] at e; simp at e
    refine ⟨?_, h.mi, h.fi⟩
    have h1 := h.ci
    rw [e2, if_neg (by simp)] at h1
    show s.out.count s.hs.number = s.mine.length + (if some j = some s.hs.number then 1 else 0) + 0
    rw [h1, hc]
    by_cases e3 : j = s.hs.number
    · rw [if_pos e3, if_pos (by rw [e3])]
    · rw [if_neg e3, if_neg (fun q => e3 (Option.some.inj q))]
theorem DI.l1b {c : Nat} {s : DS} {j : Int} (h : DI c s) (hc : c = if j = s.hs.number then 1 else 0) : DI 0 (SB.l1 s "back" j).1 := by
  unfold SB.l1
  rw [if_pos rfl]
  refine ⟨?_, h.mi, h.fi⟩
  show (s.out.erase j).count s.hs.number = s.mine.length + (if s.hs.waker = some s.hs.number then 1 else 0) + 0
  have h1 := h.ci
  by_cases e : j = s.hs.number
  · subst e
    rw [List.count_erase_self, h1, hc, if_pos rfl]
    omega
  · rw [List.count_erase_of_ne (fun q => e q.symm), h1, hc, if_neg e]
theorem DI.upd {c : Nat} {s t : DS} (h : DI c s) (e1 : t.hs.number = s.hs.number) (e2 : t.out = s.out) (e3 : t.mine = s.mine) (e4 : t.hs.waker = s.hs.waker) (e5 : t.hs.free = s.hs.free) (e6 : t.hs.told = s.hs.told) (e7 : t.hs.others = s.hs.others) (e8 : t.hs.word = s.hs.word) (e9 : t.wb = s.wb) : DI c t :=
  ⟨by rw [e1, e2, e3, e4]; exact h.ci, by rw [e1, e3]; exact h.mi, by rw [e3, e5, e6, e7, e8, e9]; exact h.fi⟩
theorem DI.l2 {s : DS} {w : Str} {j : Int} (h : DI 0 s) : DI 0 (l2 s w j).1 := by
  unfold SB.l2
  split
  · split
    · rename_i e
      exact DI.sent (s := { s with asked := s.asked ++ [j] }) (h.upd rfl rfl rfl rfl rfl rfl rfl rfl rfl) (.inr (.inl rfl)) (fun _ => e)
    · split
      · exact h.upd rfl rfl rfl rfl rfl rfl rfl rfl rfl
      · exact DI.sent (s := { s with asked := s.asked ++ [j], hs := { s.hs with askers := s.hs.askers ++ [j], has := true } }) (h.upd rfl rfl rfl rfl rfl rfl rfl rfl rfl) (.inl rfl) (fun q => absurd q (by decide))
  · exact h
theorem DI.l3 {s : DS} {w : Str} {j : Int} (h : DI 0 s) (ht : w = "freed" → s.hs.free = false → j ∈ s.hs.others ∧ j ∉ s.hs.told) : DI 0 (l3 s w j).1 := by
  unfold SB.l3
  split
  · rename_i ew
    split
    · refine DI.sent (s := { s with hs := { s.hs with told := s.hs.told ++ [j], free := true } }) ⟨h.ci, h.mi, fun q => by cases q⟩ (.inr (.inl rfl)) (fun _ => rfl)
    · refine ⟨h.ci, h.mi, fun q => ?_⟩
      obtain ⟨a, b, c, d⟩ := h.fi q
      obtain ⟨t1, t2⟩ := ht ew q
      refine ⟨a, ?_, fun x hx => ?_, d⟩
      · show (s.hs.told ++ [j]).Nodup
        rw [List.nodup_append]
        exact ⟨b, List.nodup_cons.mpr ⟨List.not_mem_nil, List.nodup_nil⟩, fun x hx y hy e => t2 (by rw [← List.mem_singleton.mp hy, ← e]; exact hx)⟩
      · rcases List.mem_append.mp hx with hx | hx
        · exact c x hx
        · rw [List.mem_singleton.mp hx]; exact t1
  · exact h
/-- the bounds -/
structure BI (i : Nat) (s : DS) : Prop where
  no : s.hs.others.length ≤ 6
  na : s.hs.askers.length ≤ i
  nt : s.hs.told.length ≤ i
  nk : s.asked.length ≤ i
  nu : s.out.length ≤ 60 * (i + 1)
theorem l4_bb {s : DS} : (l4 s).1.hs.others = s.hs.others ∧ (l4 s).1.hs.askers = s.hs.askers ∧ (l4 s).1.hs.told = s.hs.told ∧ (l4 s).1.asked = s.asked ∧ (l4 s).1.out = s.out := by
  unfold l4
  split
  · split <;> exact ⟨rfl, rfl, rfl, rfl, rfl⟩
  · exact ⟨rfl, rfl, rfl, rfl, rfl⟩
theorem come_b {i : Nat} {s : DS} {w : Str} {j : Int} (h : BI i s) (hi : i ≤ 45) : BI (i + 1) (comeL s w j).1 := by
  obtain ⟨b1, b2, b3, b4, b5, b6, b7⟩ := l1_b (s := s) (w := w) (j := j)
  obtain ⟨c1, c2, c3, c4, c5, c6, c7⟩ := l2_b (s := (l1 s w j).1) (w := w) (j := j)
  obtain ⟨d1, d2, d3, d4, d5, d6, d7⟩ := l3_b (s := (l2 (l1 s w j).1 w j).1) (w := w) (j := j)
  obtain ⟨e1, e2, e3, e4, e5⟩ := l4_bb (s := (l3 (l2 (l1 s w j).1 w j).1 w j).1)
  have h1 := h.no
  have h2 := h.na
  have h3 := h.nt
  have h4 := h.nk
  have h5 := h.nu
  rw [b1] at c1 c5
  rw [b2] at c2
  rw [b3] at c3
  rw [b4] at c4
  rw [c3] at d3
  rw [c1] at d1
  constructor
  · show (l4 (l3 (l2 (l1 s w j).1 w j).1 w j).1).1.hs.others.length ≤ 6
    rw [e1, d1]; exact h1
  · show (l4 (l3 (l2 (l1 s w j).1 w j).1 w j).1).1.hs.askers.length ≤ i + 1
    rw [e2, d2]; omega
  · show (l4 (l3 (l2 (l1 s w j).1 w j).1 w j).1).1.hs.told.length ≤ i + 1
    rw [e3]; omega
  · show (l4 (l3 (l2 (l1 s w j).1 w j).1 w j).1).1.asked.length ≤ i + 1
    rw [e4, d4]; omega
  · show (l4 (l3 (l2 (l1 s w j).1 w j).1 w j).1).1.out.length ≤ 60 * (i + 1 + 1)
    rw [e5]; omega
theorem DI.mine_le {s : DS} (h : DI 0 s) : s.mine.length ≤ s.out.length := by
  have := h.ci
  have h2 := List.count_le_length (a := s.hs.number) (l := s.out)
  omega
theorem DI.dsf {i : Nat} {F : Hp} {r : DR} {s : DS} (h : DI 0 s) (b : BI i s) (hi : i ≤ 45) (ho : F r.o = some (.lst (s.hs.others.map V.int))) : DsF F r s := by
  have h0 := h.mine_le
  have h1 := b.no
  have h2 := b.na
  have h3 := b.nt
  have h4 := b.nk
  have h5 := b.nu
  exact ⟨ho, by omega, by omega, by omega, by omega, by omega, by omega⟩
/-- how the letter finds the state -/
theorem let_di {s s' : DS} {w : Str} {j : Int} {ms ms' : List V} (h : DI 0 s) (l : LetR s w j s' ms ms') (hw : w ≠ "") : s'.hs = s.hs ∧ s'.wb = s.wb ∧ s'.asked = s.asked ∧ s'.out = s.out ∧ Wd3 w ∧ (w = "back" → j ∈ s'.out) ∧ (w = "freed" → s'.hs.free = false → j ∈ s'.hs.others ∧ j ∉ s'.hs.told) ∧ DI (if j = s'.hs.number then 1 else 0) s' ∧ s'.mine.length ≤ s.mine.length := by
  rcases l with ⟨i, h1, rfl, rfl⟩ | ⟨rfl, rfl, q⟩
  · have hm := List.mem_of_getElem? h1
    obtain ⟨hj, hwd⟩ := h.mi _ hm
    replace hj : j = s.hs.number := hj
    have hlt := (List.getElem?_eq_some_iff.mp h1).1
    have hle : (s.mine.eraseIdx i).length + 1 = s.mine.length := by rw [List.length_eraseIdx_of_lt hlt]; omega
    refine ⟨rfl, rfl, rfl, rfl, hwd, fun _ => ?_, fun ew ef => ?_, ⟨?_, fun p hp => h.mi p (List.eraseIdx_subset hp), fun ef => ?_⟩, by show (s.mine.eraseIdx i).length ≤ _; omega⟩
    · show j ∈ s.out
      have hc := h.ci
      rw [hj]
      exact List.count_pos_iff.mp (by omega)
    · exact absurd ew ((h.fi ef).1 _ hm)
    · show s.out.count s.hs.number = (s.mine.eraseIdx i).length + (if s.hs.waker = some s.hs.number then 1 else 0) + if j = s.hs.number then 1 else 0
      rw [h.ci, if_pos hj]
      omega
    · obtain ⟨a, b, c, d⟩ := h.fi ef
      exact ⟨fun p hp => a p (List.eraseIdx_subset hp), b, c, d⟩
  · have hne : j ≠ s'.hs.number → DI (if j = s'.hs.number then 1 else 0) s' := fun e => by rw [if_neg e]; exact h
    rcases q with ⟨rfl, h1, h2⟩ | ⟨rfl, h1, h2, h3, h4⟩ | ⟨rfl, h1, h2⟩ | rfl
    · exact ⟨rfl, rfl, rfl, rfl, .inr (.inr rfl), fun _ => h1, fun q => absurd q (by decide), hne h2, Nat.le_refl _⟩
    · exact ⟨rfl, rfl, rfl, rfl, .inr (.inl rfl), fun q => absurd q (by decide), fun _ _ => ⟨h2, h3⟩, hne h4, Nat.le_refl _⟩
    · exact ⟨rfl, rfl, rfl, rfl, .inl rfl, fun q => absurd q (by decide), fun q => absurd q (by decide), hne h2, Nat.le_refl _⟩
    · exact absurd rfl hw
theorem pair_eq {α β : Type} {p : α × β} {a : α} {b : β} (h1 : p.1 = a) (h2 : p.2 = b) : p = (a, b) := by rw [← h1, ← h2]
theorem come_ok {s : DS} {w : Str} {j : Int} (h : DI (if j = s.hs.number then 1 else 0) s) (hw : Wd3 w) (hf : w = "freed" → s.hs.free = false → j ∈ s.hs.others ∧ j ∉ s.hs.told) : (comeL s w j).1.hs = (come s.hs w j).1 ∧ (comeL s w j).2 = (come s.hs w j).2 ∧ DI 0 (comeL s w j).1 := by
  rcases hw with rfl | rfl | rfl
  · obtain ⟨a1, a2, a3⟩ := l1_hs (s := s) (w := "ask") (j := j) (by decide)
    obtain ⟨b1, b2⟩ := l2_hs (s := (l1 s "ask" j).1) (j := j)
    have c0 : l3 (l2 (l1 s "ask" j).1 "ask" j).1 "ask" j = ((l2 (l1 s "ask" j).1 "ask" j).1, []) := by unfold l3; rw [if_neg (by decide)]
    obtain ⟨d1, d2⟩ := l4_hs (s := (l2 (l1 s "ask" j).1 "ask" j).1)
    have e : come1 s.hs "ask" j = ((askedBy (woken s.hs j).1 j).1, (woken s.hs j).2 ++ (askedBy (woken s.hs j).1 j).2) := by
      unfold come1
      rw [if_neg (by decide)]
      simp only [if_pos trivial]
    have eL : comeL s "ask" j = ((l4 (l2 (l1 s "ask" j).1 "ask" j).1).1, (l1 s "ask" j).2 ++ (l2 (l1 s "ask" j).1 "ask" j).2 ++ (l4 (l2 (l1 s "ask" j).1 "ask" j).1).2) := by
      unfold comeL andThen
      simp only [c0, List.append_nil]
    have eC : come s.hs "ask" j = ((settle (askedBy (woken s.hs j).1 j).1).1, (woken s.hs j).2 ++ (askedBy (woken s.hs j).1 j).2 ++ (settle (askedBy (woken s.hs j).1 j).1).2) := by
      unfold come
      simp only [e]
    rw [eL, eC]
    rw [a1] at b1 b2
    rw [b1] at d1 d2
    refine ⟨d1, ?_, ((h.l1 (by decide) rfl).l2).l4⟩
    show _ ++ _ ++ _ = _ ++ _ ++ _
    rw [a2, b2, d2]
  · obtain ⟨a1, a2, a3⟩ := l1_hs (s := s) (w := "freed") (j := j) (by decide)
    have h1 := h.l1 (w := "freed") (by decide) rfl
    have fr : (l1 s "freed" j).1.hs.free = s.hs.free ∧ (l1 s "freed" j).1.hs.others = s.hs.others ∧ (l1 s "freed" j).1.hs.told = s.hs.told := by
      rw [a1]
      unfold woken
      split <;> exact ⟨rfl, rfl, rfl⟩
    have hf2 : (l1 s "freed" j).1.hs.free = false → j ∈ (l1 s "freed" j).1.hs.others ∧ j ∉ (l1 s "freed" j).1.hs.told := fun q => by
      rw [fr.2.1, fr.2.2]
      exact hf rfl (by rw [← fr.1]; exact q)
    have c0 : l2 (l1 s "freed" j).1 "freed" j = ((l1 s "freed" j).1, []) := by unfold l2; rw [if_neg (by decide)]
    obtain ⟨b1, b2⟩ := l3_hs (s := (l1 s "freed" j).1) (j := j) (fun q => by
      obtain ⟨x1, x2, x3, x4⟩ := h1.fi q
      obtain ⟨y1, y2⟩ := hf2 q
      refine ⟨x4, fun _ => ?_⟩
      have := sub_len (l := j :: (l1 s "freed" j).1.hs.told) (m := (l1 s "freed" j).1.hs.others) (List.nodup_cons.mpr ⟨y2, x2⟩) (fun x hx => by
        rcases List.mem_cons.mp hx with rfl | hx
        · exact y1
        · exact x3 x hx)
      rw [List.length_cons] at this
      exact this)
    obtain ⟨d1, d2⟩ := l4_hs (s := (l3 (l1 s "freed" j).1 "freed" j).1)
    have e : come1 s.hs "freed" j = ((toldBy (woken s.hs j).1 j).1, (woken s.hs j).2 ++ (toldBy (woken s.hs j).1 j).2) := by
      unfold come1
      rw [if_neg (by decide)]
      simp only []
      rw [if_neg (by decide)]
    have eL : comeL s "freed" j = ((l4 (l3 (l1 s "freed" j).1 "freed" j).1).1, (l1 s "freed" j).2 ++ (l3 (l1 s "freed" j).1 "freed" j).2 ++ (l4 (l3 (l1 s "freed" j).1 "freed" j).1).2) := by
      unfold comeL andThen
      simp only [c0, List.append_nil]
    have eC : come s.hs "freed" j = ((settle (toldBy (woken s.hs j).1 j).1).1, (woken s.hs j).2 ++ (toldBy (woken s.hs j).1 j).2 ++ (settle (toldBy (woken s.hs j).1 j).1).2) := by
      unfold come
      simp only [e]
    rw [eL, eC]
    rw [a1] at b1 b2
    rw [b1] at d1 d2
    refine ⟨d1, ?_, (h1.l3 (fun _ q => hf2 q)).l4⟩
    show _ ++ _ ++ _ = _ ++ _ ++ _
    rw [a2, b2, d2]
  · have c0 : l2 (l1 s "back" j).1 "back" j = ((l1 s "back" j).1, []) := by unfold l2; rw [if_neg (by decide)]
    have c1 : l3 (l1 s "back" j).1 "back" j = ((l1 s "back" j).1, []) := by unfold l3; rw [if_neg (by decide)]
    have c2 : l1 s "back" j = ({ s with hs := { s.hs with owed := s.hs.owed - 1 }, out := s.out.erase j }, []) := by unfold l1; rw [if_pos rfl]
    obtain ⟨d1, d2⟩ := l4_hs (s := (l1 s "back" j).1)
    have e : come1 s.hs "back" j = ({ s.hs with owed := s.hs.owed - 1 }, []) := by unfold come1; rw [if_pos rfl]
    have eL : comeL s "back" j = ((l4 (l1 s "back" j).1).1, (l4 (l1 s "back" j).1).2) := by
      unfold comeL andThen
      simp only [c0, c1, List.append_nil]
      rw [c2, List.nil_append]
    have eC : come s.hs "back" j = ((settle { s.hs with owed := s.hs.owed - 1 }).1, (settle { s.hs with owed := s.hs.owed - 1 }).2) := by
      unfold come
      simp only [e, List.nil_append]
    rw [eL, eC]
    have e9 : (l1 s "back" j).1.hs = { s.hs with owed := s.hs.owed - 1 } := by rw [c2]
    rw [e9] at d1 d2
    exact ⟨d1, d2, (h.l1b rfl).l4⟩
end SB
namespace SB
open PySem L2
/-! ### whom a hand of the law waits for -/
def moreBy (c d n m o0 k : Int) : Int := (o0 + 1 + n / (c + d * k) % m) % m
def othersBy (c d n m o0 : Int) : Nat → List Int
  | 0 => [o0]
  | i + 1 => if moreBy c d n m o0 (i : Nat) ∈ othersBy c d n m o0 i then othersBy c d n m o0 i else othersBy c d n m o0 i ++ [moreBy c d n m o0 (i : Nat)]
section
variable {c d n m o0 : Int}
theorem oth_0 : ∀ i : Nat, (othersBy c d n m o0 i)[0]? = some o0
  | 0 => rfl
  | i + 1 => by
    have ih := oth_0 i
    unfold othersBy
    split
    · exact ih
    · rw [List.getElem?_append_left (List.getElem?_eq_some_iff.mp ih).1]; exact ih
theorem oth_len : ∀ i : Nat, (othersBy c d n m o0 i).length ≤ i + 1
  | 0 => Nat.le_refl _
  | i + 1 => by
    have ih := oth_len i
    unfold othersBy
    split
    · omega
    · rw [List.length_append, List.length_singleton]; omega
theorem oth_ne (i : Nat) : othersBy c d n m o0 i ≠ [] := fun q => by
  have h := oth_0 (c := c) (d := d) (n := n) (m := m) (o0 := o0) i
  rw [q] at h
  cases h
theorem oth_nd : ∀ i : Nat, (othersBy c d n m o0 i).Nodup
  | 0 => by unfold othersBy; simp
  | i + 1 => by
    have ih := oth_nd i
    unfold othersBy
    split
    · exact ih
    · rename_i h
      rw [List.nodup_append]
      exact ⟨ih, by simp, fun a ha b hb => by
        rw [List.mem_singleton] at hb
        subst hb
        exact fun q => h (q ▸ ha)⟩
theorem more_in (hm : 0 < m) (k : Int) : 0 ≤ moreBy c d n m o0 k ∧ moreBy c d n m o0 k < m := ⟨Int.emod_nonneg _ (by omega), Int.emod_lt_of_pos _ hm⟩
theorem oth_in (hm : 0 < m) (h0 : 0 ≤ o0 ∧ o0 < m) : ∀ (i : Nat) (o : Int), o ∈ othersBy c d n m o0 i → 0 ≤ o ∧ o < m
  | 0, o, h => by
    unfold othersBy at h
    rw [List.mem_singleton] at h
    subst h
    exact h0
  | i + 1, o, h => by
    unfold othersBy at h
    split at h
    · exact oth_in hm h0 i o h
    · rcases List.mem_append.mp h with h | h
      · exact oth_in hm h0 i o h
      · rw [List.mem_singleton] at h
        subst h
        exact more_in hm _
theorem oth_ok (b : Bool) {z : Nat} (hz : m = (z : Int)) (hm : 0 < m) (h0 : 0 ≤ o0 ∧ o0 < m) (i : Nat) : okW z (some (b, othersBy c d n m o0 i)) :=
  ⟨oth_ne i, oth_nd i, fun o ho => by rw [← hz]; exact oth_in hm h0 i o ho⟩
end
/-- ["all", "any"][i] -/
theorem word_at {i : Int} (h0 : 0 ≤ i) (h1 : i < 2) : atI [V.str "all", V.str "any"] i = some (.str (wd (decide (i = 1)))) := by
  refine at_i h0 ?_
  rcases (show i = 0 ∨ i = 1 by omega) with e | e
  · subst e; rfl
  · subst e; rfl
/-- one hand waits for all hands, from any one on, backwards -/
def allBy (n w : Int) : List Int := (List.range n.toNat).map fun (k : Nat) => (n + w - (k : Int)) % n
theorem emod_inj {n c a b : Int} (ha : 0 ≤ a ∧ a < n) (hb : 0 ≤ b ∧ b < n) (h : (c - a) % n = (c - b) % n) : a = b := by
  have h1 : (b - a) % n = 0 := by
    have := Int.emod_eq_emod_iff_emod_sub_eq_zero.mp h
    rw [show c - a - (c - b) = b - a by omega] at this
    exact this
  have h2 : (a - b) % n = 0 := by
    have := Int.emod_eq_emod_iff_emod_sub_eq_zero.mp h.symm
    rw [show c - b - (c - a) = a - b by omega] at this
    exact this
  by_cases l : a ≤ b
  · rw [Int.emod_eq_of_lt (by omega) (by omega)] at h1; omega
  · rw [Int.emod_eq_of_lt (by omega) (by omega)] at h2; omega
theorem all_ok (b : Bool) {n w : Int} {z : Nat} (hz : n = (z : Int)) (hn : 0 < n) : okW z (some (b, allBy n w)) := by
  refine ⟨fun e => ?_, ?_, fun o m => ?_⟩
  · have : (allBy n w).length = n.toNat := by unfold allBy; rw [List.length_map, List.length_range]
    rw [e, List.length_nil] at this
    omega
  · unfold allBy
    rw [List.nodup_iff_pairwise_ne, List.pairwise_map]
    refine List.Pairwise.imp_of_mem (fun {a b} ha hb hne e => ?_) (List.nodup_iff_pairwise_ne.mp List.nodup_range)
    have := List.mem_range.mp ha
    have := List.mem_range.mp hb
    have := emod_inj (c := n + w) (a := (a : Int)) (b := (b : Int)) (n := n) (by omega) (by omega) e
    omega
  · unfold allBy at m
    obtain ⟨k, _, rfl⟩ := List.mem_map.mp m
    rw [← hz]
    exact ⟨Int.emod_nonneg _ (by omega), Int.emod_lt_of_pos _ hn⟩
theorem okws_set {ws : List Wt} {w : Wt} {j : Nat} (ok : OkWs ws) (h : okW ws.length w) : OkWs (ws.set j w) := by
  refine ⟨by rw [List.length_set]; exact ok.pos, by rw [List.length_set]; exact ok.most, fun x m => ?_⟩
  rw [List.length_set]
  rcases List.mem_or_eq_of_mem_set m with m | rfl
  · exact ok.all x m
  · exact h
end SB
/-! Law k05: the law. -/
namespace SB
open PySem L2
def DUQ (Q : VK) (a : Addr) : VK := fun y H2 => ∃ b kvs more, y = .ref b ∧ a ≠ b ∧ H2 a = some (.dK kvs) ∧ H2 b = some (.dK more) ∧ kvs.length + more.length ≤ sizeLine ∧ Q .non (upd H2 a (.dK (mergeK kvs more)))
def DU1Q (te : TE) (σ : St) (Q : VK) : VK := fun x H1 => ∃ a, x = .ref a ∧ IsD H1 a ∧ te σ H1 (DUQ Q a)
section
variable {σ : St} {H F0 H0 F : Hp} {L : List (Addr × HO)} {Q : VK} {td te : TE} {a b : Addr} {kvs more : List (Key × V)}
theorem r_dupd (h : td σ H (DU1Q te σ Q)) : tDUpd td te σ H Q := h
theorem r_du1 (e : H a = some (.dK kvs)) (h : te σ H (DUQ Q a)) : DU1Q te σ Q (.ref a) H := ⟨a, rfl, .inl ⟨kvs, .inl e⟩, h⟩
theorem r_du2 (i j : Nat) (Z : Zs F0 H0 F H L) (e1 : L[i]? = some (a, .dK kvs)) (e2 : L[j]? = some (b, .dK more)) (n : i ≠ j) (hl : kvs.length + more.length ≤ 100000) (k : ∀ H', Zs F0 H0 F H' (L.set i (a, .dK (mergeK kvs more))) → Q .non H') : DUQ Q a (.ref b) H :=
  ⟨b, kvs, more, rfl, Z.ne e1 e2 n, Z.get e1, Z.get e2, sz_of hl, k _ (Z.setAt i e1)⟩
end
theorem mergeK_app : ∀ (more acc : List (Key × V)), ((acc ++ more).map (·.1)).Nodup → mergeK acc more = acc ++ more
  | [], acc, _ => (List.append_nil acc).symm
  | (k, v) :: more, acc, h => by
    have hn : valV acc k = none := by
      cases e : valV acc k with
      | none => rfl
      | some x =>
        have h1 := valV_any k acc
        rw [e, Option.isSome_some, List.any_eq_true] at h1
        obtain ⟨p, hp, e2⟩ := h1
        rw [List.map_append, List.nodup_append] at h
        exact absurd (of_decide_eq_true e2) (h.2.2 _ (List.mem_map_of_mem hp) k (by simp))
    show mergeK (putK acc k v) more = acc ++ (k, v) :: more
    rw [putK_new v hn, mergeK_app more (acc ++ [(k, v)]) (by rw [List.append_assoc]; exact h), List.append_assoc] <;> rfl
def d1 (n w o f g : V) : List (Key × V) := [(.inr "number", n), (.inr "word", w), (.inr "others", o), (.inr "first", f), (.inr "free", g)]
def d2 (h a k t w u v m : V) : List (Key × V) := [(.inr "has", h), (.inr "askers", a), (.inr "asked", k), (.inr "told", t), (.inr "owed", w), (.inr "waker", u), (.inr "out", v), (.inr "mine", m)]
def keys13 : List Key := [.inr "number", .inr "word", .inr "others", .inr "first", .inr "free", .inr "has", .inr "askers", .inr "asked", .inr "told", .inr "owed", .inr "waker", .inr "out", .inr "mine"]
theorem keys13_nd : keys13.Nodup := by decide +kernel
theorem d_merge {n w o f g h a k t w2 u v m : V} : mergeK (mergeK [] (d1 n w o f g)) (mergeK [] (d2 h a k t w2 u v m)) = d1 n w o f g ++ d2 h a k t w2 u v m := by
  have h13 : ((d1 n w o f g ++ d2 h a k t w2 u v m).map (·.1)).Nodup := keys13_nd
  have h1 : ((([] : List (Key × V)) ++ d1 n w o f g).map (·.1)).Nodup := by
    rw [List.map_append, List.nodup_append] at h13
    exact h13.1
  have h2 : ((([] : List (Key × V)) ++ d2 h a k t w2 u v m).map (·.1)).Nodup := by
    rw [List.map_append, List.nodup_append] at h13
    exact h13.2.1
  rw [mergeK_app _ _ h1, mergeK_app _ _ h2, List.nil_append, List.nil_append, mergeK_app _ _ h13]
theorem hd_swap {A : Ad} {F0 H0 F H : Hp} {L : List (Addr × HO)} {r : HR} {s : HS} {r2 : DR} {t : DS} {ms : List V} (Z : Zs F0 H0 F H (hL A r s (dL r2 t ms L))) : Zs F0 H0 F H (dL r2 t ms (hL A r s L)) :=
  Z.perm (List.perm_append_comm_assoc (hL A r s []) (dL r2 t ms []) L)
theorem dh_swap {A : Ad} {F0 H0 F H : Hp} {L : List (Addr × HO)} {r : HR} {s : HS} {r2 : DR} {t : DS} {ms : List V} (Z : Zs F0 H0 F H (dL r2 t ms (hL A r s L))) : Zs F0 H0 F H (hL A r s (dL r2 t ms L)) :=
  Z.perm (List.perm_append_comm_assoc (dL r2 t ms []) (hL A r s []) L)
theorem qhd {A : Ad} {F0 H0 F H : Hp} {L : List (Addr × HO)} {r : HR} {s : HS} {r2 : DR} {t : DS} {ms : List V} {q : Addr × HO} (Z : Zs F0 H0 F H (q :: hL A r s (dL r2 t ms L))) : Zs F0 H0 F H (dL r2 t ms (hL A r s (q :: L))) :=
  hd_swap (Z.perm (List.perm_middle (a := q) (l₁ := hL A r s (dL r2 t ms [])) (l₂ := L)).symm)
def os5 (ns : List Int) : List Int := (List.range (cellAt ns 0 / 3 % 7).toNat).map fun (k : Nat) => (cellAt ns 1 + (k : Int) * (1 + 2 * (cellAt ns 0 / 21 % 3))) % 40
def wt5 (ns : List Int) : Wt := if 0 < cellAt ns 0 / 3 % 7 then some (decide (cellAt ns 0 % 2 = 1), os5 ns) else none
def s5 (ns : List Int) (num : Int) : DS := { hs := mkH num (wt5 ns) (decide (cellAt ns 2 % 2 = 1)), wb := decide (cellAt ns 0 % 2 = 1), asked := [], out := [], mine := [] }
theorem os5_len (ns : List Int) : (os5 ns).length = (cellAt ns 0 / 3 % 7).toNat := by unfold os5; rw [List.length_map, List.length_range]
theorem oth5 (ns : List Int) (num : Int) (f : Bool) : (mkH num (wt5 ns) f).others = os5 ns := by
  unfold wt5
  split
  · rfl
  · rename_i e
    have : os5 ns = [] := List.eq_nil_of_length_eq_zero (by rw [os5_len]; omega)
    rw [this]
    rfl
theorem free5 (ns : List Int) (num : Int) (f : Bool) : (mkH num (wt5 ns) f).free = decide (cellAt ns 0 / 3 % 7 = 0) := by
  unfold wt5
  split
  · rename_i e
    rw [decide_eq_false (show ¬ cellAt ns 0 / 3 % 7 = 0 by omega)]
    rfl
  · rename_i e
    rw [decide_eq_true (show cellAt ns 0 / 3 % 7 = 0 by omega)]
    rfl
theorem di5 (ns : List Int) (num : Int) : DI 0 (s5 ns num) := by
  refine ⟨rfl, fun p hp => (nomatch hp), fun e => ⟨fun p hp => (nomatch hp), List.nodup_nil, fun x hx => (nomatch hx), ?_⟩⟩
  rw [show (s5 ns num).hs.free = _ from free5 ns num _] at e
  have e2 := of_decide_eq_false e
  show (wt5 ns).map (·.1) = some _
  unfold wt5
  rw [if_pos (by omega)]
  rfl
theorem bi5 (ns : List Int) (num : Int) : BI 0 (s5 ns num) := by
  refine ⟨?_, Nat.le_refl _, Nat.le_refl _, Nat.le_refl _, Nat.zero_le _⟩
  show (mkH num (wt5 ns) _).others.length ≤ 6
  rw [oth5, os5_len]
  omega
/-- what stands from turn to turn -/
def LW (A : Ad) (H Fb : Hp) (num : Int) (i : Nat) (r : HR) (r2 : DR) (H' : Hp) : Prop := ∃ (F' : Hp) (s : DS) (ms : List V), Same Fb F' ∧ Zs H H F' H' (hL A r s.hs (dL r2 s ms [])) ∧ TdA F' ms (s.mine.map dM) ∧ DI 0 s ∧ BI i s ∧ F' r.o = some (.lst (s.hs.others.map V.int)) ∧ F' r2.o = some (.lst (s.hs.others.map V.int)) ∧ s.hs.number = num
theorem BI.up {i : Nat} {s : DS} (h : BI i s) : BI (i + 1) s := ⟨h.no, Nat.le_succ_of_le h.na, Nat.le_succ_of_le h.nt, Nat.le_succ_of_le h.nk, Nat.le_trans h.nu (by omega)⟩
theorem BI.of {i : Nat} {s t : DS} (h : BI i s) (e1 : t.hs = s.hs) (e2 : t.asked = s.asked) (e3 : t.out = s.out) : BI i t := ⟨by rw [e1]; exact h.no, by rw [e1]; exact h.na, by rw [e1]; exact h.nt, by rw [e2]; exact h.nk, by rw [e3]; exact h.nu⟩
theorem qdh {A : Ad} {F0 H0 F H : Hp} {L : List (Addr × HO)} {r : HR} {s : HS} {r2 : DR} {t : DS} {ms : List V} {q : Addr × HO} (Z : Zs F0 H0 F H (q :: dL r2 t ms (hL A r s L))) : Zs F0 H0 F H (hL A r s (dL r2 t ms (q :: L))) :=
  dh_swap (Z.perm (List.perm_middle (a := q) (l₁ := dL r2 t ms (hL A r s [])) (l₂ := L)).symm)
theorem len_come {s : HS} {w : Str} {j : Int} {F : Hp} {r : HR} (h : HsF F r s) : (come s w j).2.length ≤ 20010 := by
  have hw : (woken s j).2.length ≤ 1 := by
    unfold woken
    split
    · exact Nat.le_refl 1
    · exact Nat.zero_le 1
  have hs2 : HsF F r (woken s j).1 := by
    unfold woken
    split
    · exact h
    · exact h.waker _
  have h1 := len_askedBy (j := j) hs2
  have h2 := len_toldBy (j := j) hs2
  have h3 : (come1 s w j).2.length ≤ 20001 := by
    unfold come1
    split
    · exact Nat.zero_le _
    · simp only []
      split
      · rw [List.length_append]; omega
      · rw [List.length_append]; omega
  have h4 : ∀ t : HS, (settle t).2.length ≤ 1 := fun t => by
    unfold settle
    split
    · split
      · exact Nat.le_refl 1
      · exact Nat.zero_le 1
    · exact Nat.zero_le 1
  have h5 := h4 (come1 s w j).1
  unfold come
  simp only []
  rw [List.length_append]
  omega
abbrev sl5 (p po ph pd : Addr) (c0 many num : Int) (w : V) (f : Bool) (x : Addr) (y11 y12 y13 y14 : Option V) : St := [some (.ref p), some (.int c0), some (.int many), none, some (.ref po), some (.ref ph), some w, some (.bl f), some (.int num), some (.ref pd), some (.ref x), y11, y12, y13, y14]
def t_law (K : PySem.W.Frag) (A : Ad) : TS :=
    (tSeq (tAsg (tCall (sp_cell_at K A) [] E0 (tCons (tVar 0) (tCons (tC (.int 0)) tNil))) (gName 1))
    (tSeq (tAsg (tOp qMod (tOp qDiv (tVar 1) (tC (.int 3))) (tC (.int 7))) (gName 2))
    (tSeq (tAsg (tLc (iRng1 (tCons (tVar 2) tNil)) (gName 3) tYes (tOp qMod (tOp qAdd (tCall (sp_cell_at K A) [] E0 (tCons (tVar 0) (tCons (tC (.int 1)) tNil))) (tOp qMul (tVar 3) (tOp qAdd (tC (.int 1)) (tOp qMul (tC (.int 2)) (tOp qMod (tOp qDiv (tVar 1) (tC (.int 21))) (tC (.int 3))))))) (tC (.int 40))) [3]) (gName 4))
    (tSeq (tAsg (tCB (qListOf K) (tCons (tVar 4) tNil)) (gName 5))
    (tSeq (tAsg (tC .non) (gName 6))
    (Evl.tCut (tIfS (tTest (tOp qGt (tVar 2) (tC (.int 0))))
    (tAsg (tTup (tCons (tOp (rIxL K) (tLst (tCons (tC (.str "all")) (tCons (tC (.str "any")) tNil))) (tOp qMod (tVar 1) (tC (.int 2)))) (tCons (tVar 5) tNil))) (gName 6))
    tNext)
    (tSeq (tAsg (tOp rEq (tOp qMod (tCall (sp_cell_at K A) [] E0 (tCons (tVar 0) (tCons (tC (.int 2)) tNil))) (tC (.int 2))) (tC (.int 1))) (gName 7))
    (tSeq (tAsg (tOp qMod (tOp qDiv (tCall (sp_cell_at K A) [] E0 (tCons (tVar 0) (tCons (tC (.int 2)) tNil))) (tC (.int 2))) (tC (.int 40))) (gName 8))
    (Evl.tCut (tIfS (tAnd (tTest (tOp rEq (tOp qMod (tOp qDiv (tCall (sp_cell_at K A) [] E0 (tCons (tVar 0) (tCons (tC (.int 2)) tNil))) (tC (.int 80))) (tC (.int 4))) (tC (.int 1)))) (tTest (tOp qGt (tVar 2) (tC (.int 0)))))
    (tAsg (tOp (rIxL K) (tVar 4) (tOp qMod (tOp qDiv (tCall (sp_cell_at K A) [] E0 (tCons (tVar 0) (tCons (tC (.int 2)) tNil))) (tC (.int 320))) (tVar 2))) (gName 8))
    tNext)
    (tSeq (tAsg (tDisp [((tC (.str "number")), (tVar 8)), ((tC (.str "word")), (tOp (rIxL K) (tLst (tCons (tC (.str "all")) (tCons (tC (.str "any")) tNil))) (tOp qMod (tVar 1) (tC (.int 2))))), ((tC (.str "others")), (tVar 4)), ((tC (.str "first")), (tVar 7)), ((tC (.str "free")), (tOp rEq (tVar 2) (tC (.int 0))))]) (gName 9))
    (tSeq (tDrop (tDUpd (tVar 9) (tDisp [((tC (.str "has")), (tC (.bl false))), ((tC (.str "askers")), (tLst tNil)), ((tC (.str "asked")), (tLst tNil)), ((tC (.str "told")), (tLst tNil)), ((tC (.str "owed")), (tC (.int 0))), ((tC (.str "waker")), (tC .non)), ((tC (.str "out")), (tLst tNil)), ((tC (.str "mine")), (tLst tNil))])))
    (tSeq (tAsg (tMake A.cHand (sp_Hand_init K A) [] E0 (tCons (tVar 8) (tCons (tVar 6) (tCons (tVar 7) tNil)))) (gName 10))
    (tSeq (tIfS (tOr (tNot (tB (tCall (sp_kept K A) [] E0 (tCons (tVar 10) (tCons (tVar 9) tNil))))) (tTest (tOp (rNeD K) (tVar 5) (tVar 4))))
    (tRet (tC (.bl false)))
    tNext)
    (tSeq (tDrop (tBM K "list" rAppend (tVar 5) (tCons (tVar 8) tNil)))
    (tSeq (tDrop (tBM0 K "list" rReverse (tVar 5)))
    (Evl.tCut (tIfS (tB (tVar 7))
    (tSeq (sDPut (tVar 9) (tC (.str "has")) (tOp qGt (tVar 2) (tC (.int 0))))
    (tSeq (tAsg (tMeth A.cHand "begin" (sp_Hand_begin K A) [] E0 (tVar 10) tNil) (gName 11))
    (tSeq (tIfS (tOr (tNot (tB (tCall (sp_alike K A) [] E0 (tCons (tVar 11) (tCons (tCall (sp_sent K A) [] E0 (tCons (tVar 9) (tCons (tC (.str "ask")) (tCons (tVar 4) tNil)))) tNil))))) (tNot (tB (tCall (sp_kept K A) [] E0 (tCons (tVar 10) (tCons (tVar 9) tNil))))))
    (tRet (tC (.bl false)))
    tNext)
    (tDrop (tBM0 K "list" rClear (tVar 11))))))
    tNext)
    (tSeq (tFor (iList K (tSl (rSlL K) (tVar 0) (tPart (tC (.int 3))) (tPart (tC (.int 43))))) (gName 12)
    (tSeq (tAsg (tCall (sp_letter K A) [] E0 (tCons (tVar 9) (tCons (tVar 12) tNil))) (gName 13))
    (tIfS (tTest (tOp rNe (tOp (rIxT K) (tVar 13) (tC (.int 0))) (tC (.str ""))))
    (tSeq (tAsg (tCall (sp_come K A) [] E0 (tCons (tVar 9) (tCons (tOp (rIxT K) (tVar 13) (tC (.int 0))) (tCons (tOp (rIxT K) (tVar 13) (tC (.int 1))) tNil)))) (gName 14))
    (tSeq (tAsg (tMeth A.cHand "come" (sp_Hand_come K A) [] E0 (tVar 10) (tCons (tTup (tCons (tOp (rIxT K) (tVar 13) (tC (.int 0))) (tCons (tOp (rIxT K) (tVar 13) (tC (.int 1))) (tCons (tVar 8) tNil)))) tNil)) (gName 11))
    (tSeq (tIfS (tOr (tNot (tB (tCall (sp_alike K A) [] E0 (tCons (tVar 11) (tCons (tVar 14) tNil))))) (tNot (tB (tCall (sp_kept K A) [] E0 (tCons (tVar 10) (tCons (tVar 9) tNil))))))
    (tRet (tC (.bl false)))
    tNext)
    (tDrop (tBM K "list" rAppend (tVar 11) (tCons (tTup (tCons (tC (.str "ask")) (tCons (tVar 8) (tCons (tVar 8) tNil)))) tNil))))))
    tNext)))
    (tRet (tC (.bl true))))))))))))))))))))
theorem rd_law {K : PySem.W.Frag} {A : Ad} (O : HandOk K A) {a : V} {H : Hp} {Q : VK} {E : XK} (h : pr_law K a H Q E) : t_law K A { nx := fun _ H' => Q .non H', rt := Q } [some a, none, none, none, none, none, none, none, none, none, none, none, none, none, none] H := by
  obtain ⟨p, ns, rfl, hs, hn63, q⟩ := h
  have Z : Zs H H H H [] := Zs.start (Same.refl _)
  unfold t_law
  walk_at "rd"
  refine ⟨p, ns, 0, rfl, rfl, hs, by decide, ?_⟩
  walk_at "rd"
  refine lc_rng (by omega) Z (fun i acc F' => acc = ((List.range i).map fun (k : Nat) => (cellAt ns 1 + (k : Int) * (1 + 2 * (cellAt ns 0 / 21 % 3))) % 40).map V.int) (fun _ => rfl) rfl ?_ ?_
  · rintro i Dl F' H1 acc hi Z1 sm hacc rfl
    dsimp only [wipe]
    walk_at "rd"
    refine ifT rfl ?_
    walk_at "rd"
    refine ⟨p, ns, 1, rfl, rfl, Z1.hh.seq hs, by decide, ?_⟩
    walk_at "rd"
    refine cy Z1 sm hacc (by omega) ?_
    rw [List.range_succ, List.map_append, List.map_append] <;> rfl
  rintro po F1 H1 acc Z sm rfl
  replace Z := Z.weak (Same.refl _) sm
  obtain ⟨F1, Z, sm, eo⟩ := Z.frzAt 0 rfl
  replace eo : F1 po = some (.lst ((os5 ns).map V.int)) := eo
  replace Z : Zs H H F1 H1 [] := Z
  walk_at "rd"
  refine r_listL (SqL.of (Z.fix eo)) Z ?_
  intro ph H2 Z
  walk_at "rd"
  refine r_cut (fun σ' H' => ∃ (F' : Hp) (w : V), σ' = [some (.ref p), some (.int (cellAt ns 0)), some (.int (cellAt ns 0 / 3 % 7)), none, some (.ref po), some (.ref ph), some w, none, none, none, none, none, none, none, none] ∧ Zs H H F' H' [(ph, .lst ((os5 ns).map V.int))] ∧ Same F1 F' ∧ WtIn F' [(ph, .lst ((os5 ns).map V.int))] w (wt5 ns)) ?_ ?_
  · walk_at "rd"
    refine ifd (fun e => ?_) (fun e => ?_)
    · walk_at "rd"
      refine r_mk sz2 Z ?_
      intro p1 H3 Z3
      walk_at "rd"
      refine r_ixL (SqL.of (Z3.get (i := 0) rfl)) (word_at (by omega) (by omega)) ?_
      replace Z3 := Z3.drop
      walk_at "rd"
      refine r_mk sz2 Z3 ?_
      intro p2 H4 Z4
      obtain ⟨F4, Z4, s4, e4⟩ := Z4.frzAt 0 rfl
      walk_at "rd"
      refine ⟨F4, .ref p2, rfl, Z4, s4, .inr ⟨decide (cellAt ns 0 % 2 = 1), os5 ns, p2, ph, ?_, rfl, e4, .inr List.mem_cons_self⟩⟩
      unfold wt5
      rw [if_pos e]
    · walk_at "rd"
      refine ⟨F1, .non, rfl, Z, Same.refl _, .inl ⟨?_, rfl⟩⟩
      unfold wt5
      rw [if_neg e]
  rintro σ' H3 ⟨F2, w, rfl, Z, s2, hw⟩
  have Zw := Z
  walk_at "rd"
  refine ⟨p, ns, 2, rfl, rfl, Z.hh.seq hs, by decide, ?_⟩
  walk_at "rd"
  refine ⟨p, ns, 2, rfl, rfl, Z.hh.seq hs, by decide, ?_⟩
  walk_at "rd"
  refine r_cut (fun σ' H' => H3 = H' ∧ ∃ num : Int, σ' = [some (.ref p), some (.int (cellAt ns 0)), some (.int (cellAt ns 0 / 3 % 7)), none, some (.ref po), some (.ref ph), some w, some (.bl (decide (cellAt ns 2 % 2 = 1))), some (.int num), none, none, none, none, none, none]) ?_ ?_
  · walk_at "rd"
    refine ⟨p, ns, 2, rfl, rfl, Z.hh.seq hs, by decide, ?_⟩
    walk_at "rd"
    refine ifd (fun e => ?_) (fun e => ?_)
    · walk_at "rd"
      refine ifd (fun e2 => ?_) (fun e2 => ?_)
      · walk_at "rd"
        refine ⟨p, ns, 2, rfl, rfl, Z.hh.seq hs, by decide, ?_⟩
        walk_at "rd"
        have h0 := Int.emod_nonneg (cellAt ns 2 / 320) (show cellAt ns 0 / 3 % 7 ≠ 0 by omega)
        have h1 := Int.emod_lt_of_pos (cellAt ns 2 / 320) (show 0 < cellAt ns 0 / 3 % 7 by omega)
        have hlt : (cellAt ns 2 / 320 % (cellAt ns 0 / 3 % 7)).toNat < (os5 ns).length := by rw [os5_len]; omega
        refine r_ixL (SqL.of (Z.fix (s2 _ _ eo))) (at_i h0 (get_ints hlt)) ?_
        walk_at "rd"
        exact ⟨rfl, _, rfl⟩
      · walk_at "rd"
        exact ⟨rfl, _, rfl⟩
    · refine ifF rfl ?_
      walk_at "rd"
      exact ⟨rfl, _, rfl⟩
  rintro σ' H4 ⟨rfl, num, rfl⟩
  walk_at "rd"
  refine r_disp Z ?_
  intro pd H5 Z
  walk_at "rd"
  refine r_mk sz2 Z ?_
  intro p3 H6 Z
  walk_at "rd"
  refine r_ixL (SqL.of (Z.get (i := 0) rfl)) (word_at (by omega) (by omega)) ?_
  replace Z := Z.drop
  walk_at "rd"
  refine r_dispQ 0 (d1 (.int num) (.str (wd (decide (cellAt ns 0 % 2 = 1)))) (.ref po) (.bl (decide (cellAt ns 2 % 2 = 1))) (.bl (decide (cellAt ns 0 / 3 % 7 = 0)))) Z rfl rfl (by show 5 ≤ 15; decide) ?_
  intro H7 Z
  walk_at "rd"
  refine r_dupd ?_
  walk_at "rd"
  refine r_du1 (Z.get (i := 0) rfl) ?_
  refine r_disp Z ?_
  intro pe H8 Z
  walk_at "rd"
  refine r_mk sz0 Z ?_
  intro la H9 Z
  walk_at "rd"
  refine r_mk sz0 Z ?_
  intro lk H9 Z
  walk_at "rd"
  refine r_mk sz0 Z ?_
  intro lt H9 Z
  walk_at "rd"
  refine r_mk sz0 Z ?_
  intro lu H9 Z
  walk_at "rd"
  refine r_mk sz0 Z ?_
  intro lm H9 Z
  walk_at "rd"
  refine r_dispQ 5 (d2 (.bl false) (.ref la) (.ref lk) (.ref lt) (.int 0) .non (.ref lu) (.ref lm)) Z rfl rfl (by show 8 ≤ 15; decide) ?_
  intro H10 Z
  refine r_du2 6 5 Z rfl rfl (by decide) (by have h1 := length_mergeK (d1 (.int num) (.str (wd (decide (cellAt ns 0 % 2 = 1)))) (.ref po) (.bl (decide (cellAt ns 2 % 2 = 1))) (.bl (decide (cellAt ns 0 / 3 % 7 = 0)))) []; have h2 := length_mergeK (d2 (.bl false) (.ref la) (.ref lk) (.ref lt) (.int 0) .non (.ref lu) (.ref lm)) []; have e1 : (d1 (.int num) (.str (wd (decide (cellAt ns 0 % 2 = 1)))) (.ref po) (.bl (decide (cellAt ns 2 % 2 = 1))) (.bl (decide (cellAt ns 0 / 3 % 7 = 0)))).length = 5 := rfl; have e2 : (d2 (.bl false) (.ref la) (.ref lk) (.ref lt) (.int 0) .non (.ref lu) (.ref lm)).length = 8 := rfl; rw [e1, List.length_nil] at h1; rw [e2, List.length_nil] at h2; omega) ?_
  intro H11 Z
  have Z1 : Zs H H F2 H11 (dL ⟨pd, po, la, lk, lt, lu, lm⟩ (s5 ns num) [] [(ph, .lst ((os5 ns).map V.int))]) := by
    have Z2 : Zs H H F2 H11 [(lm, HO.lst []), (lu, HO.lst []), (lt, HO.lst []), (lk, HO.lst []), (la, HO.lst []), (pd, .dK (mergeK (mergeK [] (d1 (.int num) (.str (wd (decide (cellAt ns 0 % 2 = 1)))) (.ref po) (.bl (decide (cellAt ns 2 % 2 = 1))) (.bl (decide (cellAt ns 0 / 3 % 7 = 0))))) (mergeK [] (d2 (.bl false) (.ref la) (.ref lk) (.ref lt) (.int 0) .non (.ref lu) (.ref lm))))), (ph, HO.lst ((os5 ns).map V.int))] := Z.dropAt 5
    rw [d_merge] at Z2
    have e : HO.dK (d1 (.int num) (.str (wd (decide (cellAt ns 0 % 2 = 1)))) (.ref po) (.bl (decide (cellAt ns 2 % 2 = 1))) (.bl (decide (cellAt ns 0 / 3 % 7 = 0))) ++ d2 (.bl false) (.ref la) (.ref lk) (.ref lt) (.int 0) .non (.ref lu) (.ref lm)) = dI ⟨pd, po, la, lk, lt, lu, lm⟩ (s5 ns num) := by
      unfold dI df
      rw [show (s5 ns num).hs.free = _ from free5 ns num _]
      rfl
    rw [e] at Z2
    refine Z2.perm ?_
    refine (List.perm_append_comm_assoc [(lm, HO.lst []), (lu, HO.lst []), (lt, HO.lst []), (lk, HO.lst []), (la, HO.lst [])] [(pd, _)] [(ph, HO.lst ((os5 ns).map V.int))]).trans ?_
    refine List.Perm.cons _ ?_
    have hp : ([(lm, HO.lst []), (lu, HO.lst []), (lt, HO.lst []), (lk, HO.lst []), (la, HO.lst [])] ++ [(ph, HO.lst ((os5 ns).map V.int))]).Perm ([(la, HO.lst []), (lk, HO.lst []), (lt, HO.lst []), (lu, HO.lst []), (lm, HO.lst [])] ++ [(ph, HO.lst ((os5 ns).map V.int))]) := List.Perm.append_right _ (List.reverse_perm [(la, HO.lst []), (lk, HO.lst []), (lt, HO.lst []), (lu, HO.lst []), (lm, HO.lst [])])
    exact hp
  clear Z
  have Z := Z1
  clear Z1
  walk_at "rd"
  refine r_makeQ Z ?_
  intro x dx H12 Z
  walk_at "rd"
  refine ⟨H, H, F2, _, x, dx, num, wt5 ns, _, rfl, rfl, rfl, ?_, Z, ?_⟩
  · rcases hw with h | ⟨b, os, pw, l, e1, e2, e3, e4⟩
    · exact .inl h
    · refine .inr ⟨b, os, pw, l, e1, e2, e3, ?_⟩
      rcases e4 with e4 | e4
      · exact .inl e4
      · refine .inr ?_
        simp only [List.mem_cons, List.not_mem_nil, or_false] at e4
        rw [e4]
        simp
  rintro F3 H13 r Z13 s3 rfl ero
  refine ⟨rfl, ?_⟩
  clear Z
  have Z : Zs H H F3 H13 (hL A r (s5 ns num).hs (dL ⟨pd, po, la, lk, lt, lu, lm⟩ (s5 ns num) [] [(ph, .lst ((os5 ns).map V.int))])) := Z13
  have eo3 : F3 po = some (.lst ((os5 ns).map V.int)) := s3 _ _ (s2 _ _ eo)
  walk_at "rd"
  refine ⟨r, _, ⟨pd, po, la, lk, lt, lu, lm⟩, _, rfl, rfl, Z.get (i := 0) rfl, Z.get (i := 1) rfl, Z.get (i := 3) rfl, Z.get (i := 4) rfl, rfl, rfl, rfl, rfl, rfl, ?_⟩
  walk_at "rd"
  refine ifF rfl ?_
  walk_at "rd"
  refine r_neD (Td.ints_lst (Z.get (i := 9) rfl)) (Td.ints_lst (Z.fix eo3)) (shaped_ints _) (shaped_ints _) ?_
  rw [eqv_ints, decide_eq_true rfl]
  walk_at "rd"
  refine ifF rfl ?_
  walk_at "rd"
  refine ⟨ty_l (SqL.of (Z.get (i := 9) rfl)), ?_⟩
  walk_at "rd"
  refine r_append 9 Z rfl (by rw [List.length_map, os5_len]; omega) ?_
  intro H14 Z
  walk_at "rd"
  refine ⟨ty_l (SqL.of (Z.get (i := 9) rfl)), ?_⟩
  refine r_reverse 9 Z rfl ?_
  intro H15 Z
  have Zd : Zs H H F3 H15 (hL A r (s5 ns num).hs (dL ⟨pd, po, la, lk, lt, lu, lm⟩ (s5 ns num) [] [])) := Z.dropAt 9
  clear Z
  have Z := Zd
  clear Zd
  have di := di5 ns num
  have bi := bi5 ns num
  have hoth : (s5 ns num).hs.others = os5 ns := oth5 ns num _
  have hol := os5_len ns
  walk_at "rd"
  refine r_cut (fun σ' H' => (∃ y11, σ' = sl5 p po ph pd (cellAt ns 0) (cellAt ns 0 / 3 % 7) num w (decide (cellAt ns 2 % 2 = 1)) r.x y11 none none none) ∧ LW A H H num 0 r ⟨pd, po, la, lk, lt, lu, lm⟩ H') ?_ ?_
  · walk_at "rd"
    refine ifd (fun e => ?_) (fun e => ?_)
    · walk_at "rd"
      refine dp_has (hd_swap Z) ?_
      intro H16 Z16
      replace Z16 := dh_swap Z16
      walk_at "rd"
      refine r_methQ (Z16.get (i := 0) rfl) rfl ?_
      walk_at "rd"
      refine ⟨H, H, F3, _, r, (s5 ns num).hs, rfl, Z16, ero, by rw [hoth, hol]; omega, ?_⟩
      intro F4 H17 l vs Z17 s4 hv
      walk_at "rd"
      -- sent
      have Z18 := qhd Z17
      generalize es1 : ({ s5 ns num with hs := { (s5 ns num).hs with has := decide (0 < cellAt ns 0 / 3 % 7) } } : DS) = s1 at *
      have e1 : s1.hs.others = os5 ns := by rw [← es1]; exact hoth
      have e2 : (sentL s1 "ask" (os5 ns)).1.hs = (begin (s5 ns num).hs).1 ∧ (sentL s1 "ask" (os5 ns)).2 = (begin (s5 ns num).hs).2 := by
        have ef : (s5 ns num).hs.free = decide (cellAt ns 0 / 3 % 7 = 0) := free5 ns num _
        by_cases e0 : cellAt ns 0 / 3 % 7 = 0
        · have eos : os5 ns = [] := List.eq_nil_of_length_eq_zero (by rw [hol, e0]; rfl)
          unfold begin
          rw [if_pos (by rw [ef, e0]; rfl), eos, ← es1]
          have e9 : decide (0 < cellAt ns 0 / 3 % 7) = false := decide_eq_false (by omega)
          rw [e9]
          exact ⟨rfl, rfl⟩
        · unfold begin
          rw [if_neg (by rw [ef, decide_eq_false e0]; decide), ← es1]
          have e9 : decide (0 < cellAt ns 0 / 3 % 7) = true := decide_eq_true (by omega)
          unfold asking
          rw [e9, ← hoth]
          exact ⟨rfl, rfl⟩
      have di1 : DI 0 s1 := by rw [← es1]; exact di.upd rfl rfl rfl rfl rfl rfl rfl rfl rfl
      refine ⟨H, H, F4, _, ⟨pd, po, la, lk, lt, lu, lm⟩, s1, [], "ask", os5 ns, po, rfl, rfl, rfl, Z18, by rw [← es1]; exact .nil, .inl (s4 _ _ eo3), by omega, by rw [← es1]; exact Nat.zero_le _, by rw [← es1]; exact Nat.zero_le _, ?_⟩
      intro F5 H19 l2 vs2 ms2 Z19 s5' hm hv2
      have dis := di1.sent (w := "ask") (rs := os5 ns) (.inl rfl) (fun q => absurd q (by decide))
      have eo5 : F5 r.o = some (.lst ((sentL s1 "ask" (os5 ns)).1.hs.others.map V.int)) := by
        show F5 r.o = some (.lst (s1.hs.others.map V.int))
        rw [e1, ← hoth]
        exact s5' _ _ (s4 _ _ ero)
      have eo6 : F5 po = some (.lst ((sentL s1 "ask" (os5 ns)).1.hs.others.map V.int)) := by
        show F5 po = some (.lst (s1.hs.others.map V.int))
        rw [e1]
        exact s5' _ _ (s4 _ _ eo3)
      have bis : BI 0 (sentL s1 "ask" (os5 ns)).1 := by
        refine ⟨?_, ?_, ?_, ?_, ?_⟩
        · show s1.hs.others.length ≤ 6
          rw [e1, hol]; omega
        · rw [← es1]; exact Nat.le_refl _
        · rw [← es1]; exact Nat.le_refl _
        · rw [← es1]; exact Nat.le_refl _
        · show (s1.out ++ os5 ns).length ≤ _
          rw [← es1]
          show (os5 ns).length ≤ _
          rw [hol]; omega
      have enum : (sentL s1 "ask" (os5 ns)).1.hs.number = num := by rw [← es1]; rfl
      generalize ep : sentL s1 "ask" (os5 ns) = p1 at *
      obtain ⟨e21, e22⟩ := e2
      rw [← e21] at Z19
      rw [← e22] at hv
      replace Z19 : Zs H H F5 H19 ((l2, .lst vs2) :: dL ⟨pd, po, la, lk, lt, lu, lm⟩ p1.1 ms2 (hL A r p1.1.hs [(l, .lst vs)])) := by
        exact Z19
      walk_at "rd"
      have hwd : ∀ l ∈ p1.2, Wd3 l.1 := by
        rw [← ep]
        exact posted_w (.inl rfl)
      have hlen : p1.2.length ≤ 50000 := by rw [← ep, len_sentL, hol]; omega
      refine ⟨p1.2, .lst (Z19.get (i := 10) rfl) ((hv.up s5').up Z19.fh), .lst (Z19.get (i := 0) rfl) (hv2.up Z19.fh), hwd, hlen, ?_⟩
      intro H20 sm20
      have Z20 := Z19.ext sm20
      walk_at "rd"
      refine ifF rfl ?_
      walk_at "rd"
      refine ⟨r, p1.1.hs, ⟨pd, po, la, lk, lt, lu, lm⟩, p1.1, rfl, rfl, Z20.get (i := 7) rfl, Z20.get (i := 8) rfl, Z20.get (i := 1) rfl, Z20.get (i := 2) rfl, rfl, rfl, rfl, rfl, rfl, ?_⟩
      walk_at "rd"
      refine ifF rfl ?_
      walk_at "rd"
      refine ⟨ty_l (SqL.of (Z20.get (i := 10) rfl)), ?_⟩
      refine r_clear 10 Z20 rfl ?_
      intro H21 Z21
      replace Z21 : Zs H H F5 H21 (dL ⟨pd, po, la, lk, lt, lu, lm⟩ p1.1 ms2 (hL A r p1.1.hs [])) := (Z21.dropAt 10).drop
      exact ⟨⟨_, rfl⟩, F5, p1.1, ms2, Z21.ff, dh_swap Z21, hm, dis, bis, eo5, eo6, enum⟩
    · walk_at "rd"
      exact ⟨⟨none, rfl⟩, F3, s5 ns num, [], Z.ff, Z, .nil, di, bi, ero, by rw [hoth]; exact eo3, rfl⟩
  rintro σ' H16 ⟨⟨y11, rfl⟩, hL1⟩
  generalize hr2 : (⟨pd, po, la, lk, lt, lu, lm⟩ : DR) = r2 at *
  have epd : pd = r2.d := by rw [← hr2]
  clear hr2
  subst epd
  obtain ⟨F4, s4, ms4, _, Z4, hm4, di4, bi4, o4, o4', n4⟩ := hL1
  walk_at "rd"
  refine r_slL Z4 (Z4.hh.seq hs) ?_
  intro ps H17 Z17
  have ecut : cutV (ns.map V.int) (some 3) (some 43) = ((ns.drop 3).take 40).map V.int := by
    have := cut_range (ns.map V.int) 3 43
    rw [List.map_take, List.map_drop]
    exact this
  rw [ecut] at Z17
  generalize hxs : (ns.drop 3).take 40 = cs at *
  have hcs : cs.length ≤ 40 := by rw [← hxs]; exact List.length_take_le _ _
  obtain ⟨F17, Z18, s17, e17⟩ := Z17.frzAt 0 rfl
  refine r_lstI (SqL.of (Z18.fix e17)) (fun i σ' H' => (∃ y11 y12 y13 y14, σ' = sl5 p po ph r2.d (cellAt ns 0) (cellAt ns 0 / 3 % 7) num w (decide (cellAt ns 2 % 2 = 1)) r.x y11 y12 y13 y14) ∧ LW A H F17 num i r r2 H') ⟨⟨_, _, _, _, rfl⟩, F17, s4, ms4, Same.refl _, Z18, hm4.up s17, di4, bi4, s17 _ _ o4, s17 _ _ o4', n4⟩ ?_ ?_ ?_
  · rintro i σ' H' _ ⟨_, F', s, ms, sm, Z, _⟩
    exact SqL.of (Z.fix (sm _ _ e17))
  · rintro i y σ' H18 hy ⟨⟨y11, y12, y13, y14, rfl⟩, F', s, ms, sm, Z, hm, di, bi, o, o', n⟩
    obtain ⟨cell, hc, rfl⟩ := of_get_ints hy
    have hi : i < cs.length := (List.getElem?_eq_some_iff.mp hc).1
    have ds := di.dsf bi (by omega) o'
    walk_at "rd"
    refine ⟨H, H, F', hL A r s.hs [], r2, s, ms, cell, rfl, rfl, hd_swap Z, hm, ds, fun p hp => (di.mi p hp).2, ?_⟩
    intro F5 H5 l wd1 j s1 ms1 lr Z5 s5' hm5 el
    walk_at "rd"
    refine r_ixT (SqT.of (Z5.fix el)) (at_i (by decide) rfl) ?_
    walk_at "rd"
    refine ifn (fun ew => ?_) (fun ew => ?_)
    · obtain ⟨g1, g2, g3, g4, g5, g6, g7, g8, g9⟩ := let_di di lr ew
      have bi1 : BI i s1 := bi.of g1 g3 g4
      obtain ⟨c1, c2, c3⟩ := come_ok g8 g5 g7
      have c4 := come_b (w := wd1) (j := j) bi1 (by omega)
      have hf1 : HsF F5 r s1.hs := ⟨by rw [g1]; exact s5' _ _ o, by have := bi1.no; omega, by have := bi1.na; omega, by have := bi1.nt; omega⟩
      have hlc := len_come (w := wd1) (j := j) hf1
      have ds1 : DsF F5 r2 s1 := by
        have h1 := bi1.no
        have h2 := bi1.na
        have h3 := bi1.nt
        have h4 := bi1.nk
        have h5 := bi1.nu
        have h6 := di.mine_le
        have h7 := bi.nu
        exact ⟨by rw [g1]; exact s5' _ _ o', by omega, by omega, by omega, by omega, by omega, by omega⟩
      have kp := keep_come (s := s1.hs) (w := wd1) (j := j)
      rw [← g1] at Z5
      walk_at "rd"
      refine r_ixT (SqT.of (Z5.fix el)) (at_i (by decide) rfl) ?_
      walk_at "rd"
      refine r_ixT (SqT.of (Z5.fix el)) (at_i (by decide) rfl) ?_
      walk_at "rd"
      refine ⟨H, H, F5, _, r2, s1, ms1, wd1, j, rfl, rfl, rfl, Z5, hm5, ds1, g6, ?_⟩
      intro F6 H6 l2 vs ms6 Z6 s6 hm6 hv6
      generalize comeL s1 wd1 j = p2 at *
      walk_at "rd"
      refine r_methQ (Z6.get (i := 7) rfl) rfl ?_
      walk_at "rd"
      refine r_ixT (SqT.of (Z6.fix (s6 _ _ el))) (at_i (by decide) rfl) ?_
      walk_at "rd"
      refine r_ixT (SqT.of (Z6.fix (s6 _ _ el))) (at_i (by decide) rfl) ?_
      walk_at "rd"
      refine r_mk sz3 Z6 ?_
      intro p3 H7 Z7
      obtain ⟨F7, Z7, s7, e7⟩ := Z7.frzAt 0 rfl
      replace Z7 : Zs H H F7 H7 ((l2, .lst vs) :: dL r2 p2.1 ms6 (hL A r s1.hs [])) := Z7
      walk_at "rd"
      refine ⟨H, H, F7, _, r, s1.hs, wd1, j, num, p3, rfl, rfl, e7, qdh Z7, hf1.up (s6.trans s7), ?_⟩
      intro F8 H8 l3 ws Z8 s8 hw8
      rw [← c1] at Z8
      rw [← c2] at hw8
      walk_at "rd"
      refine ⟨p2.2, .lst (Z8.get (i := 0) rfl) (hw8.up Z8.fh), .lst (Z8.get (i := 10) rfl) (((hv6.up s7).up s8).up Z8.fh), ?_, ?_, ?_⟩
      · rw [c2]; exact come_w
      · rw [c2]; omega
      intro H9 sm9
      have Z9 := Z8.ext sm9
      walk_at "rd"
      refine ifF rfl ?_
      walk_at "rd"
      refine ⟨r, p2.1.hs, r2, p2.1, rfl, rfl, Z9.get (i := 1) rfl, Z9.get (i := 2) rfl, Z9.get (i := 4) rfl, Z9.get (i := 5) rfl, rfl, rfl, rfl, rfl, rfl, ?_⟩
      walk_at "rd"
      refine ifF rfl ?_
      walk_at "rd"
      refine ⟨ty_l (SqL.of (Z9.get (i := 0) rfl)), ?_⟩
      walk_at "rd"
      refine r_mk sz3 Z9 ?_
      intro p4 H10 Z10
      walk_at "rd"
      refine r_append 1 Z10 rfl (by have := hw8.len; rw [len_dLts, c2] at this; omega) ?_
      intro H11 Z11
      replace Z11 : Zs H H F8 H11 (hL A r p2.1.hs (dL r2 p2.1 ms6 [])) := ((Z11.drop).drop).dropAt 9
      have eo : p2.1.hs.others = s.hs.others := by rw [c1, kp.others, g1]
      refine ⟨⟨_, _, _, _, rfl⟩, F8, p2.1, ms6, ?_, Z11, (hm6.up s7).up s8, c3, c4, ?_, ?_, ?_⟩
      · exact ((sm.trans s5').trans s6).trans (s7.trans s8)
      · rw [eo]; exact s8 _ _ (s7 _ _ (s6 _ _ (s5' _ _ o)))
      · rw [eo]; exact s8 _ _ (s7 _ _ (s6 _ _ (s5' _ _ o')))
      · rw [c1, kp.number, g1]; exact n
    · walk_at "rd"
      rcases lr with ⟨i1, h1, _, _⟩ | ⟨rfl, rfl, _⟩
      · have h2 := (di.mi _ (List.mem_of_getElem? h1)).2
        replace h2 : Wd3 wd1 := h2
        rw [ew] at h2
        rcases h2 with h2 | h2 | h2 <;> exact absurd h2 (by decide)
      · exact ⟨⟨_, _, _, _, rfl⟩, F5, s1, ms1, sm.trans s5', dh_swap Z5, hm5, di, bi.up, s5' _ _ o, s5' _ _ o', n⟩
  · rintro σ' H' _
    walk_at "rd"
    exact q H'
end SB
/-! ## the text, by places -/
namespace SB
open PySem L2
def top (i : Nat) : Stmt := PySem.Challenge.pw_stuckbell_k05_one_hand.main.body.getD i (.Pass ⟨0, 0, 0, 0⟩)
abbrev s_Hand_init : Stmt := inClass (top 1) 0
theorem sc_Hand_init : FnScope ["self", "number", "wait", "is_asker"] ["self", "number", "wait", "is_asker"] (defScope s_Hand_init) := ⟨rfl, rfl, rfl, by decide +kernel, rfl, by decide +kernel, by decide +kernel⟩
abbrev s_Hand_posted : Stmt := inClass (top 1) 1
theorem sc_Hand_posted : FnScope ["self", "word", "receivers", "one"] ["self", "word", "receivers"] (defScope s_Hand_posted) := ⟨rfl, rfl, rfl, by decide +kernel, rfl, by decide +kernel, by decide +kernel⟩
abbrev s_Hand_asking : Stmt := inClass (top 1) 2
theorem sc_Hand_asking : FnScope ["self"] ["self"] (defScope s_Hand_asking) := ⟨rfl, rfl, rfl, by decide +kernel, rfl, by decide +kernel, by decide +kernel⟩
abbrev s_Hand_begin : Stmt := inClass (top 1) 3
theorem sc_Hand_begin : FnScope ["self"] ["self"] (defScope s_Hand_begin) := ⟨rfl, rfl, rfl, by decide +kernel, rfl, by decide +kernel, by decide +kernel⟩
abbrev s_Hand_asked_by : Stmt := inClass (top 1) 4
theorem sc_Hand_asked_by : FnScope ["self", "sender"] ["self", "sender"] (defScope s_Hand_asked_by) := ⟨rfl, rfl, rfl, by decide +kernel, rfl, by decide +kernel, by decide +kernel⟩
abbrev s_Hand_told_by : Stmt := inClass (top 1) 5
theorem sc_Hand_told_by : FnScope ["self", "sender"] ["self", "sender"] (defScope s_Hand_told_by) := ⟨rfl, rfl, rfl, by decide +kernel, rfl, by decide +kernel, by decide +kernel⟩
abbrev s_Hand_come : Stmt := inClass (top 1) 6
theorem sc_Hand_come : FnScope ["self", "letter", "word", "sender", "receiver", "found"] ["self", "letter"] (defScope s_Hand_come) := ⟨rfl, rfl, rfl, by decide +kernel, rfl, by decide +kernel, by decide +kernel⟩
abbrev s_cell_at : Stmt := top 3
theorem sc_cell_at : FnScope ["_law_script", "_law_k"] ["_law_script", "_law_k"] (defScope s_cell_at) := ⟨rfl, rfl, rfl, by decide +kernel, rfl, by decide +kernel, by decide +kernel⟩
abbrev s_alike : Stmt := top 4
theorem sc_alike : FnScope ["_law_found", "_law_due", "_law_k", "_law_one"] ["_law_found", "_law_due"] (defScope s_alike) := ⟨rfl, rfl, rfl, by decide +kernel, rfl, by decide +kernel, by decide +kernel⟩
abbrev s_kept : Stmt := top 5
theorem sc_kept : FnScope ["_law_hand", "_law_s"] ["_law_hand", "_law_s"] (defScope s_kept) := ⟨rfl, rfl, rfl, by decide +kernel, rfl, by decide +kernel, by decide +kernel⟩
abbrev s_sent : Stmt := top 6
theorem sc_sent : FnScope ["_law_s", "_law_word", "_law_hands", "_law_one"] ["_law_s", "_law_word", "_law_hands"] (defScope s_sent) := ⟨rfl, rfl, rfl, by decide +kernel, rfl, by decide +kernel, by decide +kernel⟩
abbrev s_sent_back : Stmt := top 7
theorem sc_sent_back : FnScope ["_law_s", "_law_hand"] ["_law_s", "_law_hand"] (defScope s_sent_back) := ⟨rfl, rfl, rfl, by decide +kernel, rfl, by decide +kernel, by decide +kernel⟩
abbrev s_come : Stmt := top 8
theorem sc_come : FnScope ["_law_s", "_law_word", "_law_sender", "_law_found"] ["_law_s", "_law_word", "_law_sender"] (defScope s_come) := ⟨rfl, rfl, rfl, by decide +kernel, rfl, by decide +kernel, by decide +kernel⟩
abbrev s_letter : Stmt := top 9
theorem sc_letter : FnScope ["_law_s", "_law_cell", "_law_one", "_law_senders", "_law_tellers", "_law_out"] ["_law_s", "_law_cell"] (defScope s_letter) := ⟨rfl, rfl, rfl, by decide +kernel, rfl, by decide +kernel, by decide +kernel⟩
abbrev s_law : Stmt := top 10
theorem sc_law : FnScope ["_law_script", "_law_cell", "_law_many", "_law_k", "_law_others", "_law_handed", "_law_wait", "_law_first", "_law_number", "_law_s", "_law_hand", "_law_found", "_law_turn", "_law_letter_here", "_law_due"] ["_law_script"] (defScope s_law) := ⟨rfl, rfl, rfl, by decide +kernel, rfl, by decide +kernel, by decide +kernel⟩
/-- what the top has left -/
structure Tx (K : PySem.W.Frag) (mg : Str → Option Value) (A : Ad) where
  f_Hand_init : Addr
  fd_Hand_init : FuncData
  F_Hand_init : Fun K "__init__" "Hand.__init__" s_Hand_init f_Hand_init fd_Hand_init
  b_Hand_init : Binds K fd_Hand_init ["self", "number", "wait", "is_asker"] []
  mk_Hand : Mk K A.cHand f_Hand_init
  gc_Hand : mg "Hand" = some (.ref A.cHand)
  f_Hand_posted : Addr
  fd_Hand_posted : FuncData
  F_Hand_posted : Fun K "posted" "Hand.posted" s_Hand_posted f_Hand_posted fd_Hand_posted
  b_Hand_posted : Binds K fd_Hand_posted ["self", "word", "receivers"] []
  me_Hand_posted : Meth K A.cHand "posted" f_Hand_posted
  f_Hand_asking : Addr
  fd_Hand_asking : FuncData
  F_Hand_asking : Fun K "asking" "Hand.asking" s_Hand_asking f_Hand_asking fd_Hand_asking
  b_Hand_asking : Binds K fd_Hand_asking ["self"] []
  me_Hand_asking : Meth K A.cHand "asking" f_Hand_asking
  f_Hand_begin : Addr
  fd_Hand_begin : FuncData
  F_Hand_begin : Fun K "begin" "Hand.begin" s_Hand_begin f_Hand_begin fd_Hand_begin
  b_Hand_begin : Binds K fd_Hand_begin ["self"] []
  me_Hand_begin : Meth K A.cHand "begin" f_Hand_begin
  f_Hand_asked_by : Addr
  fd_Hand_asked_by : FuncData
  F_Hand_asked_by : Fun K "asked_by" "Hand.asked_by" s_Hand_asked_by f_Hand_asked_by fd_Hand_asked_by
  b_Hand_asked_by : Binds K fd_Hand_asked_by ["self", "sender"] []
  me_Hand_asked_by : Meth K A.cHand "asked_by" f_Hand_asked_by
  f_Hand_told_by : Addr
  fd_Hand_told_by : FuncData
  F_Hand_told_by : Fun K "told_by" "Hand.told_by" s_Hand_told_by f_Hand_told_by fd_Hand_told_by
  b_Hand_told_by : Binds K fd_Hand_told_by ["self", "sender"] []
  me_Hand_told_by : Meth K A.cHand "told_by" f_Hand_told_by
  f_Hand_come : Addr
  fd_Hand_come : FuncData
  F_Hand_come : Fun K "come" "Hand.come" s_Hand_come f_Hand_come fd_Hand_come
  b_Hand_come : Binds K fd_Hand_come ["self", "letter"] []
  me_Hand_come : Meth K A.cHand "come" f_Hand_come
  f_cell_at : Addr
  fd_cell_at : FuncData
  F_cell_at : Fun K "_law_cell_at" "_law_cell_at" s_cell_at f_cell_at fd_cell_at
  b_cell_at : Binds K fd_cell_at ["_law_script", "_law_k"] []
  m_cell_at : mg "_law_cell_at" = some (.ref f_cell_at)
  f_alike : Addr
  fd_alike : FuncData
  F_alike : Fun K "_law_alike" "_law_alike" s_alike f_alike fd_alike
  b_alike : Binds K fd_alike ["_law_found", "_law_due"] []
  m_alike : mg "_law_alike" = some (.ref f_alike)
  f_kept : Addr
  fd_kept : FuncData
  F_kept : Fun K "_law_kept" "_law_kept" s_kept f_kept fd_kept
  b_kept : Binds K fd_kept ["_law_hand", "_law_s"] []
  m_kept : mg "_law_kept" = some (.ref f_kept)
  f_sent : Addr
  fd_sent : FuncData
  F_sent : Fun K "_law_sent" "_law_sent" s_sent f_sent fd_sent
  b_sent : Binds K fd_sent ["_law_s", "_law_word", "_law_hands"] []
  m_sent : mg "_law_sent" = some (.ref f_sent)
  f_sent_back : Addr
  fd_sent_back : FuncData
  F_sent_back : Fun K "_law_sent_back" "_law_sent_back" s_sent_back f_sent_back fd_sent_back
  b_sent_back : Binds K fd_sent_back ["_law_s", "_law_hand"] []
  m_sent_back : mg "_law_sent_back" = some (.ref f_sent_back)
  f_come : Addr
  fd_come : FuncData
  F_come : Fun K "_law_come" "_law_come" s_come f_come fd_come
  b_come : Binds K fd_come ["_law_s", "_law_word", "_law_sender"] []
  m_come : mg "_law_come" = some (.ref f_come)
  f_letter : Addr
  fd_letter : FuncData
  F_letter : Fun K "_law_letter" "_law_letter" s_letter f_letter fd_letter
  b_letter : Binds K fd_letter ["_law_s", "_law_cell"] []
  m_letter : mg "_law_letter" = some (.ref f_letter)
  f_law : Addr
  fd_law : FuncData
  F_law : Fun K "law" "law" s_law f_law fd_law
  b_law : Binds K fd_law ["_law_script"] []
  m_law : mg "law" = some (.ref f_law)
  cl_Hand : Cls K A.cHand
  no_Hand_number : NoAttr K A.cHand "number"
  no_Hand_word : NoAttr K A.cHand "word"
  no_Hand_others : NoAttr K A.cHand "others"
  no_Hand_is_asker : NoAttr K A.cHand "is_asker"
  no_Hand_is_freed : NoAttr K A.cHand "is_freed"
  no_Hand_has_asked : NoAttr K A.cHand "has_asked"
  no_Hand_askers : NoAttr K A.cHand "askers"
  no_Hand_told_so : NoAttr K A.cHand "told_so"
  no_Hand_owed : NoAttr K A.cHand "owed"
  no_Hand_waker : NoAttr K A.cHand "waker"
  bi_bool : mg "bool" = none
  bi_int : mg "int" = none
  bi_isinstance : mg "isinstance" = none
  bi_len : mg "len" = none
  bi_list : mg "list" = none
  bi_range : mg "range" = none
  bi_str : mg "str" = none
  bi_tuple : mg "tuple" = none
theorem Tx.handOk {K : PySem.W.Frag} {mg : Str → Option Value} {A : Ad} (T : Tx K mg A) : HandOk K A := ⟨T.cl_Hand, T.no_Hand_number, T.no_Hand_word, T.no_Hand_others, T.no_Hand_is_asker, T.no_Hand_is_freed, T.no_Hand_has_asked, T.no_Hand_askers, T.no_Hand_told_so, T.no_Hand_owed, T.no_Hand_waker⟩
section
variable {P : Program} {w : World} {K : PySem.W.Frag} {mg : Str → Option Value} {base : Heap} {A : Ad}
theorem ok_Hand_init (T : Tx K mg A) : FnOk P w K mg base CX0 1 T.f_Hand_init T.fd_Hand_init ["self", "number", "wait", "is_asker"] (sp_Hand_init K A) := by
  refine T.F_Hand_init.ok sc_Hand_init (fun vs H Q E h => by obtain ⟨a, b, c, d, rfl, h⟩ := h; rfl) (fun cdv A0 outer s H vs Q E hr h => ?_)
  have hu := hu_of hr
  obtain ⟨a, b, c, d, rfl, h⟩ := h
  exact ⟨t_Hand_init K A, (pss_cons (ps_fld (pv 0) (pv 1) rfl)
    (pss_cons (ps_fld (pv 0) pe_non rfl)
    (pss_cons (ps_fld (pv 0) (pe_lst pa_nil) rfl)
    (Evl.pss_cut (ps_if (pt_cmpR op_notNq (pv 2) pe_non (nomark _))
    (pss_cons (ps_fld (pv 0) (pe_ix ix_tup (pv 2) pe_int (fun _ _ => rfl)) rfl)
    (pss_one (ps_fld (pv 0) (pe_callTy call_listq (by rfl) T.bi_list (by decide +kernel) (pa_cons (pe_ix ix_tup (pv 2) pe_int (fun _ _ => rfl)) pa_nil)) rfl)))
    pss_nil)
    (pss_cons (ps_fld (pv 0) (pv 3) rfl)
    (pss_cons (ps_fld (pv 0) (pe_cmpR op_isNq (pv 2) pe_non (nomark _)) rfl)
    (pss_cons (ps_fld (pv 0) pe_bl rfl)
    (pss_cons (ps_fld (pv 0) (pe_lst pa_nil) rfl)
    (pss_cons (ps_fld (pv 0) (pe_lst pa_nil) rfl)
    (pss_cons (ps_fld (pv 0) pe_int rfl)
    (pss_one (ps_fld (pv 0) pe_non rfl)))))))))))),
    rd_Hand_init T.handOk h⟩
theorem ok_Hand_posted (T : Tx K mg A) : FnOk P w K mg base CX0 1 T.f_Hand_posted T.fd_Hand_posted ["self", "word", "receivers"] (sp_Hand_posted K A) := by
  refine T.F_Hand_posted.ok sc_Hand_posted (fun vs H Q E h => by obtain ⟨a, b, c, rfl, h⟩ := h; rfl) (fun cdv A0 outer s H vs Q E hr h => ?_)
  have hu := hu_of hr
  obtain ⟨a, b, c, rfl, h⟩ := h
  exact ⟨t_Hand_posted K A, (pss_cons (ps_fld (pv 0) (pe_op op_add (pe_fld (pv 0) rfl) (pe_callB call_lenq (by rfl) T.bi_len PySem.boot_len (pa_cons (pv 2) pa_nil))) rfl)
    (pss_one (ps_ret (pe_lc (own := [("one", 3)]) (g := (gName 3)) (tt := tYes) (te := (tTup (tCons (tVar 1) (tCons (tFld K (tVar 0) "number") (tCons (tVar 3) tNil))))) rfl sc_Hand_posted.nd (pi_list (pv 2)) (blkOk_by (own := [("one", 3)]) (N := ["self", "word", "receivers", "one"]) (sc := defScope s_Hand_posted) (by decide +kernel)) (fun _ _ _ _ _ => (pg_name (i := 3) sc_Hand_posted.nd rfl (Or.inl rfl))) (fun _ _ _ _ _ => pts_nil) (fun _ _ _ _ _ => (pe_tup (pa_cons (pv 1) (pa_cons (pe_fld (pv 0) rfl) (pa_cons (pv 3) pa_nil))))))))),
    rd_Hand_posted T.handOk h⟩
theorem ok_Hand_asking (T : Tx K mg A) : FnOk P w K mg base CX0 2 T.f_Hand_asking T.fd_Hand_asking ["self"] (sp_Hand_asking K A) := by
  refine T.F_Hand_asking.ok sc_Hand_asking (fun vs H Q E h => by obtain ⟨a, rfl, h⟩ := h; rfl) (fun cdv A0 outer s H vs Q E hr h => ?_)
  have hu := hu_of hr
  obtain ⟨a, rfl, h⟩ := h
  exact ⟨t_Hand_asking K A, (pss_cons (ps_fld (pv 0) pe_bl rfl)
    (pss_one (ps_ret (pe_meth (pv 0) T.cl_Hand T.me_Hand_posted (ok_Hand_posted T) (hr.mono (by decide)) T.b_Hand_posted .nil pass0 (pa_cons pe_str (pa_cons (pe_fld (pv 0) rfl) pa_nil)))))),
    rd_Hand_asking T.handOk h⟩
theorem ok_Hand_begin (T : Tx K mg A) : FnOk P w K mg base CX0 3 T.f_Hand_begin T.fd_Hand_begin ["self"] (sp_Hand_begin K A) := by
  refine T.F_Hand_begin.ok sc_Hand_begin (fun vs H Q E h => by obtain ⟨a, rfl, h⟩ := h; rfl) (fun cdv A0 outer s H vs Q E hr h => ?_)
  have hu := hu_of hr
  obtain ⟨a, rfl, h⟩ := h
  exact ⟨t_Hand_begin K A, (pss_cons (ps_if (pt_val (pe_fld (pv 0) rfl))
    (pss_one (ps_ret (pe_lst pa_nil)))
    pss_nil)
    (pss_one (ps_ret (pe_meth0 (pv 0) T.cl_Hand T.me_Hand_asking (ok_Hand_asking T) (hr.mono (by decide)) T.b_Hand_asking .nil pass0)))),
    rd_Hand_begin T.handOk h⟩
theorem ok_Hand_asked_by (T : Tx K mg A) : FnOk P w K mg base CX0 3 T.f_Hand_asked_by T.fd_Hand_asked_by ["self", "sender"] (sp_Hand_asked_by K A) := by
  refine T.F_Hand_asked_by.ok sc_Hand_asked_by (fun vs H Q E h => by obtain ⟨a, b, rfl, h⟩ := h; rfl) (fun cdv A0 outer s H vs Q E hr h => ?_)
  have hu := hu_of hr
  obtain ⟨a, b, rfl, h⟩ := h
  exact ⟨t_Hand_asked_by K A, (pss_cons (ps_if (pt_val (pe_fld (pv 0) rfl))
    (pss_one (ps_ret (pe_meth (pv 0) T.cl_Hand T.me_Hand_posted (ok_Hand_posted T) (hr.mono (by decide)) T.b_Hand_posted .nil pass0 (pa_cons pe_str (pa_cons (pe_lst (pa_cons (pv 1) pa_nil)) pa_nil)))))
    pss_nil)
    (pss_cons (ps_expr (pe_bm PySem.F.plainAttrs_list PySem.F.slot_list_append PySem.F.type_list_append mt_append (pe_fld (pv 0) rfl) (pa_cons (pv 1) pa_nil)))
    (pss_cons (ps_if (pt_val (pe_fld (pv 0) rfl))
    (pss_one (ps_ret (pe_lst pa_nil)))
    pss_nil)
    (pss_one (ps_ret (pe_meth0 (pv 0) T.cl_Hand T.me_Hand_asking (ok_Hand_asking T) (hr.mono (by decide)) T.b_Hand_asking .nil pass0)))))),
    rd_Hand_asked_by T.handOk h⟩
theorem ok_Hand_told_by (T : Tx K mg A) : FnOk P w K mg base CX0 2 T.f_Hand_told_by T.fd_Hand_told_by ["self", "sender"] (sp_Hand_told_by K A) := by
  refine T.F_Hand_told_by.ok sc_Hand_told_by (fun vs H Q E h => by obtain ⟨a, b, rfl, h⟩ := h; rfl) (fun cdv A0 outer s H vs Q E hr h => ?_)
  have hu := hu_of hr
  obtain ⟨a, b, rfl, h⟩ := h
  exact ⟨t_Hand_told_by K A, (pss_cons (ps_expr (pe_bm PySem.F.plainAttrs_list PySem.F.slot_list_append PySem.F.type_list_append mt_append (pe_fld (pv 0) rfl) (pa_cons (pv 1) pa_nil)))
    (pss_cons (ps_if (PW.pt (pw_or (pt_val (pe_fld (pv 0) rfl)) (pw_or1 (PW.pt (pw_and (pt_cmpR op_eq (pe_fld (pv 0) rfl) pe_str (nomark _)) (pw_and1 (pt_cmpR op_lt (pe_callB call_lenq (by rfl) T.bi_len PySem.boot_len (pa_cons (pe_fld (pv 0) rfl) pa_nil)) (pe_callB call_lenq (by rfl) T.bi_len PySem.boot_len (pa_cons (pe_fld (pv 0) rfl) pa_nil)) (nomark _))))))))
    (pss_one (ps_ret (pe_lst pa_nil)))
    pss_nil)
    (pss_cons (ps_fld (pv 0) pe_bl rfl)
    (pss_one (ps_ret (pe_meth (pv 0) T.cl_Hand T.me_Hand_posted (ok_Hand_posted T) (hr.mono (by decide)) T.b_Hand_posted .nil pass0 (pa_cons pe_str (pa_cons (pe_fld (pv 0) rfl) pa_nil)))))))),
    rd_Hand_told_by T.handOk h⟩
theorem ok_Hand_come (T : Tx K mg A) : FnOk P w K mg base CX0 4 T.f_Hand_come T.fd_Hand_come ["self", "letter"] (sp_Hand_come K A) := by
  refine T.F_Hand_come.ok sc_Hand_come (fun vs H Q E h => by obtain ⟨a, b, rfl, h⟩ := h; rfl) (fun cdv A0 outer s H vs Q E hr h => ?_)
  have hu := hu_of hr
  obtain ⟨a, b, rfl, h⟩ := h
  exact ⟨t_Hand_come K A, (pss_cons (ps_asg (pv 1) (pg_tup (by rfl) (pgs_cons (pg_name (i := 2) sc_Hand_come.nd rfl (Or.inl rfl)) (pgs_cons (pg_name (i := 3) sc_Hand_come.nd rfl (Or.inl rfl)) (pgs_cons (pg_name (i := 4) sc_Hand_come.nd rfl (Or.inl rfl)) pgs_nil)))))
    (pss_cons (ps_set (i := 5) sc_Hand_come.nd rfl (Or.inl rfl) (pe_lst pa_nil))
    (Evl.pss_cut (ps_if (pt_cmpR op_eq (pv 2) pe_str (nomark _))
    (pss_one (ps_fld (pv 0) (pe_op op_sub (pe_fld (pv 0) rfl) pe_int) rfl))
    (Evl.pss_cut (ps_if (PW.pt (pw_or (pt_val (pe_fld (pv 0) rfl)) (pw_or1 (pt_cmpR op_notNq (pe_fld (pv 0) rfl) pe_non (nomark _)))))
    (pss_one (ps_expr (pe_bm PySem.F.plainAttrs_list PySem.F.slot_list_append PySem.F.type_list_append mt_append (pv 5) (pa_cons (pe_tup (pa_cons pe_str (pa_cons (pe_fld (pv 0) rfl) (pa_cons (pv 3) pa_nil)))) pa_nil))))
    (pss_one (ps_fld (pv 0) (pv 3) rfl)))
    (pss_one (ps_if (pt_cmpR op_eq (pv 2) pe_str (nomark _))
    (pss_one (ps_expr (pe_bm PySem.F.plainAttrs_list PySem.F.slot_list_extend PySem.F.type_list_extend mt_extend (pv 5) (pa_cons (pe_meth (pv 0) T.cl_Hand T.me_Hand_asked_by (ok_Hand_asked_by T) (hr.mono (by decide)) T.b_Hand_asked_by .nil pass0 (pa_cons (pv 3) pa_nil)) pa_nil))))
    (pss_one (ps_expr (pe_bm PySem.F.plainAttrs_list PySem.F.slot_list_extend PySem.F.type_list_extend mt_extend (pv 5) (pa_cons (pe_meth (pv 0) T.cl_Hand T.me_Hand_told_by (ok_Hand_told_by T) (hr.mono (by decide)) T.b_Hand_told_by .nil pass0 (pa_cons (pv 3) pa_nil)) pa_nil))))))))
    (Evl.pss_cut (ps_if (PW.pt (pw_and (pt_cmpR op_eq (pe_fld (pv 0) rfl) pe_int (nomark _)) (pw_and1 (pt_cmpR op_notNq (pe_fld (pv 0) rfl) pe_non (nomark _)))))
    (pss_cons (ps_expr (pe_bm PySem.F.plainAttrs_list PySem.F.slot_list_append PySem.F.type_list_append mt_append (pv 5) (pa_cons (pe_tup (pa_cons pe_str (pa_cons (pe_fld (pv 0) rfl) (pa_cons (pe_fld (pv 0) rfl) pa_nil)))) pa_nil)))
    (pss_one (ps_fld (pv 0) pe_non rfl)))
    pss_nil)
    (pss_one (ps_ret (pv 5))))))),
    rd_Hand_come T.handOk h⟩
theorem ok_cell_at (T : Tx K mg A) : FnOk P w K mg base CX0 1 T.f_cell_at T.fd_cell_at ["_law_script", "_law_k"] (sp_cell_at K A) := by
  refine T.F_cell_at.ok sc_cell_at (fun vs H Q E h => by obtain ⟨a, b, rfl, h⟩ := h; rfl) (fun cdv A0 outer s H vs Q E hr h => ?_)
  have hu := hu_of hr
  obtain ⟨a, b, rfl, h⟩ := h
  exact ⟨t_cell_at K A, (pss_cons (ps_if (pt_cmpR op_lt (pv 1) (pe_callB call_lenq (by rfl) T.bi_len PySem.boot_len (pa_cons (pv 0) pa_nil)) (nomark _))
    (pss_one (ps_ret (pe_ix ix_list (pv 0) (pv 1) (fun _ _ => rfl))))
    pss_nil)
    (pss_one (ps_ret pe_int))),
    rd_cell_at h⟩
theorem ok_alike (T : Tx K mg A) : FnOk P w K mg base CX0 1 T.f_alike T.fd_alike ["_law_found", "_law_due"] (sp_alike K A) := by
  refine T.F_alike.ok sc_alike (fun vs H Q E h => by obtain ⟨a, b, rfl, h⟩ := h; rfl) (fun cdv A0 outer s H vs Q E hr h => ?_)
  have hu := hu_of hr
  obtain ⟨a, b, rfl, h⟩ := h
  exact ⟨t_alike K A, (pss_cons (ps_if (PW.pt (pw_or (pt_not (pt_val (pe_callB call_isi (by rfl) T.bi_isinstance (by decide +kernel) (pa_cons (pv 0) (pa_cons (pe_bltn (by rfl) T.bi_list (by decide +kernel) rfl) pa_nil))))) (pw_or1 (pt_cmpR op_ne (pe_callB call_lenq (by rfl) T.bi_len PySem.boot_len (pa_cons (pv 0) pa_nil)) (pe_callB call_lenq (by rfl) T.bi_len PySem.boot_len (pa_cons (pv 1) pa_nil)) (nomark _)))))
    (pss_one (ps_ret pe_bl))
    pss_nil)
    (pss_cons (ps_for PassesOwn.never rfl (pi_range1 rfl T.bi_range (pa_cons (pe_callB call_lenq (by rfl) T.bi_len PySem.boot_len (pa_cons (pv 1) pa_nil)) pa_nil)) (pg_name (i := 2) sc_alike.nd rfl (Or.inl rfl))
    (pss_cons (ps_if (PW.pt (pw_or (pt_not (pt_val (pe_callB call_isi (by rfl) T.bi_isinstance (by decide +kernel) (pa_cons (pe_ix ix_list (pv 0) (pv 2) (fun _ _ => rfl)) (pa_cons (pe_bltn (by rfl) T.bi_tuple (by decide +kernel) rfl) pa_nil))))) (pw_or (pt_cmpR op_ne (pe_callB call_lenq (by rfl) T.bi_len PySem.boot_len (pa_cons (pe_ix ix_list (pv 0) (pv 2) (fun _ _ => rfl)) pa_nil)) pe_int (nomark _)) (pw_or1 (pt_not (pt_val (pe_callB call_isi (by rfl) T.bi_isinstance (by decide +kernel) (pa_cons (pe_ix ix_tup (pe_ix ix_list (pv 0) (pv 2) (fun _ _ => rfl)) pe_int (fun _ _ => rfl)) (pa_cons (pe_bltn (by rfl) T.bi_str (by decide +kernel) rfl) pa_nil)))))))))
    (pss_one (ps_ret pe_bl))
    pss_nil)
    (pss_cons (ps_if (pt_cmpR (op_neD hr.units) (pe_lc (own := [("_law_one", 3)]) (g := (gName 3)) (tt := (tOr (tB (tCB (rIsi K) (tCons (tVar 3) (tCons (tC (.ty "bool")) tNil)))) (tNot (tB (tCB (rIsi K) (tCons (tVar 3) (tCons (tC (.ty "int")) tNil))))))) (te := (tVar 3)) rfl sc_alike.nd (pi_tup (pe_slice sl_tup (pe_ix ix_list (pv 0) (pv 2) (fun _ _ => rfl)) (po_some pe_int) po_none)) (blkOk_by (own := [("_law_one", 3)]) (N := ["_law_found", "_law_due", "_law_k", "_law_one"]) (sc := defScope s_alike) (by decide +kernel)) (fun _ _ _ _ _ => (pg_name (i := 3) sc_alike.nd rfl (Or.inl rfl))) (fun _ _ _ _ _ => (pts_one (PW.pt (pw_or (pt_val (pe_callB call_isi (by rfl) T.bi_isinstance (by decide +kernel) (pa_cons (pv 3) (pa_cons (pe_bltn (by rfl) T.bi_bool (by decide +kernel) rfl) pa_nil)))) (pw_or1 (pt_not (pt_val (pe_callB call_isi (by rfl) T.bi_isinstance (by decide +kernel) (pa_cons (pv 3) (pa_cons (pe_bltn (by rfl) T.bi_int (by decide +kernel) rfl) pa_nil)))))))))) (fun _ _ _ _ _ => (pv 3))) (pe_lst pa_nil) (nomark _))
    (pss_one (ps_ret pe_bl))
    pss_nil)
    (pss_one (ps_if (pt_cmpR (op_neD hr.units) (pe_ix ix_list (pv 0) (pv 2) (fun _ _ => rfl)) (pe_ix ix_list (pv 1) (pv 2) (fun _ _ => rfl)) (nomark _))
    (pss_one (ps_ret pe_bl))
    pss_nil)))))
    (pss_one (ps_ret pe_bl)))),
    rd_alike h⟩
theorem ok_kept (T : Tx K mg A) : FnOk P w K mg base CX0 1 T.f_kept T.fd_kept ["_law_hand", "_law_s"] (sp_kept K A) := by
  refine T.F_kept.ok sc_kept (fun vs H Q E h => by obtain ⟨a, b, rfl, h⟩ := h; rfl) (fun cdv A0 outer s H vs Q E hr h => ?_)
  have hu := hu_of hr
  obtain ⟨a, b, rfl, h⟩ := h
  exact ⟨t_kept K A, (pss_cons (ps_if (PW.pt (pw_or (pt_not (pt_val (pe_callB call_isi (by rfl) T.bi_isinstance (by decide +kernel) (pa_cons (pe_fld (pv 0) rfl) (pa_cons (pe_bltn (by rfl) T.bi_bool (by decide +kernel) rfl) pa_nil))))) (pw_or1 (pt_not (pt_val (pe_callB call_isi (by rfl) T.bi_isinstance (by decide +kernel) (pa_cons (pe_fld (pv 0) rfl) (pa_cons (pe_bltn (by rfl) T.bi_bool (by decide +kernel) rfl) pa_nil))))))))
    (pss_one (ps_ret pe_bl))
    pss_nil)
    (pss_cons (ps_if (PW.pt (pw_or (pt_cmpR op_ne (pe_fld (pv 0) rfl) (pe_dget hu (pv 1) pe_str (fun _ _ => rfl)) (nomark _)) (pw_or1 (pt_cmpR op_ne (pe_fld (pv 0) rfl) (pe_dget hu (pv 1) pe_str (fun _ _ => rfl)) (nomark _)))))
    (pss_one (ps_ret pe_bl))
    pss_nil)
    (pss_cons (ps_if (PW.pt (pw_or (pt_val (pe_callB call_isi (by rfl) T.bi_isinstance (by decide +kernel) (pa_cons (pe_fld (pv 0) rfl) (pa_cons (pe_bltn (by rfl) T.bi_bool (by decide +kernel) rfl) pa_nil)))) (pw_or (pt_not (pt_val (pe_callB call_isi (by rfl) T.bi_isinstance (by decide +kernel) (pa_cons (pe_fld (pv 0) rfl) (pa_cons (pe_bltn (by rfl) T.bi_int (by decide +kernel) rfl) pa_nil))))) (pw_or1 (pt_cmpR op_ne (pe_fld (pv 0) rfl) (pe_dget hu (pv 1) pe_str (fun _ _ => rfl)) (nomark _))))))
    (pss_one (ps_ret pe_bl))
    pss_nil)
    (pss_cons (ps_if (PW.pt (pw_or (pt_not (pt_val (pe_callB call_isi (by rfl) T.bi_isinstance (by decide +kernel) (pa_cons (pe_fld (pv 0) rfl) (pa_cons (pe_bltn (by rfl) T.bi_list (by decide +kernel) rfl) pa_nil))))) (pw_or1 (pt_cmpR (op_neD hr.units) (pe_fld (pv 0) rfl) (pe_dget hu (pv 1) pe_str (fun _ _ => rfl)) (nomark _)))))
    (pss_one (ps_ret pe_bl))
    pss_nil)
    (pss_cons (ps_if (pt_cmpR op_isNq (pe_dget hu (pv 1) pe_str (fun _ _ => rfl)) pe_non (nomark _))
    (pss_one (ps_ret (pe_cmpR op_isNq (pe_fld (pv 0) rfl) pe_non (nomark _))))
    pss_nil)
    (pss_one (ps_ret (pe_and (pe_not (pe_callB call_isi (by rfl) T.bi_isinstance (by decide +kernel) (pa_cons (pe_fld (pv 0) rfl) (pa_cons (pe_bltn (by rfl) T.bi_bool (by decide +kernel) rfl) pa_nil)))) (pe_and (pe_callB call_isi (by rfl) T.bi_isinstance (by decide +kernel) (pa_cons (pe_fld (pv 0) rfl) (pa_cons (pe_bltn (by rfl) T.bi_int (by decide +kernel) rfl) pa_nil))) (pe_one (pe_cmpR (op_eqD hr.units) (pe_fld (pv 0) rfl) (pe_dget hu (pv 1) pe_str (fun _ _ => rfl)) (nomark _)))))))))))),
    rd_kept T.handOk h⟩
theorem ok_sent (T : Tx K mg A) : FnOk P w K mg base CX0 1 T.f_sent T.fd_sent ["_law_s", "_law_word", "_law_hands"] (sp_sent K A) := by
  refine T.F_sent.ok sc_sent (fun vs H Q E h => by obtain ⟨a, b, c, rfl, h⟩ := h; rfl) (fun cdv A0 outer s H vs Q E hr h => ?_)
  have hu := hu_of hr
  obtain ⟨a, b, c, rfl, h⟩ := h
  exact ⟨t_sent K A, (pss_cons (ps_dput hu (pv 0) pe_str (pe_op op_add (pe_dget hu (pv 0) pe_str (fun _ _ => rfl)) (pe_callB call_lenq (by rfl) T.bi_len PySem.boot_len (pa_cons (pv 2) pa_nil))) rfl)
    (pss_cons (ps_expr (pe_bm PySem.F.plainAttrs_list PySem.F.slot_list_extend PySem.F.type_list_extend mt_extend (pe_dget hu (pv 0) pe_str (fun _ _ => rfl)) (pa_cons (pv 2) pa_nil)))
    (pss_cons (ps_expr (pe_bm PySem.F.plainAttrs_list PySem.F.slot_list_extend PySem.F.type_list_extend mt_extend (pe_dget hu (pv 0) pe_str (fun _ _ => rfl)) (pa_cons (pe_lc (own := [("_law_one", 3)]) (g := (gName 3)) (tt := (tTest (tOp rEq (tVar 3) (tDGet (tVar 0) (tC (.str "number")))))) (te := (tTup (tCons (tVar 1) (tCons (tVar 3) tNil)))) rfl sc_sent.nd (pi_list (pv 2)) (blkOk_by (own := [("_law_one", 3)]) (N := ["_law_s", "_law_word", "_law_hands", "_law_one"]) (sc := defScope s_sent) (by decide +kernel)) (fun _ _ _ _ _ => (pg_name (i := 3) sc_sent.nd rfl (Or.inl rfl))) (fun _ _ _ _ _ => (pts_one (pt_cmpR op_eq (pv 3) (pe_dget hu (pv 0) pe_str (fun _ _ => rfl)) (nomark _)))) (fun _ _ _ _ _ => (pe_tup (pa_cons (pv 1) (pa_cons (pv 3) pa_nil))))) pa_nil)))
    (pss_one (ps_ret (pe_lc (own := [("_law_one", 3)]) (g := (gName 3)) (tt := tYes) (te := (tTup (tCons (tVar 1) (tCons (tDGet (tVar 0) (tC (.str "number"))) (tCons (tVar 3) tNil))))) rfl sc_sent.nd (pi_list (pv 2)) (blkOk_by (own := [("_law_one", 3)]) (N := ["_law_s", "_law_word", "_law_hands", "_law_one"]) (sc := defScope s_sent) (by decide +kernel)) (fun _ _ _ _ _ => (pg_name (i := 3) sc_sent.nd rfl (Or.inl rfl))) (fun _ _ _ _ _ => pts_nil) (fun _ _ _ _ _ => (pe_tup (pa_cons (pv 1) (pa_cons (pe_dget hu (pv 0) pe_str (fun _ _ => rfl)) (pa_cons (pv 3) pa_nil))))))))))),
    rd_sent h⟩
theorem ok_sent_back (T : Tx K mg A) : FnOk P w K mg base CX0 1 T.f_sent_back T.fd_sent_back ["_law_s", "_law_hand"] (sp_sent_back K A) := by
  refine T.F_sent_back.ok sc_sent_back (fun vs H Q E h => by obtain ⟨a, b, rfl, h⟩ := h; rfl) (fun cdv A0 outer s H vs Q E hr h => ?_)
  have hu := hu_of hr
  obtain ⟨a, b, rfl, h⟩ := h
  exact ⟨t_sent_back K A, (Evl.pss_cut (ps_if (pt_cmpR op_eq (pv 1) (pe_dget hu (pv 0) pe_str (fun _ _ => rfl)) (nomark _))
    (pss_one (ps_expr (pe_bm PySem.F.plainAttrs_list PySem.F.slot_list_append PySem.F.type_list_append mt_append (pe_dget hu (pv 0) pe_str (fun _ _ => rfl)) (pa_cons (pe_tup (pa_cons pe_str (pa_cons (pv 1) pa_nil))) pa_nil))))
    pss_nil)
    (pss_one (ps_ret (pe_lst (pa_cons (pe_tup (pa_cons pe_str (pa_cons (pe_dget hu (pv 0) pe_str (fun _ _ => rfl)) (pa_cons (pv 1) pa_nil)))) pa_nil))))),
    rd_sent_back h⟩
theorem ok_come (T : Tx K mg A) : FnOk P w K mg base CX0 2 T.f_come T.fd_come ["_law_s", "_law_word", "_law_sender"] (sp_come K A) := by
  refine T.F_come.ok sc_come (fun vs H Q E h => by obtain ⟨a, b, c, rfl, h⟩ := h; rfl) (fun cdv A0 outer s H vs Q E hr h => ?_)
  have hu := hu_of hr
  obtain ⟨a, b, c, rfl, h⟩ := h
  exact ⟨t_come K A, (pss_cons (ps_set (i := 3) sc_come.nd rfl (Or.inl rfl) (pe_lst pa_nil))
    (Evl.pss_cut (ps_if (pt_cmpR op_eq (pv 1) pe_str (nomark _))
    (pss_cons (ps_dput hu (pv 0) pe_str (pe_op op_sub (pe_dget hu (pv 0) pe_str (fun _ _ => rfl)) pe_int) rfl)
    (pss_one (ps_expr (pe_bm PySem.F.plainAttrs_list PySem.F.slot_list_remove PySem.F.type_list_remove mt_remove (pe_dget hu (pv 0) pe_str (fun _ _ => rfl)) (pa_cons (pv 2) pa_nil)))))
    (pss_one (ps_if (PW.pt (pw_or (pt_val (pe_dget hu (pv 0) pe_str (fun _ _ => rfl))) (pw_or1 (pt_cmpR op_notNq (pe_dget hu (pv 0) pe_str (fun _ _ => rfl)) pe_non (nomark _)))))
    (pss_one (ps_set (i := 3) sc_come.nd rfl (Or.inl rfl) (pe_op op_cat (pv 3) (pe_call (ok_sent_back T) (hr.mono (by decide)) rfl T.m_sent_back T.F_sent_back.kp T.b_sent_back .nil pass0 (pa_cons (pv 0) (pa_cons (pv 2) pa_nil))))))
    (pss_one (ps_dput hu (pv 0) pe_str (pv 2) rfl)))))
    (Evl.pss_cut (ps_if (pt_cmpR op_eq (pv 1) pe_str (nomark _))
    (pss_cons (ps_expr (pe_bm PySem.F.plainAttrs_list PySem.F.slot_list_append PySem.F.type_list_append mt_append (pe_dget hu (pv 0) pe_str (fun _ _ => rfl)) (pa_cons (pv 2) pa_nil)))
    (pss_one (ps_if (pt_val (pe_dget hu (pv 0) pe_str (fun _ _ => rfl)))
    (pss_one (ps_set (i := 3) sc_come.nd rfl (Or.inl rfl) (pe_op op_cat (pv 3) (pe_call (ok_sent T) (hr.mono (by decide)) rfl T.m_sent T.F_sent.kp T.b_sent .nil pass0 (pa_cons (pv 0) (pa_cons pe_str (pa_cons (pe_lst (pa_cons (pv 2) pa_nil)) pa_nil)))))))
    (pss_cons (ps_expr (pe_bm PySem.F.plainAttrs_list PySem.F.slot_list_append PySem.F.type_list_append mt_append (pe_dget hu (pv 0) pe_str (fun _ _ => rfl)) (pa_cons (pv 2) pa_nil)))
    (pss_one (ps_if (pt_not (pt_val (pe_dget hu (pv 0) pe_str (fun _ _ => rfl))))
    (pss_cons (ps_dput hu (pv 0) pe_str pe_bl rfl)
    (pss_one (ps_set (i := 3) sc_come.nd rfl (Or.inl rfl) (pe_op op_cat (pv 3) (pe_call (ok_sent T) (hr.mono (by decide)) rfl T.m_sent T.F_sent.kp T.b_sent .nil pass0 (pa_cons (pv 0) (pa_cons pe_str (pa_cons (pe_dget hu (pv 0) pe_str (fun _ _ => rfl)) pa_nil))))))))
    pss_nil))))))
    pss_nil)
    (Evl.pss_cut (ps_if (pt_cmpR op_eq (pv 1) pe_str (nomark _))
    (pss_cons (ps_expr (pe_bm PySem.F.plainAttrs_list PySem.F.slot_list_append PySem.F.type_list_append mt_append (pe_dget hu (pv 0) pe_str (fun _ _ => rfl)) (pa_cons (pv 2) pa_nil)))
    (pss_one (ps_if (PW.pt (pw_and (pt_not (pt_val (pe_dget hu (pv 0) pe_str (fun _ _ => rfl)))) (pw_and1 (PW.pt (pw_or (pt_cmpR op_eq (pe_dget hu (pv 0) pe_str (fun _ _ => rfl)) pe_str (nomark _)) (pw_or1 (pt_cmpR op_eq (pe_callB call_lenq (by rfl) T.bi_len PySem.boot_len (pa_cons (pe_dget hu (pv 0) pe_str (fun _ _ => rfl)) pa_nil)) (pe_callB call_lenq (by rfl) T.bi_len PySem.boot_len (pa_cons (pe_dget hu (pv 0) pe_str (fun _ _ => rfl)) pa_nil)) (nomark _))))))))
    (pss_cons (ps_dput hu (pv 0) pe_str pe_bl rfl)
    (pss_one (ps_set (i := 3) sc_come.nd rfl (Or.inl rfl) (pe_op op_cat (pv 3) (pe_call (ok_sent T) (hr.mono (by decide)) rfl T.m_sent T.F_sent.kp T.b_sent .nil pass0 (pa_cons (pv 0) (pa_cons pe_str (pa_cons (pe_dget hu (pv 0) pe_str (fun _ _ => rfl)) pa_nil))))))))
    pss_nil)))
    pss_nil)
    (Evl.pss_cut (ps_if (PW.pt (pw_and (pt_cmpR op_eq (pe_dget hu (pv 0) pe_str (fun _ _ => rfl)) pe_int (nomark _)) (pw_and1 (pt_cmpR op_notNq (pe_dget hu (pv 0) pe_str (fun _ _ => rfl)) pe_non (nomark _)))))
    (pss_cons (ps_set (i := 3) sc_come.nd rfl (Or.inl rfl) (pe_op op_cat (pv 3) (pe_call (ok_sent_back T) (hr.mono (by decide)) rfl T.m_sent_back T.F_sent_back.kp T.b_sent_back .nil pass0 (pa_cons (pv 0) (pa_cons (pe_dget hu (pv 0) pe_str (fun _ _ => rfl)) pa_nil)))))
    (pss_one (ps_dput hu (pv 0) pe_str pe_non rfl)))
    pss_nil)
    (pss_one (ps_ret (pv 3)))))))),
    rd_come h⟩
theorem ok_letter (T : Tx K mg A) : FnOk P w K mg base CX0 1 T.f_letter T.fd_letter ["_law_s", "_law_cell"] (sp_letter K A) := by
  refine T.F_letter.ok sc_letter (fun vs H Q E h => by obtain ⟨a, b, rfl, h⟩ := h; rfl) (fun cdv A0 outer s H vs Q E hr h => ?_)
  have hu := hu_of hr
  obtain ⟨a, b, rfl, h⟩ := h
  exact ⟨t_letter K A, (pss_cons (ps_setLc (i := 3) (own := [("_law_one", 2)]) (g := (gName 2)) (tt := (tAnd (tTest (tOp (rIn K true) (tVar 2) (tDGet (tVar 0) (tC (.str "asked"))))) (tTest (tOp rNe (tVar 2) (tDGet (tVar 0) (tC (.str "number"))))))) (te := (tVar 2)) rfl sc_letter.nd rfl rfl (sw_true rfl rfl rfl (by decide +kernel)) (pi_range1 rfl T.bi_range (pa_cons pe_int pa_nil)) (blkOk_by (own := [("_law_one", 2)]) (N := ["_law_s", "_law_cell", "_law_one", "_law_senders", "_law_tellers", "_law_out"]) (sc := defScope s_letter) (by decide +kernel)) (fun _ _ _ _ _ => (pg_name (i := 2) sc_letter.nd rfl (Or.inl rfl))) (fun _ _ _ _ _ => (pts_one (PW.pt (pw_and (pt_cmpR op_notIn_seq (pv 2) (pe_dget hu (pv 0) pe_str (fun _ _ => rfl)) rfl) (pw_and1 (pt_cmpR op_ne (pv 2) (pe_dget hu (pv 0) pe_str (fun _ _ => rfl)) (nomark _))))))) (fun _ _ _ _ _ => (pv 2)))
    (pss_cons (ps_setLc (i := 4) (own := [("_law_one", 2)]) (g := (gName 2)) (tt := (tAnd (tB (tDGet (tVar 0) (tC (.str "has")))) (tAnd (tTest (tOp (rIn K true) (tVar 2) (tDGet (tVar 0) (tC (.str "told"))))) (tTest (tOp rNe (tVar 2) (tDGet (tVar 0) (tC (.str "number")))))))) (te := (tVar 2)) rfl sc_letter.nd rfl rfl (sw_true rfl rfl rfl (by decide +kernel)) (pi_list (pe_dget hu (pv 0) pe_str (fun _ _ => rfl))) (blkOk_by (own := [("_law_one", 2)]) (N := ["_law_s", "_law_cell", "_law_one", "_law_senders", "_law_tellers", "_law_out"]) (sc := defScope s_letter) (by decide +kernel)) (fun _ _ _ _ _ => (pg_name (i := 2) sc_letter.nd rfl (Or.inl rfl))) (fun _ _ _ _ _ => (pts_one (PW.pt (pw_and (pt_val (pe_dget hu (pv 0) pe_str (fun _ _ => rfl))) (pw_and (pt_cmpR op_notIn_seq (pv 2) (pe_dget hu (pv 0) pe_str (fun _ _ => rfl)) rfl) (pw_and1 (pt_cmpR op_ne (pv 2) (pe_dget hu (pv 0) pe_str (fun _ _ => rfl)) (nomark _)))))))) (fun _ _ _ _ _ => (pv 2)))
    (pss_cons (ps_setLc (i := 5) (own := [("_law_one", 2)]) (g := (gName 2)) (tt := (tTest (tOp rNe (tVar 2) (tDGet (tVar 0) (tC (.str "number")))))) (te := (tVar 2)) rfl sc_letter.nd rfl rfl (sw_true rfl rfl rfl (by decide +kernel)) (pi_list (pe_dget hu (pv 0) pe_str (fun _ _ => rfl))) (blkOk_by (own := [("_law_one", 2)]) (N := ["_law_s", "_law_cell", "_law_one", "_law_senders", "_law_tellers", "_law_out"]) (sc := defScope s_letter) (by decide +kernel)) (fun _ _ _ _ _ => (pg_name (i := 2) sc_letter.nd rfl (Or.inl rfl))) (fun _ _ _ _ _ => (pts_one (pt_cmpR op_ne (pv 2) (pe_dget hu (pv 0) pe_str (fun _ _ => rfl)) (nomark _)))) (fun _ _ _ _ _ => (pv 2)))
    (pss_cons (ps_if (PW.pt (pw_and (pt_cmpR op_eq (pe_op op_mod (pv 1) pe_int) pe_int (nomark _)) (pw_and1 (pt_cmpR (op_neD hr.units) (pe_dget hu (pv 0) pe_str (fun _ _ => rfl)) (pe_lst pa_nil) (nomark _)))))
    (pss_one (ps_ret (pe_bm PySem.F.plainAttrs_list PySem.F.slot_list_pop PySem.F.type_list_pop mt_popAt (pe_dget hu (pv 0) pe_str (fun _ _ => rfl)) (pa_cons (pe_op op_mod (pe_op op_fdiv (pv 1) pe_int) (pe_callB call_lenq (by rfl) T.bi_len PySem.boot_len (pa_cons (pe_dget hu (pv 0) pe_str (fun _ _ => rfl)) pa_nil))) pa_nil))))
    pss_nil)
    (pss_cons (ps_if (PW.pt (pw_and (pt_cmpR op_eq (pe_op op_mod (pv 1) pe_int) pe_int (nomark _)) (pw_and1 (pt_cmpR (op_neD hr.units) (pv 5) (pe_lst pa_nil) (nomark _)))))
    (pss_one (ps_ret (pe_tup (pa_cons pe_str (pa_cons (pe_ix ix_list (pv 5) (pe_op op_mod (pe_op op_fdiv (pv 1) pe_int) (pe_callB call_lenq (by rfl) T.bi_len PySem.boot_len (pa_cons (pv 5) pa_nil))) (fun _ _ => rfl)) pa_nil)))))
    pss_nil)
    (pss_cons (ps_if (PW.pt (pw_and (pt_cmpR op_eq (pe_op op_mod (pv 1) pe_int) pe_int (nomark _)) (pw_and1 (pt_cmpR (op_neD hr.units) (pv 4) (pe_lst pa_nil) (nomark _)))))
    (pss_one (ps_ret (pe_tup (pa_cons pe_str (pa_cons (pe_ix ix_list (pv 4) (pe_op op_mod (pe_op op_fdiv (pv 1) pe_int) (pe_callB call_lenq (by rfl) T.bi_len PySem.boot_len (pa_cons (pv 4) pa_nil))) (fun _ _ => rfl)) pa_nil)))))
    pss_nil)
    (pss_cons (ps_if (pt_cmpR (op_neD hr.units) (pv 3) (pe_lst pa_nil) (nomark _))
    (pss_one (ps_ret (pe_tup (pa_cons pe_str (pa_cons (pe_ix ix_list (pv 3) (pe_op op_mod (pe_op op_mod (pe_op op_mul (pe_op op_fdiv (pv 1) pe_int) pe_int) pe_int) (pe_callB call_lenq (by rfl) T.bi_len PySem.boot_len (pa_cons (pv 3) pa_nil))) (fun _ _ => rfl)) pa_nil)))))
    pss_nil)
    (pss_one (ps_ret (pe_tup (pa_cons pe_str (pa_cons pe_int pa_nil)))))))))))),
    rd_letter h⟩
theorem ok_law (T : Tx K mg A) : FnOk P w K mg base CX0 5 T.f_law T.fd_law ["_law_script"] (sp_law K A) := by
  refine T.F_law.ok sc_law (fun vs H Q E h => by obtain ⟨a, rfl, h⟩ := h; rfl) (fun cdv A0 outer s H vs Q E hr h => ?_)
  have hu := hu_of hr
  obtain ⟨a, rfl, h⟩ := h
  exact ⟨t_law K A, (pss_cons (ps_set (i := 1) sc_law.nd rfl (Or.inr rfl) (pe_call (ok_cell_at T) (hr.mono (by decide)) rfl T.m_cell_at T.F_cell_at.kp T.b_cell_at .nil pass0 (pa_cons (pv 0) (pa_cons pe_int pa_nil))))
    (pss_cons (ps_set (i := 2) sc_law.nd rfl (Or.inl rfl) (pe_op op_mod (pe_op op_fdiv (pv 1) pe_int) pe_int))
    (pss_cons (ps_setLc (i := 4) (own := [("_law_k", 3)]) (g := (gName 3)) (tt := tYes) (te := (tOp qMod (tOp qAdd (tCall (sp_cell_at K A) [] E0 (tCons (tVar 0) (tCons (tC (.int 1)) tNil))) (tOp qMul (tVar 3) (tOp qAdd (tC (.int 1)) (tOp qMul (tC (.int 2)) (tOp qMod (tOp qDiv (tVar 1) (tC (.int 21))) (tC (.int 3))))))) (tC (.int 40)))) rfl sc_law.nd rfl rfl (sw_true rfl rfl rfl (by decide +kernel)) (pi_range1 rfl T.bi_range (pa_cons (pv 2) pa_nil)) (blkOk_by (own := [("_law_k", 3)]) (N := ["_law_script", "_law_cell", "_law_many", "_law_k", "_law_others", "_law_handed", "_law_wait", "_law_first", "_law_number", "_law_s", "_law_hand", "_law_found", "_law_turn", "_law_letter_here", "_law_due"]) (sc := defScope s_law) (by decide +kernel)) (fun _ _ _ _ _ => (pg_name (i := 3) sc_law.nd rfl (Or.inl rfl))) (fun _ _ _ _ _ => pts_nil) (fun _ _ _ _ _ => (pe_op op_mod (pe_op op_add (pe_call (ok_cell_at T) (hr.mono (by decide)) rfl T.m_cell_at T.F_cell_at.kp T.b_cell_at .nil pass0 (pa_cons (pv 0) (pa_cons pe_int pa_nil))) (pe_op op_mul (pv 3) (pe_op op_add pe_int (pe_op op_mul pe_int (pe_op op_mod (pe_op op_fdiv (pv 1) pe_int) pe_int))))) pe_int)))
    (pss_cons (ps_set (i := 5) sc_law.nd rfl (Or.inl rfl) (pe_callTy call_listq (by rfl) T.bi_list (by decide +kernel) (pa_cons (pv 4) pa_nil)))
    (pss_cons (ps_set (i := 6) sc_law.nd rfl (Or.inl rfl) pe_non)
    (Evl.pss_cut (ps_if (pt_cmpR op_gt (pv 2) pe_int (nomark _))
    (pss_one (ps_set (i := 6) sc_law.nd rfl (Or.inl rfl) (pe_tup (pa_cons (pe_ix ix_list (pe_lst (pa_cons pe_str (pa_cons pe_str pa_nil))) (pe_op op_mod (pv 1) pe_int) (fun _ _ => rfl)) (pa_cons (pv 5) pa_nil)))))
    pss_nil)
    (pss_cons (ps_set (i := 7) sc_law.nd rfl (Or.inl rfl) (pe_cmpR op_eq (pe_op op_mod (pe_call (ok_cell_at T) (hr.mono (by decide)) rfl T.m_cell_at T.F_cell_at.kp T.b_cell_at .nil pass0 (pa_cons (pv 0) (pa_cons pe_int pa_nil))) pe_int) pe_int (nomark _)))
    (pss_cons (ps_set (i := 8) sc_law.nd rfl (Or.inl rfl) (pe_op op_mod (pe_op op_fdiv (pe_call (ok_cell_at T) (hr.mono (by decide)) rfl T.m_cell_at T.F_cell_at.kp T.b_cell_at .nil pass0 (pa_cons (pv 0) (pa_cons pe_int pa_nil))) pe_int) pe_int))
    (Evl.pss_cut (ps_if (PW.pt (pw_and (pt_cmpR op_eq (pe_op op_mod (pe_op op_fdiv (pe_call (ok_cell_at T) (hr.mono (by decide)) rfl T.m_cell_at T.F_cell_at.kp T.b_cell_at .nil pass0 (pa_cons (pv 0) (pa_cons pe_int pa_nil))) pe_int) pe_int) pe_int (nomark _)) (pw_and1 (pt_cmpR op_gt (pv 2) pe_int (nomark _)))))
    (pss_one (ps_set (i := 8) sc_law.nd rfl (Or.inl rfl) (pe_ix ix_list (pv 4) (pe_op op_mod (pe_op op_fdiv (pe_call (ok_cell_at T) (hr.mono (by decide)) rfl T.m_cell_at T.F_cell_at.kp T.b_cell_at .nil pass0 (pa_cons (pv 0) (pa_cons pe_int pa_nil))) pe_int) (pv 2)) (fun _ _ => rfl))))
    pss_nil)
    (pss_cons (ps_set (i := 9) sc_law.nd rfl (Or.inl rfl) (pe_disp (pps_cons pe_str (pv 8) (pps_cons pe_str (pe_ix ix_list (pe_lst (pa_cons pe_str (pa_cons pe_str pa_nil))) (pe_op op_mod (pv 1) pe_int) (fun _ _ => rfl)) (pps_cons pe_str (pv 4) (pps_cons pe_str (pv 7) (pps_cons pe_str (pe_cmpR op_eq (pv 2) pe_int (nomark _)) pps_nil))))) (by rfl) (by rfl) (fun z => by cases z) (by decide)))
    (pss_cons (ps_expr (pe_dupd (pv 9) (pe_disp (pps_cons pe_str pe_bl (pps_cons pe_str (pe_lst pa_nil) (pps_cons pe_str (pe_lst pa_nil) (pps_cons pe_str (pe_lst pa_nil) (pps_cons pe_str pe_int (pps_cons pe_str pe_non (pps_cons pe_str (pe_lst pa_nil) (pps_cons pe_str (pe_lst pa_nil) pps_nil)))))))) (by rfl) (by rfl) (fun z => by cases z) (by decide)) ⟨rfl, rfl, rfl, rfl⟩))
    (pss_cons (ps_set (i := 10) sc_law.nd rfl (Or.inl rfl) (pe_make T.mk_Hand (ok_Hand_init T) (hr.mono (by decide)) rfl T.gc_Hand T.b_Hand_init .nil pass0 (pa_cons (pv 8) (pa_cons (pv 6) (pa_cons (pv 7) pa_nil)))))
    (pss_cons (ps_if (PW.pt (pw_or (pt_not (pt_val (pe_call (ok_kept T) (hr.mono (by decide)) rfl T.m_kept T.F_kept.kp T.b_kept .nil pass0 (pa_cons (pv 10) (pa_cons (pv 9) pa_nil))))) (pw_or1 (pt_cmpR (op_neD hr.units) (pv 5) (pv 4) (nomark _)))))
    (pss_one (ps_ret pe_bl))
    pss_nil)
    (pss_cons (ps_expr (pe_bm PySem.F.plainAttrs_list PySem.F.slot_list_append PySem.F.type_list_append mt_append (pv 5) (pa_cons (pv 8) pa_nil)))
    (pss_cons (ps_expr (pe_bm0 PySem.F.plainAttrs_list PySem.F.slot_list_reverse PySem.F.type_list_reverse mt_reverse (pv 5)))
    (Evl.pss_cut (ps_if (pt_val (pv 7))
    (pss_cons (ps_dput hu (pv 9) pe_str (pe_cmpR op_gt (pv 2) pe_int (nomark _)) rfl)
    (pss_cons (ps_set (i := 11) sc_law.nd rfl (Or.inl rfl) (pe_meth0 (pv 10) T.cl_Hand T.me_Hand_begin (ok_Hand_begin T) (hr.mono (by decide)) T.b_Hand_begin .nil pass0))
    (pss_cons (ps_if (PW.pt (pw_or (pt_not (pt_val (pe_call (ok_alike T) (hr.mono (by decide)) rfl T.m_alike T.F_alike.kp T.b_alike .nil pass0 (pa_cons (pv 11) (pa_cons (pe_call (ok_sent T) (hr.mono (by decide)) rfl T.m_sent T.F_sent.kp T.b_sent .nil pass0 (pa_cons (pv 9) (pa_cons pe_str (pa_cons (pv 4) pa_nil)))) pa_nil))))) (pw_or1 (pt_not (pt_val (pe_call (ok_kept T) (hr.mono (by decide)) rfl T.m_kept T.F_kept.kp T.b_kept .nil pass0 (pa_cons (pv 10) (pa_cons (pv 9) pa_nil))))))))
    (pss_one (ps_ret pe_bl))
    pss_nil)
    (pss_one (ps_expr (pe_bm0 PySem.F.plainAttrs_list PySem.F.slot_list_clear PySem.F.type_list_clear mt_clear (pv 11)))))))
    pss_nil)
    (pss_cons (ps_for PassesOwn.never rfl (pi_list (pe_slice sl_list (pv 0) (po_some pe_int) (po_some pe_int))) (pg_name (i := 12) sc_law.nd rfl (Or.inl rfl))
    (pss_cons (ps_set (i := 13) sc_law.nd rfl (Or.inl rfl) (pe_call (ok_letter T) (hr.mono (by decide)) rfl T.m_letter T.F_letter.kp T.b_letter .nil pass0 (pa_cons (pv 9) (pa_cons (pv 12) pa_nil))))
    (pss_one (ps_if (pt_cmpR op_ne (pe_ix ix_tup (pv 13) pe_int (fun _ _ => rfl)) pe_str (nomark _))
    (pss_cons (ps_set (i := 14) sc_law.nd rfl (Or.inl rfl) (pe_call (ok_come T) (hr.mono (by decide)) rfl T.m_come T.F_come.kp T.b_come .nil pass0 (pa_cons (pv 9) (pa_cons (pe_ix ix_tup (pv 13) pe_int (fun _ _ => rfl)) (pa_cons (pe_ix ix_tup (pv 13) pe_int (fun _ _ => rfl)) pa_nil)))))
    (pss_cons (ps_set (i := 11) sc_law.nd rfl (Or.inl rfl) (pe_meth (pv 10) T.cl_Hand T.me_Hand_come (ok_Hand_come T) (hr.mono (by decide)) T.b_Hand_come .nil pass0 (pa_cons (pe_tup (pa_cons (pe_ix ix_tup (pv 13) pe_int (fun _ _ => rfl)) (pa_cons (pe_ix ix_tup (pv 13) pe_int (fun _ _ => rfl)) (pa_cons (pv 8) pa_nil)))) pa_nil)))
    (pss_cons (ps_if (PW.pt (pw_or (pt_not (pt_val (pe_call (ok_alike T) (hr.mono (by decide)) rfl T.m_alike T.F_alike.kp T.b_alike .nil pass0 (pa_cons (pv 11) (pa_cons (pv 14) pa_nil))))) (pw_or1 (pt_not (pt_val (pe_call (ok_kept T) (hr.mono (by decide)) rfl T.m_kept T.F_kept.kp T.b_kept .nil pass0 (pa_cons (pv 10) (pa_cons (pv 9) pa_nil))))))))
    (pss_one (ps_ret pe_bl))
    pss_nil)
    (pss_one (ps_expr (pe_bm PySem.F.plainAttrs_list PySem.F.slot_list_append PySem.F.type_list_append mt_append (pv 11) (pa_cons (pe_tup (pa_cons pe_str (pa_cons (pv 8) (pa_cons (pv 8) pa_nil)))) pa_nil)))))))
    pss_nil))))
    (pss_one (ps_ret pe_bl))))))))))))))))))),
    rd_law T.handOk h⟩
end
theorem all_mk {l : PySem.W.OpenLaw} {w : World} {K : PySem.W.Frag} {h : Heap} {mg : Str → Option Value} {fa : Addr} (X : K.In h) (G : h.Ns mainGlobals mg) (hfa : mg "law" = some (.ref fa))
    {cHand : Addr} {f1 : Addr} {od1 an1 : Option Addr} {sl1 : Array (Option Value)} {oc1 kV1 dc1 pm1 cd1 ct1 : Value} {f2 : Addr} {od2 an2 : Option Addr} {sl2 : Array (Option Value)} {oc2 kV2 dc2 pm2 cd2 ct2 : Value} {f3 : Addr} {od3 an3 : Option Addr} {sl3 : Array (Option Value)} {oc3 kV3 dc3 pm3 cd3 ct3 : Value} {f4 : Addr} {od4 an4 : Option Addr} {sl4 : Array (Option Value)} {oc4 kV4 dc4 pm4 cd4 ct4 : Value} {f5 : Addr} {od5 an5 : Option Addr} {sl5 : Array (Option Value)} {oc5 kV5 dc5 pm5 cd5 ct5 : Value} {f6 : Addr} {od6 an6 : Option Addr} {sl6 : Array (Option Value)} {oc6 kV6 dc6 pm6 cd6 ct6 : Value} {f7 : Addr} {od7 an7 : Option Addr} {sl7 : Array (Option Value)} {oc7 kV7 dc7 pm7 cd7 ct7 : Value} {f8 : Addr} {od8 an8 : Option Addr} {sl8 : Array (Option Value)} {oc8 kV8 dc8 pm8 cd8 ct8 : Value} {f9 : Addr} {od9 an9 : Option Addr} {sl9 : Array (Option Value)} {oc9 kV9 dc9 pm9 cd9 ct9 : Value} {f10 : Addr} {od10 an10 : Option Addr} {sl10 : Array (Option Value)} {oc10 kV10 dc10 pm10 cd10 ct10 : Value} {f11 : Addr} {od11 an11 : Option Addr} {sl11 : Array (Option Value)} {oc11 kV11 dc11 pm11 cd11 ct11 : Value} {f12 : Addr} {od12 an12 : Option Addr} {sl12 : Array (Option Value)} {oc12 kV12 dc12 pm12 cd12 ct12 : Value} {f13 : Addr} {od13 an13 : Option Addr} {sl13 : Array (Option Value)} {oc13 kV13 dc13 pm13 cd13 ct13 : Value} {f14 : Addr} {od14 an14 : Option Addr} {sl14 : Array (Option Value)} {oc14 kV14 dc14 pm14 cd14 ct14 : Value} {f15 : Addr} {od15 an15 : Option Addr} {sl15 : Array (Option Value)} {oc15 kV15 dc15 pm15 cd15 ct15 : Value}
    (gHand : PySem.W.nsIn K mainGlobals "Hand" = some (some (.ref cHand)))
    (a1 : PySem.W.findIn K (.ref cHand) "__init__" = some (some (.ref f1)))
    (i1 : PySem.W.isFn K (.ref f1) = true)
    (l1 : K.lookup f1 = some ⟨oc1, od1, .func (PySem.W.fnOf "__init__" "Hand.__init__" (defArgs s_Hand_init) (defBody s_Hand_init) (defScope s_Hand_init) .none kV1 dc1 pm1 an1 cd1 ct1), sl1⟩)
    (c1 : PySem.W.codeIn K cd1 "Hand.__init__" = true)
    (k1 : PySem.W.keepIn K (.ref f1) = true)
    (mkHand : PySem.W.makesIn K cHand = true)
    (kcHand : PySem.W.keepIn K (.ref cHand) = true)
    (a2 : PySem.W.findIn K (.ref cHand) "posted" = some (some (.ref f2)))
    (i2 : PySem.W.isFn K (.ref f2) = true)
    (l2 : K.lookup f2 = some ⟨oc2, od2, .func (PySem.W.fnOf "posted" "Hand.posted" (defArgs s_Hand_posted) (defBody s_Hand_posted) (defScope s_Hand_posted) .none kV2 dc2 pm2 an2 cd2 ct2), sl2⟩)
    (c2 : PySem.W.codeIn K cd2 "Hand.posted" = true)
    (k2 : PySem.W.keepIn K (.ref f2) = true)
    (a3 : PySem.W.findIn K (.ref cHand) "asking" = some (some (.ref f3)))
    (i3 : PySem.W.isFn K (.ref f3) = true)
    (l3 : K.lookup f3 = some ⟨oc3, od3, .func (PySem.W.fnOf "asking" "Hand.asking" (defArgs s_Hand_asking) (defBody s_Hand_asking) (defScope s_Hand_asking) .none kV3 dc3 pm3 an3 cd3 ct3), sl3⟩)
    (c3 : PySem.W.codeIn K cd3 "Hand.asking" = true)
    (k3 : PySem.W.keepIn K (.ref f3) = true)
    (a4 : PySem.W.findIn K (.ref cHand) "begin" = some (some (.ref f4)))
    (i4 : PySem.W.isFn K (.ref f4) = true)
    (l4 : K.lookup f4 = some ⟨oc4, od4, .func (PySem.W.fnOf "begin" "Hand.begin" (defArgs s_Hand_begin) (defBody s_Hand_begin) (defScope s_Hand_begin) .none kV4 dc4 pm4 an4 cd4 ct4), sl4⟩)
    (c4 : PySem.W.codeIn K cd4 "Hand.begin" = true)
    (k4 : PySem.W.keepIn K (.ref f4) = true)
    (a5 : PySem.W.findIn K (.ref cHand) "asked_by" = some (some (.ref f5)))
    (i5 : PySem.W.isFn K (.ref f5) = true)
    (l5 : K.lookup f5 = some ⟨oc5, od5, .func (PySem.W.fnOf "asked_by" "Hand.asked_by" (defArgs s_Hand_asked_by) (defBody s_Hand_asked_by) (defScope s_Hand_asked_by) .none kV5 dc5 pm5 an5 cd5 ct5), sl5⟩)
    (c5 : PySem.W.codeIn K cd5 "Hand.asked_by" = true)
    (k5 : PySem.W.keepIn K (.ref f5) = true)
    (a6 : PySem.W.findIn K (.ref cHand) "told_by" = some (some (.ref f6)))
    (i6 : PySem.W.isFn K (.ref f6) = true)
    (l6 : K.lookup f6 = some ⟨oc6, od6, .func (PySem.W.fnOf "told_by" "Hand.told_by" (defArgs s_Hand_told_by) (defBody s_Hand_told_by) (defScope s_Hand_told_by) .none kV6 dc6 pm6 an6 cd6 ct6), sl6⟩)
    (c6 : PySem.W.codeIn K cd6 "Hand.told_by" = true)
    (k6 : PySem.W.keepIn K (.ref f6) = true)
    (a7 : PySem.W.findIn K (.ref cHand) "come" = some (some (.ref f7)))
    (i7 : PySem.W.isFn K (.ref f7) = true)
    (l7 : K.lookup f7 = some ⟨oc7, od7, .func (PySem.W.fnOf "come" "Hand.come" (defArgs s_Hand_come) (defBody s_Hand_come) (defScope s_Hand_come) .none kV7 dc7 pm7 an7 cd7 ct7), sl7⟩)
    (c7 : PySem.W.codeIn K cd7 "Hand.come" = true)
    (k7 : PySem.W.keepIn K (.ref f7) = true)
    (a8 : PySem.W.nsIn K mainGlobals "_law_cell_at" = some (some (.ref f8)))
    (l8 : K.lookup f8 = some ⟨oc8, od8, .func (PySem.W.fnOf "_law_cell_at" "_law_cell_at" (defArgs s_cell_at) (defBody s_cell_at) (defScope s_cell_at) .none kV8 dc8 pm8 an8 cd8 ct8), sl8⟩)
    (c8 : PySem.W.codeIn K cd8 "_law_cell_at" = true)
    (k8 : PySem.W.keepIn K (.ref f8) = true)
    (a9 : PySem.W.nsIn K mainGlobals "_law_alike" = some (some (.ref f9)))
    (l9 : K.lookup f9 = some ⟨oc9, od9, .func (PySem.W.fnOf "_law_alike" "_law_alike" (defArgs s_alike) (defBody s_alike) (defScope s_alike) .none kV9 dc9 pm9 an9 cd9 ct9), sl9⟩)
    (c9 : PySem.W.codeIn K cd9 "_law_alike" = true)
    (k9 : PySem.W.keepIn K (.ref f9) = true)
    (a10 : PySem.W.nsIn K mainGlobals "_law_kept" = some (some (.ref f10)))
    (l10 : K.lookup f10 = some ⟨oc10, od10, .func (PySem.W.fnOf "_law_kept" "_law_kept" (defArgs s_kept) (defBody s_kept) (defScope s_kept) .none kV10 dc10 pm10 an10 cd10 ct10), sl10⟩)
    (c10 : PySem.W.codeIn K cd10 "_law_kept" = true)
    (k10 : PySem.W.keepIn K (.ref f10) = true)
    (a11 : PySem.W.nsIn K mainGlobals "_law_sent" = some (some (.ref f11)))
    (l11 : K.lookup f11 = some ⟨oc11, od11, .func (PySem.W.fnOf "_law_sent" "_law_sent" (defArgs s_sent) (defBody s_sent) (defScope s_sent) .none kV11 dc11 pm11 an11 cd11 ct11), sl11⟩)
    (c11 : PySem.W.codeIn K cd11 "_law_sent" = true)
    (k11 : PySem.W.keepIn K (.ref f11) = true)
    (a12 : PySem.W.nsIn K mainGlobals "_law_sent_back" = some (some (.ref f12)))
    (l12 : K.lookup f12 = some ⟨oc12, od12, .func (PySem.W.fnOf "_law_sent_back" "_law_sent_back" (defArgs s_sent_back) (defBody s_sent_back) (defScope s_sent_back) .none kV12 dc12 pm12 an12 cd12 ct12), sl12⟩)
    (c12 : PySem.W.codeIn K cd12 "_law_sent_back" = true)
    (k12 : PySem.W.keepIn K (.ref f12) = true)
    (a13 : PySem.W.nsIn K mainGlobals "_law_come" = some (some (.ref f13)))
    (l13 : K.lookup f13 = some ⟨oc13, od13, .func (PySem.W.fnOf "_law_come" "_law_come" (defArgs s_come) (defBody s_come) (defScope s_come) .none kV13 dc13 pm13 an13 cd13 ct13), sl13⟩)
    (c13 : PySem.W.codeIn K cd13 "_law_come" = true)
    (k13 : PySem.W.keepIn K (.ref f13) = true)
    (a14 : PySem.W.nsIn K mainGlobals "_law_letter" = some (some (.ref f14)))
    (l14 : K.lookup f14 = some ⟨oc14, od14, .func (PySem.W.fnOf "_law_letter" "_law_letter" (defArgs s_letter) (defBody s_letter) (defScope s_letter) .none kV14 dc14 pm14 an14 cd14 ct14), sl14⟩)
    (c14 : PySem.W.codeIn K cd14 "_law_letter" = true)
    (k14 : PySem.W.keepIn K (.ref f14) = true)
    (a15 : PySem.W.nsIn K mainGlobals "law" = some (some (.ref f15)))
    (l15 : K.lookup f15 = some ⟨oc15, od15, .func (PySem.W.fnOf "law" "law" (defArgs s_law) (defBody s_law) (defScope s_law) .none kV15 dc15 pm15 an15 cd15 ct15), sl15⟩)
    (c15 : PySem.W.codeIn K cd15 "law" = true)
    (k15 : PySem.W.keepIn K (.ref f15) = true)
    (pgHand : PySem.W.plainGet K cHand Str.empty = true)
    (hdHand : PySem.W.hasDictIn K cHand = true)
    (poHand : PySem.W.plainOver K cHand = true)
    (saHand : PySem.W.findIn K (.ref cHand) "__setattr__" = some (some (.builtin "object.__setattr__")))
    (nHand_number : PySem.W.findIn K (.ref cHand) "number" = some none)
    (nHand_word : PySem.W.findIn K (.ref cHand) "word" = some none)
    (nHand_others : PySem.W.findIn K (.ref cHand) "others" = some none)
    (nHand_is_asker : PySem.W.findIn K (.ref cHand) "is_asker" = some none)
    (nHand_is_freed : PySem.W.findIn K (.ref cHand) "is_freed" = some none)
    (nHand_has_asked : PySem.W.findIn K (.ref cHand) "has_asked" = some none)
    (nHand_askers : PySem.W.findIn K (.ref cHand) "askers" = some none)
    (nHand_told_so : PySem.W.findIn K (.ref cHand) "told_so" = some none)
    (nHand_owed : PySem.W.findIn K (.ref cHand) "owed" = some none)
    (nHand_waker : PySem.W.findIn K (.ref cHand) "waker" = some none)
    (z_bool : PySem.W.nsIn K mainGlobals "bool" = some none)
    (z_int : PySem.W.nsIn K mainGlobals "int" = some none)
    (z_isinstance : PySem.W.nsIn K mainGlobals "isinstance" = some none)
    (z_len : PySem.W.nsIn K mainGlobals "len" = some none)
    (z_list : PySem.W.nsIn K mainGlobals "list" = some none)
    (z_range : PySem.W.nsIn K mainGlobals "range" = some none)
    (z_str : PySem.W.nsIn K mainGlobals "str" = some none)
    (z_tuple : PySem.W.nsIn K mainGlobals "tuple" = some none) :
    ∃ fd : FuncData, (∀ (s : Shared) (v : Value), BindsTo s fd ⟨[v], []⟩ [("_law_script", v)]) ∧ ∀ base : Heap, K.In base → base.Ns mainGlobals mg → FnOk l.prog w K mg base CX0 5 fa fd ["_law_script"] (sp_law K ⟨0, cHand, 0, 0, 0, 0, 0⟩) := by
  have e := hfa.symm.trans (PySem.W.mg_of X G a15)
  cases e
  have F1 := fun_mk (st := s_Hand_init) l1 c1 k1
  have b1 := F1.binds (ps := ["self", "number", "wait", "is_asker"]) fun _ _ _ _ _ _ us hl => match us, hl with | [_, _, _, _], _ => rfl
  have F2 := fun_mk (st := s_Hand_posted) l2 c2 k2
  have b2 := F2.binds (ps := ["self", "word", "receivers"]) fun _ _ _ _ _ _ us hl => match us, hl with | [_, _, _], _ => rfl
  have F3 := fun_mk (st := s_Hand_asking) l3 c3 k3
  have b3 := F3.binds (ps := ["self"]) fun _ _ _ _ _ _ us hl => match us, hl with | [_], _ => rfl
  have F4 := fun_mk (st := s_Hand_begin) l4 c4 k4
  have b4 := F4.binds (ps := ["self"]) fun _ _ _ _ _ _ us hl => match us, hl with | [_], _ => rfl
  have F5 := fun_mk (st := s_Hand_asked_by) l5 c5 k5
  have b5 := F5.binds (ps := ["self", "sender"]) fun _ _ _ _ _ _ us hl => match us, hl with | [_, _], _ => rfl
  have F6 := fun_mk (st := s_Hand_told_by) l6 c6 k6
  have b6 := F6.binds (ps := ["self", "sender"]) fun _ _ _ _ _ _ us hl => match us, hl with | [_, _], _ => rfl
  have F7 := fun_mk (st := s_Hand_come) l7 c7 k7
  have b7 := F7.binds (ps := ["self", "letter"]) fun _ _ _ _ _ _ us hl => match us, hl with | [_, _], _ => rfl
  have F8 := fun_mk (st := s_cell_at) l8 c8 k8
  have b8 := F8.binds (ps := ["_law_script", "_law_k"]) fun _ _ _ _ _ _ us hl => match us, hl with | [_, _], _ => rfl
  have F9 := fun_mk (st := s_alike) l9 c9 k9
  have b9 := F9.binds (ps := ["_law_found", "_law_due"]) fun _ _ _ _ _ _ us hl => match us, hl with | [_, _], _ => rfl
  have F10 := fun_mk (st := s_kept) l10 c10 k10
  have b10 := F10.binds (ps := ["_law_hand", "_law_s"]) fun _ _ _ _ _ _ us hl => match us, hl with | [_, _], _ => rfl
  have F11 := fun_mk (st := s_sent) l11 c11 k11
  have b11 := F11.binds (ps := ["_law_s", "_law_word", "_law_hands"]) fun _ _ _ _ _ _ us hl => match us, hl with | [_, _, _], _ => rfl
  have F12 := fun_mk (st := s_sent_back) l12 c12 k12
  have b12 := F12.binds (ps := ["_law_s", "_law_hand"]) fun _ _ _ _ _ _ us hl => match us, hl with | [_, _], _ => rfl
  have F13 := fun_mk (st := s_come) l13 c13 k13
  have b13 := F13.binds (ps := ["_law_s", "_law_word", "_law_sender"]) fun _ _ _ _ _ _ us hl => match us, hl with | [_, _, _], _ => rfl
  have F14 := fun_mk (st := s_letter) l14 c14 k14
  have b14 := F14.binds (ps := ["_law_s", "_law_cell"]) fun _ _ _ _ _ _ us hl => match us, hl with | [_, _], _ => rfl
  have F15 := fun_mk (st := s_law) l15 c15 k15
  have b15 := F15.binds (ps := ["_law_script"]) fun _ _ _ _ _ _ us hl => match us, hl with | [_], _ => rfl
  let T : Tx K mg ⟨0, cHand, 0, 0, 0, 0, 0⟩ := {
    f_Hand_init := f1,
    fd_Hand_init := PySem.W.fnOf "__init__" "Hand.__init__" (defArgs s_Hand_init) (defBody s_Hand_init) (defScope s_Hand_init) .none kV1 dc1 pm1 an1 cd1 ct1,
    F_Hand_init := F1,
    b_Hand_init := b1,
    mk_Hand := ⟨mkHand, a1, i1, kcHand⟩,
    gc_Hand := PySem.W.mg_of X G gHand,
    f_Hand_posted := f2,
    fd_Hand_posted := PySem.W.fnOf "posted" "Hand.posted" (defArgs s_Hand_posted) (defBody s_Hand_posted) (defScope s_Hand_posted) .none kV2 dc2 pm2 an2 cd2 ct2,
    F_Hand_posted := F2,
    b_Hand_posted := b2,
    me_Hand_posted := ⟨a2, i2, k2⟩,
    f_Hand_asking := f3,
    fd_Hand_asking := PySem.W.fnOf "asking" "Hand.asking" (defArgs s_Hand_asking) (defBody s_Hand_asking) (defScope s_Hand_asking) .none kV3 dc3 pm3 an3 cd3 ct3,
    F_Hand_asking := F3,
    b_Hand_asking := b3,
    me_Hand_asking := ⟨a3, i3, k3⟩,
    f_Hand_begin := f4,
    fd_Hand_begin := PySem.W.fnOf "begin" "Hand.begin" (defArgs s_Hand_begin) (defBody s_Hand_begin) (defScope s_Hand_begin) .none kV4 dc4 pm4 an4 cd4 ct4,
    F_Hand_begin := F4,
    b_Hand_begin := b4,
    me_Hand_begin := ⟨a4, i4, k4⟩,
    f_Hand_asked_by := f5,
    fd_Hand_asked_by := PySem.W.fnOf "asked_by" "Hand.asked_by" (defArgs s_Hand_asked_by) (defBody s_Hand_asked_by) (defScope s_Hand_asked_by) .none kV5 dc5 pm5 an5 cd5 ct5,
    F_Hand_asked_by := F5,
    b_Hand_asked_by := b5,
    me_Hand_asked_by := ⟨a5, i5, k5⟩,
    f_Hand_told_by := f6,
    fd_Hand_told_by := PySem.W.fnOf "told_by" "Hand.told_by" (defArgs s_Hand_told_by) (defBody s_Hand_told_by) (defScope s_Hand_told_by) .none kV6 dc6 pm6 an6 cd6 ct6,
    F_Hand_told_by := F6,
    b_Hand_told_by := b6,
    me_Hand_told_by := ⟨a6, i6, k6⟩,
    f_Hand_come := f7,
    fd_Hand_come := PySem.W.fnOf "come" "Hand.come" (defArgs s_Hand_come) (defBody s_Hand_come) (defScope s_Hand_come) .none kV7 dc7 pm7 an7 cd7 ct7,
    F_Hand_come := F7,
    b_Hand_come := b7,
    me_Hand_come := ⟨a7, i7, k7⟩,
    f_cell_at := f8,
    fd_cell_at := PySem.W.fnOf "_law_cell_at" "_law_cell_at" (defArgs s_cell_at) (defBody s_cell_at) (defScope s_cell_at) .none kV8 dc8 pm8 an8 cd8 ct8,
    F_cell_at := F8,
    b_cell_at := b8,
    m_cell_at := PySem.W.mg_of X G a8,
    f_alike := f9,
    fd_alike := PySem.W.fnOf "_law_alike" "_law_alike" (defArgs s_alike) (defBody s_alike) (defScope s_alike) .none kV9 dc9 pm9 an9 cd9 ct9,
    F_alike := F9,
    b_alike := b9,
    m_alike := PySem.W.mg_of X G a9,
    f_kept := f10,
    fd_kept := PySem.W.fnOf "_law_kept" "_law_kept" (defArgs s_kept) (defBody s_kept) (defScope s_kept) .none kV10 dc10 pm10 an10 cd10 ct10,
    F_kept := F10,
    b_kept := b10,
    m_kept := PySem.W.mg_of X G a10,
    f_sent := f11,
    fd_sent := PySem.W.fnOf "_law_sent" "_law_sent" (defArgs s_sent) (defBody s_sent) (defScope s_sent) .none kV11 dc11 pm11 an11 cd11 ct11,
    F_sent := F11,
    b_sent := b11,
    m_sent := PySem.W.mg_of X G a11,
    f_sent_back := f12,
    fd_sent_back := PySem.W.fnOf "_law_sent_back" "_law_sent_back" (defArgs s_sent_back) (defBody s_sent_back) (defScope s_sent_back) .none kV12 dc12 pm12 an12 cd12 ct12,
    F_sent_back := F12,
    b_sent_back := b12,
    m_sent_back := PySem.W.mg_of X G a12,
    f_come := f13,
    fd_come := PySem.W.fnOf "_law_come" "_law_come" (defArgs s_come) (defBody s_come) (defScope s_come) .none kV13 dc13 pm13 an13 cd13 ct13,
    F_come := F13,
    b_come := b13,
    m_come := PySem.W.mg_of X G a13,
    f_letter := f14,
    fd_letter := PySem.W.fnOf "_law_letter" "_law_letter" (defArgs s_letter) (defBody s_letter) (defScope s_letter) .none kV14 dc14 pm14 an14 cd14 ct14,
    F_letter := F14,
    b_letter := b14,
    m_letter := PySem.W.mg_of X G a14,
    f_law := fa,
    fd_law := PySem.W.fnOf "law" "law" (defArgs s_law) (defBody s_law) (defScope s_law) .none kV15 dc15 pm15 an15 cd15 ct15,
    F_law := F15,
    b_law := b15,
    m_law := PySem.W.mg_of X G a15,
    cl_Hand := ⟨pgHand, hdHand, poHand, saHand⟩,
    no_Hand_number := nHand_number,
    no_Hand_word := nHand_word,
    no_Hand_others := nHand_others,
    no_Hand_is_asker := nHand_is_asker,
    no_Hand_is_freed := nHand_is_freed,
    no_Hand_has_asked := nHand_has_asked,
    no_Hand_askers := nHand_askers,
    no_Hand_told_so := nHand_told_so,
    no_Hand_owed := nHand_owed,
    no_Hand_waker := nHand_waker,
    bi_bool := PySem.W.mg_none_of X G z_bool,
    bi_int := PySem.W.mg_none_of X G z_int,
    bi_isinstance := PySem.W.mg_none_of X G z_isinstance,
    bi_len := PySem.W.mg_none_of X G z_len,
    bi_list := PySem.W.mg_none_of X G z_list,
    bi_range := PySem.W.mg_none_of X G z_range,
    bi_str := PySem.W.mg_none_of X G z_str,
    bi_tuple := PySem.W.mg_none_of X G z_tuple }
  exact ⟨PySem.W.fnOf "law" "law" (defArgs s_law) (defBody s_law) (defScope s_law) .none kV15 dc15 pm15 an15 cd15 ct15, fun s v => .of_eq rfl, fun base _ _ => ok_law T⟩
end SB
open PySem PySem.W PyProof.Rows in
set_option maxRecDepth 100000 in
set_option maxHeartbeats 0 in
theorem PySem.Challenge.cw_stuckbell_k05_one_hand_holds : PySem.Challenge.rw_stuckbell_k05_one_hand.Holds := by
  w_on; o_law; k_head; (case hw => w_witness2)
  k_fill
  refine L2.walk_ofK (l := PySem.Challenge.rw_stuckbell_k05_one_hand) (n := 63) (k := 5) (x := "_law_script") (CX := L2.CX0) (sp := SB.spL) rfl (by decide) rfl ⟨rfl, by decide, by decide⟩ (fun w h Y => PySem.W.kIn_of Y) ?F (fun _ _ a ns hl _ hS => ⟨_, rfl, a, ns, rfl, hS, hl, fun _ => rfl⟩) (fun _ _ _ _ z => z)
  case F =>
    intro w mg fa h KX G hmg
    refine' SB.all_mk KX G hmg ?gHand ?a1 ?i1 ?l1 ?c1 ?k1 ?mkHand ?kcHand ?a2 ?i2 ?l2 ?c2 ?k2 ?a3 ?i3 ?l3 ?c3 ?k3 ?a4 ?i4 ?l4 ?c4 ?k4 ?a5 ?i5 ?l5 ?c5 ?k5 ?a6 ?i6 ?l6 ?c6 ?k6 ?a7 ?i7 ?l7 ?c7 ?k7 ?a8 ?l8 ?c8 ?k8 ?a9 ?l9 ?c9 ?k9 ?a10 ?l10 ?c10 ?k10 ?a11 ?l11 ?c11 ?k11 ?a12 ?l12 ?c12 ?k12 ?a13 ?l13 ?c13 ?k13 ?a14 ?l14 ?c14 ?k14 ?a15 ?l15 ?c15 ?k15 ?pgHand ?hdHand ?poHand ?saHand ?nHand_number ?nHand_word ?nHand_others ?nHand_is_asker ?nHand_is_freed ?nHand_has_asked ?nHand_askers ?nHand_told_so ?nHand_owed ?nHand_waker ?z_bool ?z_int ?z_isinstance ?z_len ?z_list ?z_range ?z_str ?z_tuple
    (case gHand => k_is)
    (case a1 => k_is)
    (case i1 => k_is)
    (case l1 => k_is)
    (case c1 => k_is)
    (case k1 => k_is)
    (case mkHand => k_is)
    (case kcHand => k_is)
    (case a2 => k_is)
    (case i2 => k_is)
    (case l2 => k_is)
    (case c2 => k_is)
    (case k2 => k_is)
    (case a3 => k_is)
    (case i3 => k_is)
    (case l3 => k_is)
    (case c3 => k_is)
    (case k3 => k_is)
    (case a4 => k_is)
    (case i4 => k_is)
    (case l4 => k_is)
    (case c4 => k_is)
    (case k4 => k_is)
    (case a5 => k_is)
    (case i5 => k_is)
    (case l5 => k_is)
    (case c5 => k_is)
    (case k5 => k_is)
    (case a6 => k_is)
    (case i6 => k_is)
    (case l6 => k_is)
    (case c6 => k_is)
    (case k6 => k_is)
    (case a7 => k_is)
    (case i7 => k_is)
    (case l7 => k_is)
    (case c7 => k_is)
    (case k7 => k_is)
    (case a8 => k_is)
    (case l8 => k_is)
    (case c8 => k_is)
    (case k8 => k_is)
    (case a9 => k_is)
    (case l9 => k_is)
    (case c9 => k_is)
    (case k9 => k_is)
    (case a10 => k_is)
    (case l10 => k_is)
    (case c10 => k_is)
    (case k10 => k_is)
    (case a11 => k_is)
    (case l11 => k_is)
    (case c11 => k_is)
    (case k11 => k_is)
    (case a12 => k_is)
    (case l12 => k_is)
    (case c12 => k_is)
    (case k12 => k_is)
    (case a13 => k_is)
    (case l13 => k_is)
    (case c13 => k_is)
    (case k13 => k_is)
    (case a14 => k_is)
    (case l14 => k_is)
    (case c14 => k_is)
    (case k14 => k_is)
    (case a15 => k_is)
    (case l15 => k_is)
    (case c15 => k_is)
    (case k15 => k_is)
    (case pgHand => k_is)
    (case hdHand => k_is)
    (case poHand => k_is)
    (case saHand => k_is)
    (case nHand_number => k_is)
    (case nHand_word => k_is)
    (case nHand_others => k_is)
    (case nHand_is_asker => k_is)
    (case nHand_is_freed => k_is)
    (case nHand_has_asked => k_is)
    (case nHand_askers => k_is)
    (case nHand_told_so => k_is)
    (case nHand_owed => k_is)
    (case nHand_waker => k_is)
    (case z_bool => k_is)
    (case z_int => k_is)
    (case z_isinstance => k_is)
    (case z_len => k_is)
    (case z_list => k_is)
    (case z_range => k_is)
    (case z_str => k_is)
    (case z_tuple => k_is)
