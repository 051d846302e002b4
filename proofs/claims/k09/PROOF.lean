import PyProof.Rows.All
import Wide.All
import OpenK.AllK
import Wide.FinOn
import HandS.ForMost
import HandS.IsInst
import HandS.Deep
import HandS.SetFor
import HandS.Rev
import HandS.SortInts
import HandS.Evl
import HandS.Dict
import HandS.Style
import HandS.More
import HandS.List
import HandS.IsInst
import HandS.Steps
import HandS.SetFor
import PySem.Challenge.RW_stuckbell_k09_whole_never_false
set_option Elab.async false
set_option linter.all false
set_option maxRecDepth 100000
set_option maxHeartbeats 4000000
/-! the steps that need no word -/
set_option hygiene false in
local macro_rules | `(tactic| walk_at "rd1") => `(tactic| first
  | (with_reducible refine SB.r_seq ?_)
  | ((with_reducible refine' SB.r_var ?k1 ?_); (case k1 => rfl))
  | (with_reducible refine SB.r_c ?_)
  | (with_reducible refine SB.r_op ?_)
  | ((with_reducible refine' SB.r_mul ?k1 ?_); (case k1 => first | exact Or.inr ⟨by decide, by decide⟩ | exact Or.inl ⟨by decide, by decide⟩ | exact Or.inr ⟨by omega, by omega⟩ | exact Or.inl ⟨by omega, by omega⟩))
  | ((with_reducible refine' SB.r_mod ?k1 ?_); (case k1 => first | decide | omega))
  | ((with_reducible refine' SB.r_div ?k1 ?_); (case k1 => first | exact ⟨by decide, by decide⟩ | exact ⟨by omega, by omega⟩))
  | (with_reducible refine SB.r_I0 ?_)
  | ((with_reducible refine SB.r_gname ?_); try dsimp only [List.set_cons_succ, List.set_cons_zero])
  | (with_reducible refine SB.r_asg ?_)
  | (with_reducible refine SB.r_cons ?_)
  | (with_reducible refine SB.r_nil ?_)
  | (with_reducible refine SB.r_call ?_)
  | (with_reducible refine SB.r_sp1 ?_)
  | (with_reducible refine SB.r_sp2 ?_)
  | (with_reducible refine SB.r_sp3 ?_)
  | (with_reducible refine SB.r_sp4 ?_)
  | (with_reducible refine SB.r_cb ?_)
  | (with_reducible refine SB.r_ifS ?_)
  | (with_reducible refine SB.r_test ?_)
  | (with_reducible refine SB.r_tB ?_)
  | (with_reducible refine SB.r_bl ?_)
  | (with_reducible refine SB.r_eqI ?_)
  | (with_reducible refine SB.r_eqS ?_)
  | (with_reducible refine SB.r_neI ?_)
  | (with_reducible refine SB.r_neS ?_)
  | (with_reducible refine SB.r_next ?_)
  | (with_reducible refine SB.r_ret ?_)
  | (with_reducible refine SB.r_drop ?_)
  | (with_reducible refine SB.r_not ?_)
  | (with_reducible refine SB.r_notV ?_)
  | (with_reducible refine SB.r_and ?_)
  | (with_reducible refine SB.r_or ?_)
  | (with_reducible refine SB.r_andV ?_)
  | (with_reducible refine SB.r_orV ?_)
  | (with_reducible refine SB.r_yes ?_)
  | (with_reducible refine SB.r_lst ?_)
  | (with_reducible refine SB.r_tup ?_)
  | (with_reducible refine SB.r_qIsN ?_)
  | (with_reducible refine SB.r_qNotN ?_)
  | (with_reducible refine SB.r_bm ?_)
  | (with_reducible refine SB.r_bm0 ?_)
  | (with_reducible refine SB.r_chain ?_)
  | (with_reducible refine SB.r_sl ?_)
  | (with_reducible refine SB.r_nopart ?_)
  | (with_reducible refine SB.r_part ?_)
  | (with_reducible refine SB.r_some ?_)
  | (with_reducible refine SB.r_gsub ?_)
  | (with_reducible refine SB.r_forR1 ?_)
  | (with_reducible refine SB.r_forR2 ?_)
  | (with_reducible refine SB.r_forL ?_)
  | (with_reducible refine SB.r_forT ?_)
  | (with_reducible refine SB.r_forE ?_)
  | (with_reducible refine SB.r_lcR1 ?_)
  | (with_reducible refine SB.r_lcL ?_)
  | (with_reducible refine SB.r_lcT ?_)
  | (with_reducible refine SB.r_lcE ?_)
  | (with_reducible refine SB.r_listRev0 ?_)
  | (with_reducible refine SB.r_retN ?_))
local macro_rules | `(tactic| walk_at "rd") => `(tactic| repeat (walk_at "rd1"))
set_option hygiene false in
local macro_rules | `(tactic| walk_at "rd1") => `(tactic| first
  | (with_reducible refine SB.r_fld ?_)
  | (with_reducible refine SB.r_sfld ?_)
  | (with_reducible refine SB.r_meth ?_)
  | (with_reducible refine SB.r_make ?_)
  | (with_reducible refine SB.r_dget ?_)
  | (with_reducible refine SB.r_dput ?_)
  | (with_reducible refine SB.r_pcons ?_)
  | (with_reducible refine SB.r_pnil ?_)
  | (with_reducible refine SB.r_sp1m ?_)
  | (with_reducible refine SB.r_sp2m ?_)
  | (with_reducible refine SB.r_sp3m ?_)
  | (with_reducible refine SB.r_sp4m ?_)
  | (with_reducible refine SB.r_eqB ?_)
  | (with_reducible refine SB.r_neB ?_))
/-! The state kit: a frozen part F of the heap H, a ledger L of the cells that may still change, and data over F. -/
namespace SB
open PySem L2

/-! ### the state -/
structure Zs (F0 H0 F H : Hp) (L : List (Addr × HO)) : Prop where
  ff : Same F0 F
  hh : Same H0 H
  fh : Same F H
  sep : ∀ a, F0 a = none → H0 a ≠ none → F a = none
  led : ∀ q ∈ L, H q.1 = some q.2 ∧ F q.1 = none ∧ H0 q.1 = none
  nd : (L.map (·.1)).Nodup

theorem same_none {H H' : Hp} (s : Same H H') {a : Addr} (h : H' a = none) : H a = none := s.free h
theorem some_ne {H : Hp} {a : Addr} {o : HO} (h : H a = some o) : H a ≠ none := by rw [h]; exact fun q => nomatch q
theorem same_some {H H' : Hp} (s : Same H H') {a : Addr} (h : H a ≠ none) : H' a ≠ none := by
  cases e : H a with
  | none => exact absurd e h
  | some o => rw [s a o e]; exact fun q => nomatch q
theorem same_new {H : Hp} {p : Addr} {o : HO} (h : H p = none) : Same H (upd H p o) := fun a u e => by
  rw [upd_ne (ne_of_none e h)]; exact e
theorem same_mut {H H' : Hp} {p : Addr} {o : HO} (s : Same H H') (h : H p = none) : Same H (upd H' p o) := fun a u e => by
  rw [upd_ne (ne_of_none e h)]; exact s a u e

section
variable {F0 H0 F H F' H' : Hp} {L L1 L2 : List (Addr × HO)} {p : Addr} {o o' : HO}
theorem Zs.start (h : Same F H) : Zs F H F H [] := ⟨Same.refl _, Same.refl _, h, fun _ a _ => a, fun _ q => (nomatch q), List.nodup_nil⟩
theorem Zs.get (Z : Zs F0 H0 F H L) {i : Nat} (h : L[i]? = some (p, o)) : H p = some o := (Z.led (p, o) (List.mem_of_getElem? h)).1
theorem Zs.getF (Z : Zs F0 H0 F H L) {i : Nat} (h : L[i]? = some (p, o)) : F p = none := (Z.led (p, o) (List.mem_of_getElem? h)).2.1
theorem Zs.get0 (Z : Zs F0 H0 F H L) {i : Nat} (h : L[i]? = some (p, o)) : H0 p = none := (Z.led (p, o) (List.mem_of_getElem? h)).2.2
theorem Zs.fix (Z : Zs F0 H0 F H L) {a : Addr} {u : HO} (h : F a = some u) : H a = some u := Z.fh a u h
theorem Zs.alloc (Z : Zs F0 H0 F H L) (h : H p = none) : Zs F0 H0 F (upd H p o) ((p, o) :: L) where
  ff := Z.ff
  hh := same_mut Z.hh (same_none Z.hh h)
  fh := same_mut Z.fh (same_none Z.fh h)
  sep := Z.sep
  led := fun q hq => by
    rcases List.mem_cons.mp hq with rfl | hq
    · exact ⟨upd_same, same_none Z.fh h, same_none Z.hh h⟩
    · obtain ⟨a, b, c⟩ := Z.led q hq
      exact ⟨by rw [upd_ne (ne_of_none a h)]; exact a, b, c⟩
  nd := by
    rw [List.map_cons, List.nodup_cons]
    refine ⟨fun hm => ?_, Z.nd⟩
    obtain ⟨q, hq, e⟩ := List.mem_map.mp hm
    obtain ⟨a, _, _⟩ := Z.led q hq
    have e' : q.1 = p := e
    rw [e', h] at a
    cases a
theorem Zs.sub (Z : Zs F0 H0 F H L) (h : List.Sublist L1 L) : Zs F0 H0 F H L1 where
  ff := Z.ff
  hh := Z.hh
  fh := Z.fh
  sep := Z.sep
  led := fun q hq => Z.led q (h.subset hq)
  nd := (h.map _).nodup Z.nd
theorem Zs.drop (Z : Zs F0 H0 F H (q :: L)) : Zs F0 H0 F H L := Z.sub (List.sublist_cons_self _ _)
theorem Zs.dropAt (Z : Zs F0 H0 F H L) (i : Nat) : Zs F0 H0 F H (L.eraseIdx i) := Z.sub (List.eraseIdx_sublist _ _)
theorem Zs.nil (Z : Zs F0 H0 F H L) : Zs F0 H0 F H [] := Z.sub (List.nil_sublist _)
/-- what was frozen since is forgotten -/
theorem Zs.back (Z : Zs F0 H0 F H L) (h : Same F0 H0) : Zs F0 H0 F0 H [] := ⟨Same.refl _, Z.hh, h.trans Z.hh, fun _ a _ => a, fun _ q => (nomatch q), List.nodup_nil⟩
/-- two places of the ledger are two addresses -/
theorem Zs.ne (Z : Zs F0 H0 F H L) {i j : Nat} {p q : Addr} {o u : HO} (hi : L[i]? = some (p, o)) (hj : L[j]? = some (q, u)) (n : i ≠ j) : p ≠ q := fun e => by
  have a : (L.map (·.1))[i]? = some p := by rw [List.getElem?_map, hi] <;> rfl
  have b : (L.map (·.1))[j]? = some p := by rw [List.getElem?_map, hj, e] <;> rfl
  exact n (nd_ix Z.nd a b)
theorem Zs.setAt (Z : Zs F0 H0 F H L) (i : Nat) (h : L[i]? = some (p, o)) : Zs F0 H0 F (upd H p o') (L.set i (p, o')) where
  ff := Z.ff
  hh := same_mut Z.hh (Z.get0 h)
  fh := same_mut Z.fh (Z.getF h)
  sep := Z.sep
  led := fun q hq => by
    obtain ⟨j, hj⟩ := List.mem_iff_getElem?.mp hq
    rw [List.getElem?_set] at hj
    by_cases e : i = j
    · rw [if_pos e] at hj
      split at hj
      · have e2 := Option.some.inj hj
        subst e2
        exact ⟨upd_same, Z.getF h, Z.get0 h⟩
      · cases hj
    · rw [if_neg e] at hj
      obtain ⟨a, b, c⟩ := Z.led q (List.mem_of_getElem? hj)
      have n : p ≠ q.1 := Z.ne (i := i) (j := j) (q := q.1) (u := q.2) h hj e
      exact ⟨by rw [upd_ne n.symm]; exact a, b, c⟩
  nd := by
    have e : (L.set i (p, o')).map (·.1) = L.map (·.1) := by
      rw [List.map_set]
      refine List.ext_getElem? fun j => ?_
      rw [List.getElem?_set]
      by_cases q : i = j
      · subst q
        rw [if_pos rfl, List.getElem?_map, h]
        split
        · rfl
        · rename_i z
          have := (List.getElem?_eq_some_iff.mp h).1
          rw [List.length_map] at z
          exact absurd this z
      · rw [if_neg q]
    rw [e]
    exact Z.nd
/-- a cell that does not change any more -/
theorem Zs.frzAt (Z : Zs F0 H0 F H L) (i : Nat) (h : L[i]? = some (p, o)) : ∃ F', Zs F0 H0 F' H (L.eraseIdx i) ∧ Same F F' ∧ F' p = some o := by
  have hi := (List.getElem?_eq_some_iff.mp h).1
  have hni : ∀ q ∈ L.eraseIdx i, q.1 ≠ p := fun q hq e => by
    obtain ⟨j, hj⟩ := List.mem_iff_getElem?.mp hq
    rw [List.getElem?_eraseIdx] at hj
    split at hj
    · rename_i lt
      exact Z.ne (i := i) (j := j) (q := q.1) (u := q.2) h hj (by omega) e.symm
    · rename_i lt
      exact Z.ne (i := i) (j := j + 1) (q := q.1) (u := q.2) h hj (by omega) e.symm
  refine ⟨upd F p o, ⟨fun a u e => ?_, Z.hh, fun a u e => ?_, fun a e n => ?_, fun q hq => ?_, ?_⟩, same_new (Z.getF h), upd_same⟩
  · exact same_new (Z.getF h) a u (Z.ff a u e)
  · by_cases q : a = p
    · subst q
      rw [upd_same] at e
      rw [← e]
      exact Z.get h
    · rw [upd_ne q] at e
      exact Z.fh a u e
  · by_cases q : a = p
    · subst q
      exact absurd (Z.get0 h) n
    · rw [upd_ne q]
      exact Z.sep a e n
  · obtain ⟨a, b, c⟩ := Z.led q (List.eraseIdx_subset hq)
    exact ⟨a, by rw [upd_ne (hni q hq)]; exact b, c⟩
  · exact ((List.eraseIdx_sublist _ _).map _).nodup Z.nd
/-- behind a call that changes nothing that stood -/
theorem Zs.call (Z : Zs F0 H0 F H L) (W : Zs F H F' H' []) : Zs F0 H0 F' H' L where
  ff := Z.ff.trans W.ff
  hh := Z.hh.trans W.hh
  fh := W.fh
  sep := fun a e n => W.sep a (Z.sep a e n) (same_some Z.hh n)
  led := fun q hq => by
    obtain ⟨a, b, c⟩ := Z.led q hq
    exact ⟨W.hh _ _ a, W.sep _ b (some_ne a), c⟩
  nd := Z.nd
theorem Zs.ext (Z : Zs F0 H0 F H L) (s : Same H H') : Zs F0 H0 F H' L :=
  Z.call ⟨Same.refl _, s, Z.fh.trans s, fun _ a _ => a, fun _ q => (nomatch q), List.nodup_nil⟩
theorem Zs.trans {F1 H1 : Hp} (Z : Zs F0 H0 F1 H1 []) (W : Zs F1 H1 F H L) : Zs F0 H0 F H L where
  ff := Z.ff.trans W.ff
  hh := Z.hh.trans W.hh
  fh := W.fh
  sep := fun a e n => W.sep a (Z.sep a e n) (same_some Z.hh n)
  led := fun q hq => by
    obtain ⟨a, b, c⟩ := W.led q hq
    exact ⟨a, b, same_none Z.hh c⟩
  nd := W.nd
end

/-! ### data -/
mutual
inductive Td (F : Hp) : V → PyData → Prop
  | non : Td F .non .none
  | bl (b : Bool) : Td F (.bl b) (.bool b)
  | int (i : Int) : Td F (.int i) (.int i)
  | str (x : Str) : Td F (.str x) (.str x)
  | lst {a : Addr} {xs : List V} {ds : List PyData} : F a = some (.lst xs) → TdA F xs ds → Td F (.ref a) (.list ds)
  | tup {a : Addr} {xs : List V} {ds : List PyData} : F a = some (.tup xs) → TdA F xs ds → Td F (.ref a) (.tuple ds)
inductive TdA (F : Hp) : List V → List PyData → Prop
  | nil : TdA F [] []
  | cons {v : V} {vs : List V} {d : PyData} {ds : List PyData} : Td F v d → TdA F vs ds → TdA F (v :: vs) (d :: ds)
end
mutual
theorem Td.mono {F F' : Hp} (s : Same F F') : ∀ (d : PyData) (v : V), Td F v d → Td F' v d
  | .none, _, h => by cases h; exact .non
  | .bool b, _, h => by cases h; exact .bl b
  | .int i, _, h => by cases h; exact .int i
  | .str x, _, h => by cases h; exact .str x
  | .list ds, _, h => by
    cases h with
    | lst hs ha => exact .lst (s _ _ hs) (TdA.mono s ds _ ha)
  | .tuple ds, _, h => by
    cases h with
    | tup hs ha => exact .tup (s _ _ hs) (TdA.mono s ds _ ha)
  | .dict _, _, h => by cases h
theorem TdA.mono {F F' : Hp} (s : Same F F') : ∀ (ds : List PyData) (vs : List V), TdA F vs ds → TdA F' vs ds
  | [], _, h => by cases h; exact .nil
  | d :: ds, _, h => by
    cases h with
    | cons h1 h2 => exact .cons (Td.mono s d _ h1) (TdA.mono s ds _ h2)
end
mutual
theorem Td.dp {K : PySem.W.Frag} {F : Hp} : ∀ (d : PyData) (v : V), Td F v d → Dp K F v d
  | .none, _, h => by cases h; exact .non
  | .bool b, _, h => by cases h; exact .bl b
  | .int i, _, h => by cases h; exact .int i
  | .str x, _, h => by cases h; exact .str x
  | .list ds, _, h => by
    cases h with
    | lst hs ha => exact .lst (SqL.of hs) (TdA.dp ds _ ha)
  | .tuple ds, _, h => by
    cases h with
    | tup hs ha => exact .tup (SqT.of hs) (TdA.dp ds _ ha)
  | .dict _, _, h => by cases h
theorem TdA.dp {K : PySem.W.Frag} {F : Hp} : ∀ (ds : List PyData) (vs : List V), TdA F vs ds → DpAll K F vs ds
  | [], _, h => by cases h; exact .nil
  | d :: ds, _, h => by
    cases h with
    | cons h1 h2 => exact .cons (Td.dp d _ h1) (TdA.dp ds _ h2)
end
section
variable {F F' H : Hp} {v : V} {vs ws : List V} {d : PyData} {ds es : List PyData}
theorem Td.up (h : Td F v d) (s : Same F F') : Td F' v d := Td.mono s d v h
theorem TdA.up (h : TdA F vs ds) (s : Same F F') : TdA F' vs ds := TdA.mono s ds vs h
theorem TdA.len : ∀ {vs : List V} {ds : List PyData}, TdA F vs ds → vs.length = ds.length
  | _, _, .nil => rfl
  | _, _, .cons _ h => by rw [List.length_cons, List.length_cons, TdA.len h]
theorem TdA.append : ∀ {vs ws : List V} {ds es : List PyData}, TdA F vs ds → TdA F ws es → TdA F (vs ++ ws) (ds ++ es)
  | _, _, _, _, .nil, h => h
  | _, _, _, _, .cons h1 h2, h => .cons h1 (TdA.append h2 h)
theorem TdA.snoc (h : TdA F vs ds) (k : Td F v d) : TdA F (vs ++ [v]) (ds ++ [d]) := h.append (.cons k .nil)
theorem TdA.get : ∀ {vs : List V} {ds : List PyData} {i : Nat} {d : PyData}, TdA F vs ds → ds[i]? = some d → ∃ v, vs[i]? = some v ∧ Td F v d
  | _, _, _, _, .nil, h => by simp at h
  | _, _, 0, _, .cons h1 _, h => by simp at h; subst h; exact ⟨_, rfl, h1⟩
  | _, _, i + 1, _, .cons _ h2, h => by
    obtain ⟨v, a, b⟩ := TdA.get (i := i) h2 (by simpa using h)
    exact ⟨v, by simpa using a, b⟩
theorem TdA.at : ∀ {vs : List V} {ds : List PyData} {i : Nat} {v : V}, TdA F vs ds → vs[i]? = some v → ∃ d, ds[i]? = some d ∧ Td F v d
  | _, _, _, _, .nil, h => by simp at h
  | _, _, 0, _, .cons h1 _, h => by simp at h; subst h; exact ⟨_, rfl, h1⟩
  | _, _, i + 1, _, .cons _ h2, h => by
    obtain ⟨v, a, b⟩ := TdA.at (i := i) h2 (by simpa using h)
    exact ⟨v, by simpa using a, b⟩
theorem TdA.set : ∀ {vs : List V} {ds : List PyData} (i : Nat), TdA F vs ds → Td F v d → TdA F (vs.set i v) (ds.set i d)
  | _, _, _, .nil, _ => .nil
  | _, _, 0, .cons _ h2, k => .cons k h2
  | _, _, i + 1, .cons h1 h2, k => .cons h1 (TdA.set i h2 k)
theorem TdA.take : ∀ {vs : List V} {ds : List PyData} (i : Nat), TdA F vs ds → TdA F (vs.take i) (ds.take i)
  | _, _, 0, _ => .nil
  | _, _, _ + 1, .nil => .nil
  | _, _, i + 1, .cons h1 h2 => .cons h1 (TdA.take i h2)
theorem TdA.drop : ∀ {vs : List V} {ds : List PyData} (i : Nat), TdA F vs ds → TdA F (vs.drop i) (ds.drop i)
  | _, _, 0, h => h
  | _, _, _ + 1, .nil => .nil
  | _, _, i + 1, .cons _ h2 => TdA.drop i h2
theorem TdA.of_map {α : Type} {f : α → V} {g : α → PyData} (h : ∀ a, Td F (f a) (g a)) : ∀ l : List α, TdA F (l.map f) (l.map g)
  | [] => .nil
  | a :: l => .cons (h a) (TdA.of_map h l)
theorem TdA.ints (l : List Int) : TdA F (l.map V.int) (l.map PyData.int) := TdA.of_map (fun a => .int a) l
theorem TdA.bools (l : List Bool) : TdA F (l.map V.bl) (l.map PyData.bool) := TdA.of_map (fun a => .bl a) l
theorem TdA.of_ints : ∀ {vs : List V} {l : List Int}, TdA F vs (l.map PyData.int) → vs = l.map V.int
  | _, [], .nil => rfl
  | _, _ :: l, .cons (.int _) h => by rw [List.map_cons, TdA.of_ints h]
theorem TdA.of_bools : ∀ {vs : List V} {l : List Bool}, TdA F vs (l.map PyData.bool) → vs = l.map V.bl
  | _, [], .nil => rfl
  | _, _ :: l, .cons (.bl _) h => by rw [List.map_cons, TdA.of_bools h]
theorem Td.ints_lst {a : Addr} {l : List Int} (h : F a = some (.lst (l.map V.int))) : Td F (.ref a) (.list (l.map PyData.int)) := .lst h (TdA.ints l)
theorem Td.inv_lst (h : Td F v (.list ds)) : ∃ a xs, v = .ref a ∧ F a = some (.lst xs) ∧ TdA F xs ds := by
  cases h with
  | lst a b => exact ⟨_, _, rfl, a, b⟩
theorem Td.inv_tup (h : Td F v (.tuple ds)) : ∃ a xs, v = .ref a ∧ F a = some (.tup xs) ∧ TdA F xs ds := by
  cases h with
  | tup a b => exact ⟨_, _, rfl, a, b⟩
theorem Td.inv_ints {l : List Int} (h : Td F v (.list (l.map PyData.int))) : ∃ a, v = .ref a ∧ F a = some (.lst (l.map V.int)) := by
  obtain ⟨a, xs, rfl, h1, h2⟩ := h.inv_lst
  rw [h2.of_ints] at h1
  exact ⟨a, rfl, h1⟩
theorem Td.inv_int {n : Int} (h : Td F v (.int n)) : v = .int n := by cases h; rfl
theorem Td.inv_bl {n : Bool} (h : Td F v (.bool n)) : v = .bl n := by cases h; rfl
theorem Td.inv_str {n : Str} (h : Td F v (.str n)) : v = .str n := by cases h; rfl
theorem Td.inv_non (h : Td F v .none) : v = .non := by cases h; rfl
end

/-! ### readings, one construct a row -/
section
variable {K : PySem.W.Frag} {σ : St} {H : Hp} {Q : VK} {D : Ends} {t u : TS} {ta tb tc : TE} {tt tu : TT} {v x y : V} {r : R2} {i j : Int} {n : Nat} {b c : Bool}
theorem r_seq (h : t { D with nx := u D } σ H) : tSeq t u D σ H := h
theorem r_next (h : D.nx σ H) : tNext D σ H := h
theorem r_ret (h : ta σ H D.rt) : tRet ta D σ H := h
theorem r_retN (h : D.rt .non H) : tRetN D σ H := h
theorem r_drop (h : ta σ H fun _ H1 => D.nx σ H1) : tDrop ta D σ H := h
theorem r_asg {g : TG} (h : ta σ H fun x H1 => g x σ H1 D.nx) : tAsg ta g D σ H := h
theorem r_gname {Q : St → Hp → Prop} (h : Q (σ.set n (some v)) H) : gName n v σ H Q := h
theorem r_ifS (h : tt σ H fun b H1 => if b = true then t D σ H1 else u D σ H1) : tIfS tt t u D σ H := h
theorem r_var (h : σ[n]? = some (some v)) (k : Q v H) : tVar n σ H Q := ⟨v, h, k⟩
theorem r_c (k : Q v H) : tC v σ H Q := k
theorem r_op (h : ta σ H fun x H1 => tb σ H1 fun y H2 => r x y H2 Q) : tOp r ta tb σ H Q := h
theorem r_I0 {g : Int → Int → V} (k : Q (g i j) H) : rI0 g (.int i) (.int j) H Q := ⟨i, j, rfl, rfl, k⟩
theorem r_I {C : Int → Int → Prop} {g : Int → Int → V} (hc : C i j) (k : Q (g i j) H) : rI C g (.int i) (.int j) H Q := ⟨i, j, rfl, rfl, hc, k⟩
theorem r_mul {g : Int → Int → V} (hc : CMul i j) (k : Q (g i j) H) : rI CMul g (.int i) (.int j) H Q := ⟨i, j, rfl, rfl, hc, k⟩
theorem r_div {g : Int → Int → V} (hc : CDiv i j) (k : Q (g i j) H) : rI CDiv g (.int i) (.int j) H Q := ⟨i, j, rfl, rfl, hc, k⟩
theorem r_mod {g : Int → Int → V} (hc : 0 < j) (k : Q (g i j) H) : rI (fun _ j => 0 < j) g (.int i) (.int j) H Q := ⟨i, j, rfl, rfl, hc, k⟩
theorem dec_vi {i j : Int} : decide (V.int i = V.int j) = decide (i = j) := by
  by_cases e : i = j
  · rw [decide_eq_true e, decide_eq_true (by rw [e])]
  · rw [decide_eq_false e, decide_eq_false (fun q => e (V.int.inj q))]
theorem dec_vs {i j : Str} : decide (V.str i = V.str j) = decide (i = j) := by
  by_cases e : i = j
  · rw [decide_eq_true e, decide_eq_true (by rw [e])]
  · rw [decide_eq_false e, decide_eq_false (fun q => e (V.str.inj q))]
theorem dec_vb {i j : Bool} : decide (V.bl i = V.bl j) = (i == j) := by
  cases i <;> cases j <;> rfl
theorem r_eqI (k : Q (.bl (decide (i = j))) H) : rEq (.int i) (.int j) H Q := ⟨rfl, by rw [dec_vi]; exact k⟩
theorem r_eqS {i j : Str} (k : Q (.bl (decide (i = j))) H) : rEq (.str i) (.str j) H Q := ⟨rfl, by rw [dec_vs]; exact k⟩
theorem r_eqB {i j : Bool} (k : Q (.bl (i == j)) H) : rEq (.bl i) (.bl j) H Q := ⟨rfl, by rw [dec_vb]; exact k⟩
theorem r_neI (k : Q (.bl (!decide (i = j))) H) : rNe (.int i) (.int j) H Q := ⟨rfl, by rw [dec_vi]; exact k⟩
theorem r_neS {i j : Str} (k : Q (.bl (!decide (i = j))) H) : rNe (.str i) (.str j) H Q := ⟨rfl, by rw [dec_vs]; exact k⟩
theorem r_neB {i j : Bool} (k : Q (.bl (!(i == j))) H) : rNe (.bl i) (.bl j) H Q := ⟨rfl, by rw [dec_vb]; exact k⟩
theorem r_bl {P : Bool → Prop} (k : P b) : ∃ k, V.bl b = V.bl k ∧ P k := ⟨b, rfl, k⟩
theorem r_test {Q : Bool → Hp → Prop} (h : ta σ H fun x H' => ∃ k, x = .bl k ∧ Q k H') : tTest ta σ H Q := h
theorem r_tB {Q : Bool → Hp → Prop} (h : ta σ H fun x H' => ∃ k, x = .bl k ∧ Q k H') : tB ta σ H Q := h
theorem r_not {Q : Bool → Hp → Prop} (h : tt σ H fun c H1 => Q (!c) H1) : tNot tt σ H Q := h
theorem r_notV (h : ta σ H fun x H1 => ∃ c, x = .bl c ∧ Q (.bl (!c)) H1) : tNotV ta σ H Q := h
theorem r_and {Q : Bool → Hp → Prop} (h : tt σ H fun c H1 => if c = true then tu σ H1 Q else Q false H1) : tAnd tt tu σ H Q := h
theorem r_or {Q : Bool → Hp → Prop} (h : tt σ H fun c H1 => if c = true then Q true H1 else tu σ H1 Q) : tOr tt tu σ H Q := h
theorem r_andV (h : ta σ H fun x H1 => ∃ c, x = .bl c ∧ if c = true then tb σ H1 Q else Q (.bl false) H1) : tAndV ta tb σ H Q := h
theorem r_orV (h : ta σ H fun x H1 => ∃ c, x = .bl c ∧ if c = true then Q (.bl true) H1 else tb σ H1 Q) : tOrV ta tb σ H Q := h
theorem r_yes {Q : Bool → Hp → Prop} (h : Q true H) : tYes σ H Q := h
theorem r_if {tA : TT} (h : tA σ H fun c H1 => if c = true then ta σ H1 Q else tb σ H1 Q) : tIf tA ta tb σ H Q := h
theorem r_nil {Q : List V → Hp → Prop} (h : Q [] H) : tNil σ H Q := h
theorem r_cons {tr : TA} {Q : List V → Hp → Prop} (h : ta σ H fun x H1 => tr σ H1 fun xs H2 => Q (x :: xs) H2) : tCons ta tr σ H Q := h
/-- a new object is laid -/
def NewO (o : HO) (H : Hp) (Q : VK) : Prop := ∀ p, H p = none → Q (.ref p) (upd H p o)
theorem r_tup {t : TA} (h : t σ H fun xs H1 => xs.length ≤ sizeLine ∧ NewO (.tup xs) H1 Q) : tTup t σ H Q := h
theorem r_lst {t : TA} (h : t σ H fun xs H1 => xs.length ≤ sizeLine ∧ NewO (.lst xs) H1 Q) : tLst t σ H Q := h
theorem r_call {sp : Sp} {dvs : List V} {E : XK} {t : TA} (h : t σ H fun vs H1 => sp (vs ++ dvs) H1 Q E) : tCall sp dvs E t σ H Q := h
theorem r_cb {r : List V → Hp → VK → Prop} {t : TA} (h : t σ H fun vs H1 => r vs H1 Q) : tCB r t σ H Q := h
theorem r_bm {T : String} {r : V → List V → Hp → VK → Prop} {t : TA} (h : ta σ H fun x H1 => tyV K T x H1 ∧ t σ H1 fun xs H2 => r x xs H2 Q) : tBM K T r ta t σ H Q := h
theorem r_bm0 {T : String} {r : V → List V → Hp → VK → Prop} (h : ta σ H fun x H1 => tyV K T x H1 ∧ r x [] H1 Q) : tBM0 K T r ta σ H Q := h
theorem r_isN (k : Q (.bl (decide (x = .non))) H) : (fun x y H Q => y = V.non ∧ Q (.bl (decide (x = .non))) H : R2) x .non H Q := ⟨rfl, k⟩
theorem sz_of {n : Nat} (h : n ≤ 100000) : n ≤ sizeLine := Nat.le_trans h (by decide)
theorem sz0 : ([] : List V).length ≤ sizeLine := Nat.zero_le _
theorem sz1 {a : V} : [a].length ≤ sizeLine := by show 1 ≤ sizeLine; decide
theorem sz2 {a b : V} : [a, b].length ≤ sizeLine := by show 2 ≤ sizeLine; decide
theorem sz3 {a b c : V} : [a, b, c].length ≤ sizeLine := by show 3 ≤ sizeLine; decide
theorem sz5 {a b c d e : V} : [a, b, c, d, e].length ≤ sizeLine := by show 5 ≤ sizeLine; decide
theorem sz_lt {n : Nat} (h : n < 100000) : n < sizeLine := Nat.lt_of_lt_of_le h (by decide)
/-- an if over a decided test -/
theorem ifd {p A B : Prop} [Decidable p] (h1 : p → A) (h2 : ¬ p → B) : if decide p = true then A else B := by
  by_cases h : p
  · rw [if_pos (decide_eq_true h)]; exact h1 h
  · rw [if_neg (by rw [decide_eq_false h]; decide)]; exact h2 h
theorem ifn {p A B : Prop} [Decidable p] (h1 : ¬ p → A) (h2 : p → B) : if (!decide p) = true then A else B := by
  by_cases h : p
  · rw [if_neg (by rw [decide_eq_true h]; decide)]; exact h2 h
  · rw [if_pos (by rw [decide_eq_false h]; rfl)]; exact h1 h
theorem ifb {A B : Prop} (h1 : b = true → A) (h2 : b = false → B) : if b = true then A else B := by
  cases b with
  | true => exact h1 rfl
  | false => exact h2 rfl
theorem ifnb {A B : Prop} (h1 : b = false → A) (h2 : b = true → B) : if (!b) = true then A else B := by
  cases b with
  | true => exact h2 rfl
  | false => exact h1 rfl
theorem ifT {A B : Prop} (h : b = true) (k : A) : if b = true then A else B := by rw [if_pos h]; exact k
theorem ifF {A B : Prop} (h : b = false) (k : B) : if b = true then A else B := by rw [if_neg (by rw [h]; decide)]; exact k
/-- items of a list, a tuple -/
theorem r_ixL {p : Addr} {xs : List V} (hs : SqL K H p xs) (ha : atI xs i = some v) (k : Q v H) : rIxL K (.ref p) (.int i) H Q := ⟨p, xs, i, v, rfl, rfl, hs, ha, k⟩
theorem r_ixT {p : Addr} {xs : List V} (hs : SqT K H p xs) (ha : atI xs i = some v) (k : Q v H) : rIxT K (.ref p) (.int i) H Q := ⟨p, xs, i, v, rfl, rfl, hs, ha, k⟩
theorem at_i {α : Type} {xs : List α} {i : Int} {v : α} (h0 : 0 ≤ i) (h : xs[i.toNat]? = some v) : atI xs i = some v := by
  obtain ⟨k, rfl⟩ := Int.eq_ofNat_of_zero_le h0
  exact atI_nat h
theorem r_inL {neg : Bool} {p : Addr} {xs : List V} (hs : SqL K H p xs) (hx : flatV x = true) (ha : xs.all flatV = true) (k : Q (.bl (if neg then !inV x xs else inV x xs)) H) : rIn K neg x (.ref p) H Q := ⟨p, xs, rfl, .inl hs, hx, ha, k⟩
theorem r_inT {neg : Bool} {p : Addr} {xs : List V} (hs : SqT K H p xs) (hx : flatV x = true) (ha : xs.all flatV = true) (k : Q (.bl (if neg then !inV x xs else inV x xs)) H) : rIn K neg x (.ref p) H Q := ⟨p, xs, rfl, .inr hs, hx, ha, k⟩
/-- data compared -/
theorem r_eqD {d e : PyData} (h1 : Td H x d) (h2 : Td H y e) (s1 : SeqAt.shaped d = true) (s2 : SeqAt.shaped e = true) (k : Q (.bl (PyData.eqv d e)) H) : rEqD K x y H Q := ⟨d, e, Td.dp d x h1, Td.dp e y h2, s1, s2, k⟩
theorem r_neD {d e : PyData} (h1 : Td H x d) (h2 : Td H y e) (s1 : SeqAt.shaped d = true) (s2 : SeqAt.shaped e = true) (k : Q (.bl (!PyData.eqv d e)) H) : rNeD K x y H Q := ⟨d, e, Td.dp d x h1, Td.dp e y h2, s1, s2, k⟩
end
section
variable {F0 H0 F H : Hp} {L : List (Addr × HO)} {Q : VK}
/-- a new object -/
theorem r_mk {o : HO} {A : Prop} (a : A) (Z : Zs F0 H0 F H L) (k : ∀ p H', Zs F0 H0 F H' ((p, o) :: L) → Q (.ref p) H') : A ∧ NewO o H Q := ⟨a, fun p hp => k p _ (Z.alloc hp)⟩
end
end SB
/-! Loops and comprehensions over the state kit; named operators. -/
namespace SB
open PySem L2

/-! ### operators by short names -/
abbrev qAdd : R2 := rI0 fun i j => .int (i + j)
abbrev qSub : R2 := rI0 fun i j => .int (i - j)
abbrev qMul : R2 := rI CMul fun i j => .int (i * j)
abbrev qDiv : R2 := rI CDiv fun i j => .int (i / j)
abbrev qMod : R2 := rI (fun _ j => 0 < j) fun i j => .int (i % j)
abbrev qLt : R2 := rI0 fun i j => .bl (decide (i < j))
abbrev qLe : R2 := rI0 fun i j => .bl (decide (i ≤ j))
abbrev qGt : R2 := rI0 fun i j => .bl (decide (j < i))
abbrev qGe : R2 := rI0 fun i j => .bl (decide (j ≤ i))
def qIsN : R2 := fun x y H Q => y = .non ∧ Q (.bl (decide (x = .non))) H
def qNotN : R2 := fun x y H Q => y = .non ∧ Q (.bl (!decide (x = .non))) H
def qLen (K : PySem.W.Frag) : List V → Hp → VK → Prop := fun xs H Q => ∃ p ys, xs = [.ref p] ∧ (SqL K H p ys ∨ SqT K H p ys) ∧ Q (.int ys.length) H
def qListOf (K : PySem.W.Frag) : List V → Hp → VK → Prop := fun xs H Q => ∃ p ys, xs = [.ref p] ∧ (SqL K H p ys ∨ SqT K H p ys) ∧ ∀ l, H l = none → Q (.ref l) (upd H l (.lst ys))
def qInt1 : List V → Hp → VK → Prop := fun xs H Q => (∃ i, xs = [.int i] ∧ Q (.int i) H) ∨ ∃ k, xs = [.bl k] ∧ Q (.int (if k then 1 else 0)) H
section
variable {X : Cx}
theorem op_isNq : OpR X (compareOp .Is) qIsN := op_isN
theorem op_notNq : OpR X (compareOp .IsNot) qNotN := op_notN
theorem call_lenq : CallR X (.builtin "len") (qLen X.K) := call_len_seq
theorem call_listq : CallR X (.type "list") (qListOf X.K) := call_list_of
theorem call_int1q : CallR X (.type "int") qInt1 := call_int1
end
section
variable {K : PySem.W.Frag} {σ : St} {H : Hp} {Q : VK} {x v : V} {p : Addr} {ys : List V} {i : Int} {b : Bool}
theorem r_qIsN (k : Q (.bl (decide (x = .non))) H) : qIsN x .non H Q := ⟨rfl, k⟩
theorem r_qNotN (k : Q (.bl (!decide (x = .non))) H) : qNotN x .non H Q := ⟨rfl, k⟩
theorem r_qIsN_t (k : Q (.bl true) H) : qIsN .non .non H Q := ⟨rfl, k⟩
theorem r_lenL (h : SqL K H p ys) (k : Q (.int (ys.length : Int)) H) : qLen K [.ref p] H Q := ⟨p, ys, rfl, .inl h, k⟩
theorem r_lenT (h : SqT K H p ys) (k : Q (.int (ys.length : Int)) H) : qLen K [.ref p] H Q := ⟨p, ys, rfl, .inr h, k⟩
theorem r_listL {F0 H0 F : Hp} {L : List (Addr × HO)} (h : SqL K H p ys) (Z : Zs F0 H0 F H L) (k : ∀ l H', Zs F0 H0 F H' ((l, .lst ys) :: L) → Q (.ref l) H') : qListOf K [.ref p] H Q := ⟨p, ys, rfl, .inl h, fun l hl => k l _ (Z.alloc hl)⟩
theorem r_intB (k : Q (.int (if b then 1 else 0)) H) : qInt1 [.bl b] H Q := .inr ⟨b, rfl, k⟩
theorem r_intI (k : Q (.int i) H) : qInt1 [.int i] H Q := .inl ⟨i, rfl, k⟩
end

/-! ### a list's methods over the ledger -/
section
variable {K : PySem.W.Frag} {F0 H0 F H : Hp} {L : List (Addr × HO)} {Q : VK} {l b : Addr} {xs zs : List V} {y : V} {i : Nat}
theorem ty_l (h : SqL K H l xs) : tyV K "list" (.ref l) H := .inl ⟨rfl, _, h⟩
theorem r_append (i : Nat) (Z : Zs F0 H0 F H L) (h : L[i]? = some (l, .lst xs)) (hz : xs.length < 100000) (k : ∀ H', Zs F0 H0 F H' (L.set i (l, .lst (xs ++ [y]))) → Q .non H') : rAppend (.ref l) [y] H Q :=
  ⟨l, xs, y, rfl, rfl, Z.get h, sz_lt hz, k _ (Z.setAt i h)⟩
theorem r_extend (i : Nat) (Z : Zs F0 H0 F H L) (h : L[i]? = some (l, .lst xs)) (hb : H b = some (.lst zs)) (hz : xs.length + zs.length ≤ 100000) (k : ∀ H', Zs F0 H0 F H' (L.set i (l, .lst (xs ++ zs))) → Q .non H') : rExtend (.ref l) [.ref b] H Q :=
  ⟨l, b, xs, zs, rfl, rfl, Z.get h, hb, sz_of hz, k _ (Z.setAt i h)⟩
theorem r_setL (i : Nat) {j : Nat} {v : V} {c : Int} {Q : Hp → Prop} (Z : Zs F0 H0 F H L) (h : L[i]? = some (l, .lst xs)) (hc : c = (j : Int)) (hj : j < xs.length) (k : ∀ H', Zs F0 H0 F H' (L.set i (l, .lst (xs.set j v))) → Q H') : rSetL (.ref l) (.int c) v H Q := by
  subst hc
  refine ⟨l, xs, (j : Int), j, rfl, rfl, Z.get h, ?_, k _ (Z.setAt i h)⟩
  unfold ixN
  rw [if_pos (by omega), if_pos (by omega)]
  simp
theorem r_cat {a : Addr} (Z : Zs F0 H0 F H L) (ha : H a = some (.lst xs)) (hb : H b = some (.lst zs)) (hz : xs.length + zs.length ≤ 100000) (k : ∀ p H', Zs F0 H0 F H' ((p, .lst (xs ++ zs)) :: L) → Q (.ref p) H') : rCat (.ref a) (.ref b) H Q :=
  ⟨a, b, xs, zs, rfl, rfl, ha, hb, sz_of hz, fun p hp => k p _ (Z.alloc hp)⟩
theorem r_rep {a : Addr} {n : Int} (Z : Zs F0 H0 F H L) (ha : H a = some (.lst xs)) (h0 : 0 ≤ n) (h1 : n ≤ 100000) (hz : xs.length * n.toNat ≤ 100000) (k : ∀ p H', Zs F0 H0 F H' ((p, .lst (List.flatten (List.replicate n.toNat xs))) :: L) → Q (.ref p) H') : rRep (.ref a) (.int n) H Q := by
  refine ⟨a, n, xs, rfl, rfl, ha, by omega, by omega, sz_of hz, fun p hp => ?_⟩
  exact k p _ (Z.alloc hp)
theorem r_slL {a : Addr} {lo hi : Option Int} (Z : Zs F0 H0 F H L) (ha : SqL K H a xs) (k : ∀ p H', Zs F0 H0 F H' ((p, .lst (cutV xs lo hi)) :: L) → Q (.ref p) H') : rSlL K (.ref a) lo hi H Q := ⟨a, xs, rfl, ha, fun p hp => k p _ (Z.alloc hp)⟩
end

/-! ### for loops -/
/-- what a for over range(n) asks behind its argument -/
def FR1 (j : Nat) (tb : TS) (D : Ends) (σ : St) (vs : List V) (H1 : Hp) : Prop := ∃ n : Int, vs = [.int n] ∧ -(2 ^ 62) ≤ n ∧ n < 2 ^ 62 ∧ ∃ W : Nat → Nat → St → Hp → Prop, (∃ m, W 0 m σ H1) ∧ ∀ i m σ H, W i m σ H →
  ((Itr 0 n.toNat).stop i H ∧ D.nx σ H) ∨ ((Itr 0 n.toNat).go i H ∧ ∃ N : St → Hp → Prop, (∀ σ' H', N σ' H' → ∃ m', m' < m ∧ W (i + 1) m' σ' H') ∧ ∀ x H', (Itr 0 n.toNat).yld i H x H' → gName j x σ H' fun σ2 H2 => tb { D with nx := N, ct := N, bk := D.nx } σ2 H2)
def FR2 (j : Nat) (tb : TS) (D : Ends) (σ : St) (vs : List V) (H1 : Hp) : Prop := ∃ lo n : Int, vs = [.int lo, .int n] ∧ (-(2 ^ 62) ≤ lo ∧ lo < 2 ^ 62 ∧ -(2 ^ 62) ≤ n ∧ n < 2 ^ 62) ∧ ∃ W : Nat → Nat → St → Hp → Prop, (∃ m, W 0 m σ H1) ∧ ∀ i m σ H, W i m σ H →
  ((Itr lo (n - lo).toNat).stop i H ∧ D.nx σ H) ∨ ((Itr lo (n - lo).toNat).go i H ∧ ∃ N : St → Hp → Prop, (∀ σ' H', N σ' H' → ∃ m', m' < m ∧ W (i + 1) m' σ' H') ∧ ∀ x H', (Itr lo (n - lo).toNat).yld i H x H' → gName j x σ H' fun σ2 H2 => tb { D with nx := N, ct := N, bk := D.nx } σ2 H2)
/-- .. a for over a list -/
def FRL (K : PySem.W.Frag) (g : TG) (tb : TS) (D : Ends) (σ : St) (x : V) (H1 : Hp) : Prop := ∃ a, x = .ref a ∧ (∃ xs, SqL K H1 a xs) ∧ ∃ W : Nat → Nat → St → Hp → Prop, (∃ m, W 0 m σ H1) ∧ ∀ i m σ H, W i m σ H →
  ((Itl K a).stop i H ∧ D.nx σ H) ∨ ((Itl K a).go i H ∧ ∃ N : St → Hp → Prop, (∀ σ' H', N σ' H' → ∃ m', m' < m ∧ W (i + 1) m' σ' H') ∧ ∀ x H', (Itl K a).yld i H x H' → g x σ H' fun σ2 H2 => tb { D with nx := N, ct := N, bk := D.nx } σ2 H2)
/-- .. a for over a tuple -/
def FRT (K : PySem.W.Frag) (g : TG) (tb : TS) (D : Ends) (σ : St) (x : V) (H1 : Hp) : Prop := ∃ a, x = .ref a ∧ (∃ xs, SqT K H1 a xs) ∧ ∃ W : Nat → Nat → St → Hp → Prop, (∃ m, W 0 m σ H1) ∧ ∀ i m σ H, W i m σ H →
  ((Itt K a).stop i H ∧ D.nx σ H) ∨ ((Itt K a).go i H ∧ ∃ N : St → Hp → Prop, (∀ σ' H', N σ' H' → ∃ m', m' < m ∧ W (i + 1) m' σ' H') ∧ ∀ x H', (Itt K a).yld i H x H' → g x σ H' fun σ2 H2 => tb { D with nx := N, ct := N, bk := D.nx } σ2 H2)
/-- .. a for over enumerate(list) -/
def FRE (K : PySem.W.Frag) (g : TG) (tb : TS) (D : Ends) (σ : St) (vs : List V) (H1 : Hp) : Prop := ∃ a xs, vs = [.ref a] ∧ SqL K H1 a xs ∧ ∃ W : Nat → Nat → St → Hp → Prop, (∃ m, W 0 m σ H1) ∧ ∀ i m σ H, W i m σ H →
  ((Ite K a).stop i H ∧ D.nx σ H) ∨ ((Ite K a).go i H ∧ ∃ N : St → Hp → Prop, (∀ σ' H', N σ' H' → ∃ m', m' < m ∧ W (i + 1) m' σ' H') ∧ ∀ x H', (Ite K a).yld i H x H' → g x σ H' fun σ2 H2 => tb { D with nx := N, ct := N, bk := D.nx } σ2 H2)
section
variable {K : PySem.W.Frag} {σ : St} {H : Hp} {Q : VK} {D : Ends} {ta : TA} {te : TE} {tb : TS} {j : Nat} {g : TG} {a : Addr} {xs : List V}
theorem r_forR1 (h : ta σ H (FR1 j tb D σ)) : tFor (iRng1 ta) (gName j) tb D σ H := h
theorem r_forR2 (h : ta σ H (FR2 j tb D σ)) : tFor (iRng2 ta) (gName j) tb D σ H := h
theorem r_forL (h : te σ H (FRL K g tb D σ)) : tFor (iList K te) g tb D σ H := h
theorem r_forT (h : te σ H (FRT K g tb D σ)) : tFor (iTup K te) g tb D σ H := h
theorem r_forE (h : ta σ H (FRE K g tb D σ)) : tFor (iEnum K ta) g tb D σ H := h
theorem r_rng1 {n : Int} (hn : 0 ≤ n ∧ n ≤ 100000) (Pv : Nat → St → Hp → Prop) (h0 : Pv 0 σ H)
    (hs : ∀ (i : Nat) σ' H', (i : Int) < n → Pv i σ' H' → tb { D with nx := Pv (i + 1), ct := Pv (i + 1), bk := D.nx } (σ'.set j (some (.int (i : Int)))) H')
    (hd : ∀ σ' H', Pv n.toNat σ' H' → D.nx σ' H') : FR1 j tb D σ [.int n] H :=
  ⟨n, rfl, by omega, by omega, for_range (lo := 0) (n := n.toNat) Pv h0 (fun i σ' H' hi p => by
    have e0 : (0 : Int) + (i : Int) = (i : Int) := Int.zero_add _
    show tb { D with nx := Pv (i + 1), ct := Pv (i + 1), bk := D.nx } (σ'.set j (some (.int ((0 : Int) + (i : Int))))) H'
    rw [e0]
    exact hs i σ' H' (by omega) p) hd⟩
theorem r_rng2 {lo n : Int} (hn : 0 ≤ lo ∧ lo ≤ 100000 ∧ -100000 ≤ n ∧ n ≤ 100000) (Pv : Nat → St → Hp → Prop) (h0 : Pv 0 σ H)
    (hs : ∀ (i : Nat) σ' H', lo + (i : Int) < n → Pv i σ' H' → tb { D with nx := Pv (i + 1), ct := Pv (i + 1), bk := D.nx } (σ'.set j (some (.int (lo + (i : Int))))) H')
    (hd : ∀ σ' H', Pv (n - lo).toNat σ' H' → D.nx σ' H') : FR2 j tb D σ [.int lo, .int n] H :=
  ⟨lo, n, rfl, ⟨by omega, by omega, by omega, by omega⟩, for_range (lo := lo) (n := (n - lo).toNat) Pv h0 (fun i σ' H' hi p => hs i σ' H' (by omega) p) hd⟩
theorem r_lstI (hx : SqL K H a xs) (Pv : Nat → St → Hp → Prop) (h0 : Pv 0 σ H) (hl : ∀ i σ' H', i ≤ xs.length → Pv i σ' H' → SqL K H' a xs)
    (hs : ∀ i x σ' H', xs[i]? = some x → Pv i σ' H' → g x σ' H' fun σ2 H2 => tb { D with nx := Pv (i + 1), ct := Pv (i + 1), bk := D.nx } σ2 H2)
    (hd : ∀ σ' H', Pv xs.length σ' H' → D.nx σ' H') : FRL K g tb D σ (.ref a) H := ⟨a, rfl, ⟨xs, hx⟩, for_list Pv h0 hl hs hd⟩
theorem r_tupI (hx : SqT K H a xs) (Pv : Nat → St → Hp → Prop) (h0 : Pv 0 σ H) (hl : ∀ i σ' H', i ≤ xs.length → Pv i σ' H' → SqT K H' a xs)
    (hs : ∀ i x σ' H', xs[i]? = some x → Pv i σ' H' → g x σ' H' fun σ2 H2 => tb { D with nx := Pv (i + 1), ct := Pv (i + 1), bk := D.nx } σ2 H2)
    (hd : ∀ σ' H', Pv xs.length σ' H' → D.nx σ' H') : FRT K g tb D σ (.ref a) H := ⟨a, rfl, ⟨xs, hx⟩, for_tup Pv h0 hl hs hd⟩
theorem r_enumI (hx : SqL K H a xs) (Pv : Nat → St → Hp → Prop) (h0 : Pv 0 σ H) (hl : ∀ i σ' H', i ≤ xs.length → Pv i σ' H' → SqL K H' a xs)
    (hs : ∀ i x T σ' H', xs[i]? = some x → Pv i σ' H' → H' T = none → g (.ref T) σ' (upd H' T (.tup [.int (i : Nat), x])) fun σ2 H2 => tb { D with nx := Pv (i + 1), ct := Pv (i + 1), bk := D.nx } σ2 H2)
    (hd : ∀ σ' H', Pv xs.length σ' H' → D.nx σ' H') : FRE K g tb D σ [.ref a] H := by
  refine ⟨a, xs, rfl, hx, fun i m σ H => m = xs.length - i ∧ i ≤ xs.length ∧ Pv i σ H, ⟨xs.length, by simp, Nat.zero_le _, h0⟩, ?_⟩
  rintro i m σ H ⟨rfl, hi, p⟩
  have q := hl i σ H hi p
  by_cases hlt : i < xs.length
  · refine .inr ⟨⟨xs, xs[i], q, by simp [hlt]⟩, Pv (i + 1), fun σ' H' p' => ⟨xs.length - (i + 1), by omega, rfl, hlt, p'⟩, fun x H' y => ?_⟩
    obtain ⟨T, x', rfl, hT, rfl, hx'⟩ := y
    exact hs i x' T σ H (hx' xs q) p hT
  · have e : i = xs.length := by omega
    subst e
    exact .inl ⟨⟨xs, q, Nat.le_refl _⟩, hd σ H p⟩
/-- a while: W falls -/
theorem r_while {tc : TT} (W : Nat → St → Hp → Prop) (m0 : Nat) (h0 : W m0 σ H)
    (hs : ∀ m σ' H', W m σ' H' → tc σ' H' fun b H1 => if b = true then ∃ N : St → Hp → Prop, (∀ σ2 H2, N σ2 H2 → ∃ m', m' < m ∧ W m' σ2 H2) ∧ tb { D with nx := N, ct := N, bk := D.nx } σ' H1 else D.nx σ' H1) : tWhile tc tb D σ H := ⟨W, ⟨m0, h0⟩, hs⟩
end

/-! ### comprehensions -/
def LR1 (j : Nat) (tt : TT) (te : TE) (vs : List Nat) (σ : St) (Q : VK) (us : List V) (H1 : Hp) : Prop := ∃ n : Int, us = [.int n] ∧ -(2 ^ 62) ≤ n ∧ n < 2 ^ 62 ∧ ∀ D, H1 D = none → ∃ W : Nat → Nat → Hp → Prop, (∃ m, W 0 m (upd H1 D (.lst []))) ∧ ∀ i m H, W i m H →
  ((Itr 0 n.toNat).stop i H ∧ Q (.ref D) H) ∨ ((Itr 0 n.toNat).go i H ∧ ∃ Nx : Hp → Prop, (∀ H', Nx H' → ∃ m', m' < m ∧ W (i + 1) m' H') ∧ ∀ x H', (Itr 0 n.toNat).yld i H x H' → gName j x (wipe σ vs) H' fun σ2 H2 => wipe σ2 vs = wipe σ vs ∧ tt σ2 H2 fun b H3 =>
    if b = true then te σ2 H3 fun y H4 => ∃ acc, H4 D = some (.lst acc) ∧ acc.length < sizeLine ∧ Nx (upd H4 D (.lst (acc ++ [y]))) else Nx H3)
def LRL (K : PySem.W.Frag) (g : TG) (tt : TT) (te : TE) (vs : List Nat) (σ : St) (Q : VK) (x : V) (H1 : Hp) : Prop := ∃ a, x = .ref a ∧ (∃ xs, SqL K H1 a xs) ∧ ∀ D, H1 D = none → ∃ W : Nat → Nat → Hp → Prop, (∃ m, W 0 m (upd H1 D (.lst []))) ∧ ∀ i m H, W i m H →
  ((Itl K a).stop i H ∧ Q (.ref D) H) ∨ ((Itl K a).go i H ∧ ∃ Nx : Hp → Prop, (∀ H', Nx H' → ∃ m', m' < m ∧ W (i + 1) m' H') ∧ ∀ x H', (Itl K a).yld i H x H' → g x (wipe σ vs) H' fun σ2 H2 => wipe σ2 vs = wipe σ vs ∧ tt σ2 H2 fun b H3 =>
    if b = true then te σ2 H3 fun y H4 => ∃ acc, H4 D = some (.lst acc) ∧ acc.length < sizeLine ∧ Nx (upd H4 D (.lst (acc ++ [y]))) else Nx H3)
def LRT (K : PySem.W.Frag) (g : TG) (tt : TT) (te : TE) (vs : List Nat) (σ : St) (Q : VK) (x : V) (H1 : Hp) : Prop := ∃ a, x = .ref a ∧ (∃ xs, SqT K H1 a xs) ∧ ∀ D, H1 D = none → ∃ W : Nat → Nat → Hp → Prop, (∃ m, W 0 m (upd H1 D (.lst []))) ∧ ∀ i m H, W i m H →
  ((Itt K a).stop i H ∧ Q (.ref D) H) ∨ ((Itt K a).go i H ∧ ∃ Nx : Hp → Prop, (∀ H', Nx H' → ∃ m', m' < m ∧ W (i + 1) m' H') ∧ ∀ x H', (Itt K a).yld i H x H' → g x (wipe σ vs) H' fun σ2 H2 => wipe σ2 vs = wipe σ vs ∧ tt σ2 H2 fun b H3 =>
    if b = true then te σ2 H3 fun y H4 => ∃ acc, H4 D = some (.lst acc) ∧ acc.length < sizeLine ∧ Nx (upd H4 D (.lst (acc ++ [y]))) else Nx H3)
def LRE (K : PySem.W.Frag) (g : TG) (tt : TT) (te : TE) (vs : List Nat) (σ : St) (Q : VK) (us : List V) (H1 : Hp) : Prop := ∃ a xs, us = [.ref a] ∧ SqL K H1 a xs ∧ ∀ D, H1 D = none → ∃ W : Nat → Nat → Hp → Prop, (∃ m, W 0 m (upd H1 D (.lst []))) ∧ ∀ i m H, W i m H →
  ((Ite K a).stop i H ∧ Q (.ref D) H) ∨ ((Ite K a).go i H ∧ ∃ Nx : Hp → Prop, (∀ H', Nx H' → ∃ m', m' < m ∧ W (i + 1) m' H') ∧ ∀ x H', (Ite K a).yld i H x H' → g x (wipe σ vs) H' fun σ2 H2 => wipe σ2 vs = wipe σ vs ∧ tt σ2 H2 fun b H3 =>
    if b = true then te σ2 H3 fun y H4 => ∃ acc, H4 D = some (.lst acc) ∧ acc.length < sizeLine ∧ Nx (upd H4 D (.lst (acc ++ [y]))) else Nx H3)
/-- what stands between the turns: the list made so far at Dl, the frozen part F', the ledger L -/
def CW (F0 H0 F : Hp) (L : List (Addr × HO)) (P : Nat → List V → Hp → Prop) (Dl : Addr) (i : Nat) (H' : Hp) : Prop := ∃ F' acc, Zs F0 H0 F' H' ((Dl, .lst acc) :: L) ∧ Same F F' ∧ acc.length ≤ i ∧ P i acc F'
/-- what the element's value is wanted for -/
def CY (F0 H0 F : Hp) (L : List (Addr × HO)) (P : Nat → List V → Hp → Prop) (Dl : Addr) (i : Nat) (y : V) (H4 : Hp) : Prop := ∃ acc, H4 Dl = some (.lst acc) ∧ acc.length < sizeLine ∧ CW F0 H0 F L P Dl (i + 1) (upd H4 Dl (.lst (acc ++ [y])))
section
variable {K : PySem.W.Frag} {σ : St} {F0 H0 F H : Hp} {L : List (Addr × HO)} {Q : VK} {ta : TA} {te tl : TE} {tt : TT} {vs : List Nat} {j : Nat} {g : TG} {a : Addr} {xs : List V} {P : Nat → List V → Hp → Prop}
theorem r_lcR1 (h : ta σ H (LR1 j tt te vs σ Q)) : tLc (iRng1 ta) (gName j) tt te vs σ H Q := h
theorem r_lcL (h : tl σ H (LRL K g tt te vs σ Q)) : tLc (iList K tl) g tt te vs σ H Q := h
theorem r_lcT (h : tl σ H (LRT K g tt te vs σ Q)) : tLc (iTup K tl) g tt te vs σ H Q := h
theorem r_lcE (h : ta σ H (LRE K g tt te vs σ Q)) : tLc (iEnum K ta) g tt te vs σ H Q := h
theorem cy {Dl : Addr} {i : Nat} {y : V} {F4 H4 : Hp} {acc : List V} (Z : Zs F0 H0 F4 H4 ((Dl, .lst acc) :: L)) (s : Same F F4) (hl : acc.length ≤ i) (hi : i < 100000) (p : P (i + 1) (acc ++ [y]) F4) : CY F0 H0 F L P Dl i y H4 :=
  ⟨acc, Z.get (i := 0) rfl, sz_lt (by omega), F4, acc ++ [y], Z.setAt 0 rfl, s, by rw [List.length_append, List.length_singleton]; omega, p⟩
theorem cn {Dl : Addr} {i : Nat} {F4 H4 : Hp} {acc : List V} (Z : Zs F0 H0 F4 H4 ((Dl, .lst acc) :: L)) (s : Same F F4) (hl : acc.length ≤ i) (p : P (i + 1) acc F4) : CW F0 H0 F L P Dl (i + 1) H4 := ⟨F4, acc, Z, s, by omega, p⟩
theorem lc_rng {n : Int} (hn : 0 ≤ n ∧ n ≤ 100000) (Z : Zs F0 H0 F H L) (P : Nat → List V → Hp → Prop) (hw : ∀ x, wipe ((wipe σ vs).set j (some x)) vs = wipe σ vs) (h0 : P 0 [] F)
    (hs : ∀ (i : Nat) Dl F' H' acc, (i : Int) < n → Zs F0 H0 F' H' ((Dl, .lst acc) :: L) → Same F F' → acc.length ≤ i → P i acc F' →
      tt ((wipe σ vs).set j (some (.int (i : Int)))) H' fun b H3 => if b = true then te ((wipe σ vs).set j (some (.int (i : Int)))) H3 (CY F0 H0 F L P Dl i) else CW F0 H0 F L P Dl (i + 1) H3)
    (hd : ∀ Dl F' H' acc, Zs F0 H0 F' H' ((Dl, .lst acc) :: L) → Same F F' → P n.toNat acc F' → Q (.ref Dl) H') : LR1 j tt te vs σ Q [.int n] H :=
  ⟨n, rfl, by omega, by omega, fun Dl hD => lc_range (lo := 0) (n := n.toNat) (CW F0 H0 F L P Dl) ⟨F, [], Z.alloc hD, Same.refl _, Nat.le_refl _, h0⟩ (fun i H' hi p => by
    obtain ⟨F', acc, Z', s', hl, p'⟩ := p
    have e0 : (0 : Int) + (i : Int) = (i : Int) := Int.zero_add _
    show wipe ((wipe σ vs).set j (some (.int ((0 : Int) + (i : Int))))) vs = wipe σ vs ∧ tt ((wipe σ vs).set j (some (.int ((0 : Int) + (i : Int))))) H' fun b H3 => if b = true then te ((wipe σ vs).set j (some (.int ((0 : Int) + (i : Int))))) H3 (CY F0 H0 F L P Dl i) else CW F0 H0 F L P Dl (i + 1) H3
    rw [e0]
    exact ⟨hw _, hs i Dl F' H' acc (by omega) Z' s' hl p'⟩) (fun H' p => by
    obtain ⟨F', acc, Z', s', hl, p'⟩ := p
    exact hd Dl F' H' acc Z' s' p')⟩
theorem lc_lst (hx : SqL K H a xs) (Z : Zs F0 H0 F H L) (P : Nat → List V → Hp → Prop) (h0 : P 0 [] F) (hsrc : ∀ F' H', Zs F0 H0 F' H' L → Same F F' → SqL K H' a xs)
    (hs : ∀ (i : Nat) x Dl F' H' acc, xs[i]? = some x → Zs F0 H0 F' H' ((Dl, .lst acc) :: L) → Same F F' → acc.length ≤ i → P i acc F' →
      g x (wipe σ vs) H' fun σ2 H2 => wipe σ2 vs = wipe σ vs ∧ tt σ2 H2 fun b H3 => if b = true then te σ2 H3 (CY F0 H0 F L P Dl i) else CW F0 H0 F L P Dl (i + 1) H3)
    (hd : ∀ Dl F' H' acc, Zs F0 H0 F' H' ((Dl, .lst acc) :: L) → Same F F' → P xs.length acc F' → Q (.ref Dl) H') : LRL K g tt te vs σ Q (.ref a) H :=
  ⟨a, rfl, ⟨xs, hx⟩, fun Dl hD => lc_list (xs := xs) (CW F0 H0 F L P Dl) ⟨F, [], Z.alloc hD, Same.refl _, Nat.le_refl _, h0⟩ (fun i H' hi p => by
    obtain ⟨F', acc, Z', s', hl, p'⟩ := p
    exact hsrc F' H' Z'.drop s') (fun i x H' hi p => by
    obtain ⟨F', acc, Z', s', hl, p'⟩ := p
    exact hs i x Dl F' H' acc hi Z' s' hl p') (fun H' p => by
    obtain ⟨F', acc, Z', s', hl, p'⟩ := p
    exact hd Dl F' H' acc Z' s' p')⟩
theorem lc_tpl (hx : SqT K H a xs) (Z : Zs F0 H0 F H L) (P : Nat → List V → Hp → Prop) (h0 : P 0 [] F) (hsrc : ∀ F' H', Zs F0 H0 F' H' L → Same F F' → SqT K H' a xs)
    (hs : ∀ (i : Nat) x Dl F' H' acc, xs[i]? = some x → Zs F0 H0 F' H' ((Dl, .lst acc) :: L) → Same F F' → acc.length ≤ i → P i acc F' →
      g x (wipe σ vs) H' fun σ2 H2 => wipe σ2 vs = wipe σ vs ∧ tt σ2 H2 fun b H3 => if b = true then te σ2 H3 (CY F0 H0 F L P Dl i) else CW F0 H0 F L P Dl (i + 1) H3)
    (hd : ∀ Dl F' H' acc, Zs F0 H0 F' H' ((Dl, .lst acc) :: L) → Same F F' → P xs.length acc F' → Q (.ref Dl) H') : LRT K g tt te vs σ Q (.ref a) H :=
  ⟨a, rfl, ⟨xs, hx⟩, fun Dl hD => lc_tup (xs := xs) (CW F0 H0 F L P Dl) ⟨F, [], Z.alloc hD, Same.refl _, Nat.le_refl _, h0⟩ (fun i H' hi p => by
    obtain ⟨F', acc, Z', s', hl, p'⟩ := p
    exact hsrc F' H' Z'.drop s') (fun i x H' hi p => by
    obtain ⟨F', acc, Z', s', hl, p'⟩ := p
    exact hs i x Dl F' H' acc hi Z' s' hl p') (fun H' p => by
    obtain ⟨F', acc, Z', s', hl, p'⟩ := p
    exact hd Dl F' H' acc Z' s' p')⟩
theorem lc_enm (hx : SqL K H a xs) (Z : Zs F0 H0 F H L) (P : Nat → List V → Hp → Prop) (h0 : P 0 [] F) (hsrc : ∀ F' H', Zs F0 H0 F' H' L → Same F F' → SqL K H' a xs)
    (hs : ∀ (i : Nat) x T Dl F' H' acc, xs[i]? = some x → Zs F0 H0 F' H' ((T, .tup [.int (i : Nat), x]) :: (Dl, .lst acc) :: L) → Same F F' → acc.length ≤ i → P i acc F' →
      g (.ref T) (wipe σ vs) H' fun σ2 H2 => wipe σ2 vs = wipe σ vs ∧ tt σ2 H2 fun b H3 => if b = true then te σ2 H3 (CY F0 H0 F L P Dl i) else CW F0 H0 F L P Dl (i + 1) H3)
    (hd : ∀ Dl F' H' acc, Zs F0 H0 F' H' ((Dl, .lst acc) :: L) → Same F F' → P xs.length acc F' → Q (.ref Dl) H') : LRE K g tt te vs σ Q [.ref a] H := by
  refine ⟨a, xs, rfl, hx, fun Dl hD => ⟨fun i m H => m = xs.length - i ∧ i ≤ xs.length ∧ CW F0 H0 F L P Dl i H, ⟨xs.length, rfl, Nat.zero_le _, F, [], Z.alloc hD, Same.refl _, Nat.le_refl _, h0⟩, ?_⟩⟩
  rintro i m H' ⟨rfl, hi, p⟩
  obtain ⟨F', acc, Z', s', hl, p'⟩ := p
  have q := hsrc F' H' Z'.drop s'
  by_cases hlt : i < xs.length
  · refine .inr ⟨⟨xs, xs[i], q, by simp [hlt]⟩, CW F0 H0 F L P Dl (i + 1), fun H'' p'' => ⟨xs.length - (i + 1), by omega, rfl, hlt, p''⟩, fun x H'' y => ?_⟩
    obtain ⟨T, x', rfl, hT, rfl, hx'⟩ := y
    exact hs i x' T Dl F' _ acc (hx' xs q) (Z'.alloc hT) s' hl p'
  · have e : i = xs.length := by omega
    subst e
    exact .inl ⟨⟨xs, q, Nat.le_refl _⟩, hd Dl F' H' acc Z' s' p'⟩
end
end SB
/-! Promises by the number of arguments; more readings; a result that is data. -/
namespace SB
open PySem L2
def sp1 (f : V → Hp → VK → XK → Prop) : Sp := fun vs H Q E => ∃ a, vs = [a] ∧ f a H Q E
def sp2 (f : V → V → Hp → VK → XK → Prop) : Sp := fun vs H Q E => ∃ a b, vs = [a, b] ∧ f a b H Q E
def sp3 (f : V → V → V → Hp → VK → XK → Prop) : Sp := fun vs H Q E => ∃ a b c, vs = [a, b, c] ∧ f a b c H Q E
def sp4 (f : V → V → V → V → Hp → VK → XK → Prop) : Sp := fun vs H Q E => ∃ a b c d, vs = [a, b, c, d] ∧ f a b c d H Q E
def sp5 (f : V → V → V → V → V → Hp → VK → XK → Prop) : Sp := fun vs H Q E => ∃ a b c d e, vs = [a, b, c, d, e] ∧ f a b c d e H Q E
def sp6 (f : V → V → V → V → V → V → Hp → VK → XK → Prop) : Sp := fun vs H Q E => ∃ a b c d e g, vs = [a, b, c, d, e, g] ∧ f a b c d e g H Q E
section
variable {K : PySem.W.Frag} {σ : St} {H : Hp} {Q : VK} {D : Ends} {ta tb tc : TE} {v x y a b c d : V} {E : XK}
theorem r_sp1 {f : V → Hp → VK → XK → Prop} (h : f a H Q E) : sp1 f ([a] ++ []) H Q E := ⟨a, rfl, h⟩
theorem r_sp2 {f : V → V → Hp → VK → XK → Prop} (h : f a b H Q E) : sp2 f ([a, b] ++ []) H Q E := ⟨a, b, rfl, h⟩
theorem r_sp3 {f : V → V → V → Hp → VK → XK → Prop} (h : f a b c H Q E) : sp3 f ([a, b, c] ++ []) H Q E := ⟨a, b, c, rfl, h⟩
theorem r_sp4 {f : V → V → V → V → Hp → VK → XK → Prop} (h : f a b c d H Q E) : sp4 f ([a, b, c, d] ++ []) H Q E := ⟨a, b, c, d, rfl, h⟩
theorem r_sp5 {f : V → V → V → V → V → Hp → VK → XK → Prop} {e : V} (h : f a b c d e H Q E) : sp5 f ([a, b, c, d, e] ++ []) H Q E := ⟨a, b, c, d, e, rfl, h⟩
theorem r_sp6 {f : V → V → V → V → V → V → Hp → VK → XK → Prop} {e g : V} (h : f a b c d e g H Q E) : sp6 f ([a, b, c, d, e, g] ++ []) H Q E := ⟨a, b, c, d, e, g, rfl, h⟩
theorem r_sp1m {f : V → Hp → VK → XK → Prop} (h : f a H Q E) : sp1 f (a :: ([] ++ [])) H Q E := ⟨a, rfl, h⟩
theorem r_sp2m {f : V → V → Hp → VK → XK → Prop} (h : f a b H Q E) : sp2 f (a :: ([b] ++ [])) H Q E := ⟨a, b, rfl, h⟩
theorem r_sp3m {f : V → V → V → Hp → VK → XK → Prop} (h : f a b c H Q E) : sp3 f (a :: ([b, c] ++ [])) H Q E := ⟨a, b, c, rfl, h⟩
theorem r_sp4m {f : V → V → V → V → Hp → VK → XK → Prop} (h : f a b c d H Q E) : sp4 f (a :: ([b, c, d] ++ [])) H Q E := ⟨a, b, c, d, rfl, h⟩
theorem r_cut {t u : TS} (Mid : St → Hp → Prop) (h : t { D with nx := Mid } σ H) (k : ∀ σ' H', Mid σ' H' → u D σ' H') : Evl.tCut t u D σ H := ⟨Mid, h, k⟩
theorem r_chain {r r' : R2} (h : ta σ H fun x H1 => tb σ H1 fun y H2 => r x y H2 fun z H3 => ∃ k, z = .bl k ∧ (if k = true then tc σ H3 fun w' H4 => r' y w' H4 Q else Q (.bl false) H3)) : tChain r r' ta tb tc σ H Q := h
theorem r_sl {r : V → Option Int → Option Int → Hp → VK → Prop} {tl th : TO} (h : ta σ H fun x H1 => tl σ H1 fun l H2 => th σ H2 fun u H3 => r x l u H3 Q) : tSl r ta tl th σ H Q := h
theorem r_nopart {Q : Option Int → Hp → Prop} (h : Q none H) : tNoPart σ H Q := h
theorem r_part {Q : Option Int → Hp → Prop} (h : ta σ H fun x H1 => ∃ i, x = .int i ∧ Q (some i) H1) : tPart ta σ H Q := h
theorem r_some {n : Int} {P : Int → Prop} (k : P n) : ∃ i, V.int n = V.int i ∧ P i := ⟨n, rfl, k⟩
theorem r_gsub {t : TSet} {Q : St → Hp → Prop} (h : ta σ H fun o H1 => tb σ H1 fun i H2 => t o i v H2 fun H3 => Q σ H3) : gSub ta tb t v σ H Q := h
end
/-- a def's value that is data: it lies in a frozen part F' that begins as F -/
def Ret (F H : Hp) (Q : VK) (d : PyData) : Prop := ∀ F' H' v, Zs F H F' H' [] → Td F' v d → Q v H'

/-! ### data compared -/
theorem eqv_refl {d : PyData} (h : SeqAt.shaped d = true) : PyData.eqv d d = true := SeqAt.eqv_refl d (SeqAt.canLay_of_shaped h)
theorem shaped_of {d : PyData} (h1 : d.canLay0 = true) (h2 : d.depth ≤ 64) : SeqAt.shaped d = true := by
  show (d.canLay0 && decide (d.depth ≤ 64)) = true
  rw [h1, decide_eq_true h2] <;> rfl
theorem lay_map {α : Type} {f : α → PyData} (h : ∀ a, (f a).canLay0 = true) : ∀ l : List α, PyData.canLayAll0 (l.map f) = true
  | [] => rfl
  | a :: l => by
    show ((f a).canLay0 && PyData.canLayAll0 (l.map f)) = true
    rw [h a, lay_map h l] <;> rfl
theorem dep_map {α : Type} {f : α → PyData} {n : Nat} (h : ∀ a, (f a).depth ≤ n) : ∀ l : List α, PyData.depthAll (l.map f) ≤ n
  | [] => Nat.zero_le _
  | a :: l => by
    show max (f a).depth (PyData.depthAll (l.map f)) ≤ n
    have h1 := h a
    have h2 := dep_map h l
    omega
theorem shaped_map {α : Type} {f : α → PyData} {n : Nat} (hn : n ≤ 60) (h : ∀ a, (f a).canLay0 = true) (h2 : ∀ a, (f a).depth ≤ n) (l : List α) : SeqAt.shaped (.list (l.map f)) = true :=
  shaped_of (lay_map h l) (by have := dep_map h2 l; show PyData.depthAll (l.map f) + 1 ≤ 64; omega)
theorem shaped_ints (l : List Int) : SeqAt.shaped (.list (l.map PyData.int)) = true := shaped_map (n := 0) (by decide) (fun _ => rfl) (fun _ => Nat.le_refl _) l
theorem eqvAll_ints : ∀ l m : List Int, PyData.eqvAll (l.map PyData.int) (m.map PyData.int) = decide (l = m)
  | [], [] => rfl
  | [], _ :: _ => rfl
  | _ :: _, [] => rfl
  | a :: l, b :: m => by
    show ((a == b) && PyData.eqvAll (l.map PyData.int) (m.map PyData.int)) = _
    rw [eqvAll_ints l m]
    by_cases h : a = b
    · subst h
      by_cases h2 : l = m
      · subst h2; simp
      · rw [decide_eq_false h2, decide_eq_false (fun q => h2 (List.cons.inj q).2), Bool.and_false]
    · rw [decide_eq_false (fun q => h (List.cons.inj q).1), beq_eq_false_iff_ne.mpr h, Bool.false_and]
theorem eqv_ints (l m : List Int) : PyData.eqv (.list (l.map PyData.int)) (.list (m.map PyData.int)) = decide (l = m) := eqvAll_ints l m
theorem inV_int {x : Int} : ∀ l : List Int, inV (.int x) (l.map V.int) = decide (x ∈ l)
  | [] => rfl
  | a :: l => by
    have ih := inV_int (x := x) l
    unfold inV at ih ⊢
    rw [List.map_cons, List.any_cons, ih]
    show ((a == x) || decide (x ∈ l)) = _
    by_cases h : a = x
    · subst h; simp
    · rw [beq_eq_false_iff_ne.mpr h, Bool.false_or]
      by_cases h2 : x ∈ l
      · rw [decide_eq_true h2, decide_eq_true (List.mem_cons_of_mem _ h2)]
      · rw [decide_eq_false h2, decide_eq_false (fun q => by rcases List.mem_cons.mp q with e | e; exact h e.symm; exact h2 e)]
theorem flat_ints (l : List Int) : (l.map V.int).all flatV = true := by
  rw [List.all_eq_true]
  intro v hv
  obtain ⟨a, _, rfl⟩ := List.mem_map.mp hv
  rfl
theorem get_ints {l : List Int} {i : Nat} (h : i < l.length) : (l.map V.int)[i]? = some (.int l[i]) := by
  rw [List.getElem?_map, List.getElem?_eq_getElem h] <;> rfl
theorem of_get_ints {l : List Int} {i : Nat} {x : V} (h : (l.map V.int)[i]? = some x) : ∃ n, l[i]? = some n ∧ x = .int n := by
  rw [List.getElem?_map] at h
  cases e : l[i]? with
  | none => rw [e] at h; cases h
  | some n => rw [e] at h; exact ⟨n, rfl, (Option.some.inj h).symm⟩
theorem take_snoc {α : Type} {l : List α} {i : Nat} {a : α} (h : l[i]? = some a) : l.take (i + 1) = l.take i ++ [a] := by
  rw [List.take_add_one, h] <;> rfl

/-! ### addresses that the top has laid -/
structure Ad where
  words : Addr
  cHand : Addr
  cNet : Addr
  cBellError : Addr
  cBadWaits : Addr
  cNoHand : Addr
  cNoLetter : Addr

/-! ### the script and its cells -/
def cellAt (ns : List Int) (k : Int) : Int := ns.getD k.toNat 0
theorem cellAt_lt {ns : List Int} {k : Int} (h0 : 0 ≤ k) (h : k < ns.length) : (ns.map V.int)[k.toNat]? = some (.int (cellAt ns k)) := by
  have hl : k.toNat < ns.length := by omega
  rw [get_ints hl]
  unfold cellAt
  rw [List.getD_eq_getElem?_getD, List.getElem?_eq_getElem hl] <;> rfl
theorem cellAt_ge {ns : List Int} {k : Int} (h : ¬ k < ns.length) : cellAt ns k = 0 := by
  unfold cellAt
  rw [List.getD_eq_getElem?_getD, List.getElem?_eq_none (by omega)] <;> rfl

/-! ### waits -/
/-- a wait: none, or whether it is for any, and whom it is for -/
abbrev Wt := Option (Bool × List Int)
def wd (b : Bool) : Str := if b then "any" else "all"
theorem wd_t : wd true = "any" := rfl
theorem wd_f : wd false = "all" := rfl
theorem wd_any (b : Bool) : decide (wd b = ("any" : Str)) = b := by cases b <;> decide +kernel
theorem wd_all (b : Bool) : decide (wd b = ("all" : Str)) = !b := by cases b <;> decide +kernel
def dW : Wt → PyData
  | none => .none
  | some (b, os) => .tuple [.str (wd b), .list (os.map PyData.int)]
def dWs (ws : List Wt) : PyData := .list (ws.map dW)
def okW (n : Nat) : Wt → Prop
  | none => True
  | some (_, os) => os ≠ [] ∧ os.Nodup ∧ ∀ o ∈ os, 0 ≤ o ∧ o < n
structure OkWs (ws : List Wt) : Prop where
  pos : 1 ≤ ws.length
  most : ws.length ≤ 40
  all : ∀ w ∈ ws, okW ws.length w
theorem dW_lay : ∀ w : Wt, (dW w).canLay0 = true
  | none => rfl
  | some (b, os) => by
    show (PyData.canLay0 (.str (wd b)) && (PyData.canLayAll0 (os.map PyData.int) && true)) = true
    rw [lay_map (fun _ => rfl) os]
    cases b <;> decide +kernel
theorem dW_dep : ∀ w : Wt, (dW w).depth ≤ 2
  | none => Nat.zero_le _
  | some (b, os) => by
    have h : PyData.depthAll (os.map PyData.int) ≤ 0 := dep_map (f := PyData.int) (n := 0) (fun _ => Nat.le_refl 0) os
    show max 0 (max (PyData.depthAll (os.map PyData.int) + 1) 0) + 1 ≤ 2
    omega
theorem dWs_shaped (ws : List Wt) : SeqAt.shaped (dWs ws) = true := shaped_map (n := 2) (by decide) dW_lay dW_dep ws
section
variable {F : Hp} {v : V} {ws : List Wt} {b : Bool} {os : List Int}
theorem Td.inv_ws (h : Td F v (dWs ws)) : ∃ a xs, v = .ref a ∧ F a = some (.lst xs) ∧ TdA F xs (ws.map dW) ∧ xs.length = ws.length := by
  obtain ⟨a, xs, rfl, h1, h2⟩ := Td.inv_lst h
  exact ⟨a, xs, rfl, h1, h2, by rw [h2.len, List.length_map]⟩
theorem Td.inv_w (h : Td F v (dW (some (b, os)))) : ∃ a l, v = .ref a ∧ F a = some (.tup [.str (wd b), .ref l]) ∧ F l = some (.lst (os.map V.int)) := by
  obtain ⟨a, xs, rfl, h1, h2⟩ := Td.inv_tup h
  cases h2 with
  | cons k1 k2 =>
    cases k2 with
    | cons k3 k4 =>
      cases k4
      cases k1
      obtain ⟨l, rfl, k5⟩ := Td.inv_ints k3
      exact ⟨a, l, rfl, h1, k5⟩
theorem Td.mk_w {a l : Addr} (h1 : F a = some (.tup [.str (wd b), .ref l])) (h2 : F l = some (.lst (os.map V.int))) : Td F (.ref a) (dW (some (b, os))) := .tup h1 (.cons (.str _) (.cons (.lst h2 (TdA.ints os)) .nil))
theorem TdA.ws_at {xs : List V} {i : Nat} {x : V} (h : TdA F xs (ws.map dW)) (hi : xs[i]? = some x) : ∃ w, ws[i]? = some w ∧ Td F x (dW w) := by
  obtain ⟨d, h1, h2⟩ := TdA.at h hi
  rw [List.getElem?_map] at h1
  cases e : ws[i]? with
  | none => rw [e] at h1; cases h1
  | some w => rw [e] at h1; cases h1; exact ⟨w, rfl, h2⟩
theorem TdA.ws_get {xs : List V} {i : Nat} {w : Wt} (h : TdA F xs (ws.map dW)) (hi : ws[i]? = some w) : ∃ x, xs[i]? = some x ∧ Td F x (dW w) :=
  TdA.get h (by rw [List.getElem?_map, hi] <;> rfl)
theorem dW_ne_none : dW (some (b, os)) ≠ .none := fun q => nomatch q
theorem Td.w_non {w : Wt} (h : Td F .non (dW w)) : w = none := by
  cases w with
  | none => rfl
  | some p => obtain ⟨b, os⟩ := p; cases h
theorem Td.w_ref {w : Wt} {a : Addr} (h : Td F (.ref a) (dW w)) : ∃ b os, w = some (b, os) := by
  cases w with
  | none => cases h
  | some p => exact ⟨p.1, p.2, rfl⟩
end
end SB
/-! Slices, tuple targets, subdata. -/
namespace SB
open PySem L2
theorem sIx_nat (n d i : Nat) : HT.sIx n d (some (i : Int)) = min i n := by
  unfold HT.sIx
  simp only []
  split <;> omega
theorem cut_take (xs : List V) (i : Nat) : cutV xs none (some (i : Int)) = xs.take i := by
  unfold cutV
  rw [sIx_nat]
  show (xs.drop 0).take (min i xs.length - 0) = _
  rw [List.drop_zero, Nat.sub_zero]
  by_cases h : i ≤ xs.length
  · rw [Nat.min_eq_left h]
  · rw [Nat.min_eq_right (by omega), List.take_of_length_le (Nat.le_refl _), List.take_of_length_le (by omega)]
theorem cut_drop (xs : List V) (i : Nat) : cutV xs (some (i : Int)) none = xs.drop i := by
  unfold cutV
  rw [sIx_nat]
  show (xs.drop (min i xs.length)).take (xs.length - min i xs.length) = _
  rw [List.take_of_length_le (by rw [List.length_drop]; omega)]
  by_cases h : i ≤ xs.length
  · rw [Nat.min_eq_left h]
  · rw [Nat.min_eq_right (by omega), List.drop_eq_nil_of_le (Nat.le_refl _), List.drop_eq_nil_of_le (by omega)]
theorem cut_range (xs : List V) (i j : Nat) : cutV xs (some (i : Int)) (some (j : Int)) = (xs.drop i).take (j - i) := by
  unfold cutV
  rw [sIx_nat, sIx_nat]
  by_cases h : i ≤ xs.length
  · rw [Nat.min_eq_left h]
    by_cases h2 : j ≤ xs.length
    · rw [Nat.min_eq_left h2]
    · rw [Nat.min_eq_right (by omega), List.take_of_length_le (by rw [List.length_drop]; omega), List.take_of_length_le (by rw [List.length_drop]; omega)]
  · rw [Nat.min_eq_right (Nat.le_of_not_le h), List.drop_eq_nil_of_le (Nat.le_refl _), List.drop_eq_nil_of_le (by omega), List.take_nil, List.take_nil]
section
variable {K : PySem.W.Frag} {σ : St} {H : Hp} {i j k : Nat} {v w u : V} {Q : St → Hp → Prop} {p : Addr}
theorem r_gt2 (h : SqT K H p [v, w]) (q : Q ((σ.set i (some v)).set j (some w)) H) : gTup K 2 (gCons (gName i) (gCons (gName j) gNil)) (.ref p) σ H Q :=
  ⟨p, _, rfl, h, rfl, _, _, rfl, _, _, rfl, rfl, q⟩
theorem r_gt3 (h : SqT K H p [v, w, u]) (q : Q (((σ.set i (some v)).set j (some w)).set k (some u)) H) : gTup K 3 (gCons (gName i) (gCons (gName j) (gCons (gName k) gNil))) (.ref p) σ H Q :=
  ⟨p, _, rfl, h, rfl, _, _, rfl, _, _, rfl, _, _, rfl, rfl, q⟩
end
theorem shaped_in {d : PyData} : ∀ {ds : List PyData}, PyData.canLayAll0 ds = true → d ∈ ds → d.canLay0 = true ∧ d.depth ≤ PyData.depthAll ds
  | x :: xs, h, m => by
    have h' : (x.canLay0 && PyData.canLayAll0 xs) = true := h
    rw [Bool.and_eq_true] at h'
    have e : PyData.depthAll (x :: xs) = max x.depth (PyData.depthAll xs) := rfl
    rcases List.mem_cons.mp m with rfl | m
    · exact ⟨h'.1, by omega⟩
    · obtain ⟨a, b⟩ := shaped_in h'.2 m
      exact ⟨a, by omega⟩
theorem shaped_l {d : PyData} {ds : List PyData} (h : SeqAt.shaped (.list ds) = true) (m : d ∈ ds) : SeqAt.shaped d = true := by
  obtain ⟨a, b⟩ := shaped_in (show PyData.canLayAll0 ds = true from SeqAt.canLay_of_shaped h) m
  have c : PyData.depthAll ds + 1 ≤ 64 := SeqAt.depth_of_shaped h
  exact shaped_of a (by omega)
theorem shaped_t {d : PyData} {ds : List PyData} (h : SeqAt.shaped (.tuple ds) = true) (m : d ∈ ds) : SeqAt.shaped d = true := by
  obtain ⟨a, b⟩ := shaped_in (show PyData.canLayAll0 ds = true from SeqAt.canLay_of_shaped h) m
  have c : PyData.depthAll ds + 1 ≤ 64 := SeqAt.depth_of_shaped h
  exact shaped_of a (by omega)
theorem dec_non {v : V} : decide (v = .non) = (match v with | .non => true | _ => false) := by
  cases v <;> first | rfl | exact decide_eq_false (fun q => nomatch q)
theorem Td.non_iff {F : Hp} {v : V} {d : PyData} (h : Td F v d) : v = .non ↔ d = .none := by
  cases h <;> constructor <;> intro q <;> first | rfl | exact (nomatch q)
theorem eqv_nil (ds : List PyData) : PyData.eqv (.list ds) (.list []) = ds.isEmpty := by
  cases ds <;> rfl
end SB
namespace SB
open PySem L2
theorem shaped_map1 (w : Wt) : SeqAt.shaped (dW w) = true := shaped_of (dW_lay w) (by have := dW_dep w; omega)
theorem nodup_nat : ∀ (n : Nat) (l : List Nat), l.Nodup → (∀ x ∈ l, x < n) → l.length ≤ n
  | 0, l, _, h => by
    cases l with
    | nil => exact Nat.le_refl _
    | cons a l => exact absurd (h a List.mem_cons_self) (Nat.not_lt_zero _)
  | n + 1, l, nd, h => by
    have nd2 : (l.erase n).Nodup := nd.erase n
    have h2 : ∀ x ∈ l.erase n, x < n := fun x hx => by
      have := (nd.mem_erase_iff).mp hx
      have := h x this.2
      omega
    have ih := nodup_nat n (l.erase n) nd2 h2
    by_cases m : n ∈ l
    · have := List.length_erase_of_mem m
      omega
    · rw [List.erase_of_not_mem m] at ih
      omega
theorem nodup_bound {n : Nat} {os : List Int} (nd : os.Nodup) (h : ∀ o ∈ os, 0 ≤ o ∧ o < (n : Int)) : os.length ≤ n := by
  have h2 : (os.map Int.toNat).Nodup := by
    rw [List.nodup_iff_pairwise_ne, List.pairwise_map]
    refine List.Pairwise.imp_of_mem (fun {a b} ha hb hne => ?_) (List.nodup_iff_pairwise_ne.mp nd)
    have := h a ha
    have := h b hb
    omega
  have h4 := nodup_nat n _ h2 (fun x hx => by
    obtain ⟨o, ho, rfl⟩ := List.mem_map.mp hx
    have := h o ho
    omega)
  rw [List.length_map] at h4
  exact h4
end SB
/-! A result that is a list of one's own; lists of truths. -/
namespace SB
open PySem L2
/-- a def's value is a new list that nobody else has -/
def RetL (H : Hp) (Q : VK) (xs : List V) : Prop := ∀ H' p, Zs H H H H' [(p, .lst xs)] → Q (.ref p) H'
section
variable {F0 H0 F H F' H' : Hp} {L L2 : List (Addr × HO)}
theorem Zs.callL (Z : Zs F0 H0 F H L) (W : Zs H H H H' L2) : Zs F0 H0 F H' (L2 ++ L) where
  ff := Z.ff
  hh := Z.hh.trans W.hh
  fh := Z.fh.trans W.hh
  sep := Z.sep
  led := fun q hq => by
    rcases List.mem_append.mp hq with hq | hq
    · obtain ⟨a, b, c⟩ := W.led q hq
      exact ⟨a, same_none Z.fh c, same_none Z.hh c⟩
    · obtain ⟨a, b, c⟩ := Z.led q hq
      exact ⟨W.hh _ _ a, b, c⟩
  nd := by
    rw [List.map_append, List.nodup_append]
    refine ⟨W.nd, Z.nd, fun a ha b hb e => ?_⟩
    subst e
    obtain ⟨q, hq, rfl⟩ := List.mem_map.mp ha
    obtain ⟨r, hr, e⟩ := List.mem_map.mp hb
    have h1 := (W.led q hq).2.2
    have h2 := (Z.led r hr).1
    have e' : r.1 = q.1 := e
    rw [e', h1] at h2
    cases h2
/-- a result's new cells over a frozen part that begins as H -/
theorem Zs.up (Z : Zs F0 H0 F H L) (h : Same F0 H0) : Zs H0 H0 H0 H L where
  ff := Same.refl _
  hh := Z.hh
  fh := Z.hh
  sep := fun _ a _ => a
  led := fun q hq => by
    obtain ⟨a, b, c⟩ := Z.led q hq
    exact ⟨a, c, c⟩
  nd := Z.nd
end
theorem flat_bools (l : List Bool) : (l.map V.bl).all flatV = true := by
  rw [List.all_eq_true]
  intro v hv
  obtain ⟨a, _, rfl⟩ := List.mem_map.mp hv
  rfl
theorem get_bools {l : List Bool} {i : Nat} (h : i < l.length) : (l.map V.bl)[i]? = some (.bl l[i]) := by
  rw [List.getElem?_map, List.getElem?_eq_getElem h] <;> rfl
theorem get_boolD {l : List Bool} {i : Nat} (h : i < l.length) : (l.map V.bl)[i]? = some (.bl (l.getD i false)) := by
  rw [get_bools h, List.getD_eq_getElem?_getD, List.getElem?_eq_getElem h] <;> rfl
theorem Td.inv_bools {F : Hp} {v : V} {l : List Bool} (h : Td F v (.list (l.map PyData.bool))) : ∃ a, v = .ref a ∧ F a = some (.lst (l.map V.bl)) := by
  obtain ⟨a, xs, rfl, h1, h2⟩ := h.inv_lst
  rw [h2.of_bools] at h1
  exact ⟨a, rfl, h1⟩
theorem Td.bools_lst {F : Hp} {a : Addr} {l : List Bool} (h : F a = some (.lst (l.map V.bl))) : Td F (.ref a) (.list (l.map PyData.bool)) := .lst h (TdA.bools l)
theorem shaped_bools (l : List Bool) : SeqAt.shaped (.list (l.map PyData.bool)) = true := shaped_map (n := 0) (by decide) (fun _ => rfl) (fun _ => Nat.le_refl _) l
theorem rep_flat {α : Type} (a : α) : ∀ n : Nat, List.flatten (List.replicate n [a]) = List.replicate n a
  | 0 => rfl
  | n + 1 => by rw [List.replicate_succ, List.flatten_cons, rep_flat a n, List.replicate_succ] <;> rfl
end SB
namespace SB
open PySem L2
/-- a smaller frozen part -/
theorem Zs.weak {F0 H0 F F1 H : Hp} {L : List (Addr × HO)} (Z : Zs F0 H0 F H L) (h0 : Same F0 F1) (h : Same F1 F) : Zs F0 H0 F1 H L where
  ff := h0
  hh := Z.hh
  fh := h.trans Z.fh
  sep := fun a e n => same_none h (Z.sep a e n)
  led := fun q hq => by
    obtain ⟨a, b, c⟩ := Z.led q hq
    exact ⟨a, same_none h b, c⟩
  nd := Z.nd
end SB
namespace SB
open PySem L2
/-- what every law promises -/
def pr_law (K : PySem.W.Frag) : V → Hp → VK → XK → Prop := fun a H Q _ => ∃ (p : Addr) (ns : List Int), a = .ref p ∧ SqL K H p (ns.map V.int) ∧ ns.length ≤ 63 ∧ ∀ H', Q (.bl true) H'
abbrev spL (K : PySem.W.Frag) : Sp := sp1 (pr_law K)
abbrev sp_law (K : PySem.W.Frag) (A : Ad) : Sp := spL K
end SB
namespace SB
open PySem L2
/-- [x for x in xs] -/
theorem lc_copy {K : PySem.W.Frag} {σ : St} {F0 H0 F H : Hp} {L : List (Addr × HO)} {Q : VK} {j : Nat} {a : Addr} {xs : List V} (hx : SqL K H a xs) (hz : xs.length ≤ 50000) (Z : Zs F0 H0 F H L)
    (hsrc : ∀ F' H', Zs F0 H0 F' H' L → Same F F' → SqL K H' a xs) (hw : ∀ x, wipe ((wipe σ [j]).set j (some x)) [j] = wipe σ [j]) (hj : ∀ x, ((wipe σ [j]).set j (some x))[j]? = some (some x))
    (k : ∀ Dl H', Zs F0 H0 F H' ((Dl, .lst xs) :: L) → Q (.ref Dl) H') : LRL K (gName j) tYes (tVar j) [j] σ Q (.ref a) H := by
  refine lc_lst hx Z (fun i acc F' => acc = xs.take i) rfl hsrc ?_ ?_
  · intro i x Dl F' H' acc hi Z' s hacc e
    subst e
    refine ⟨hw x, ?_⟩
    refine r_yes (ifT rfl ?_)
    refine ⟨x, hj x, ?_⟩
    have := (List.getElem?_eq_some_iff.mp hi).1
    exact cy Z' s hacc (by omega) (take_snoc hi).symm
  · intro Dl F' H' acc Z' s e
    rw [List.take_length] at e
    subst e
    exact k Dl H' (Z'.weak Z.ff s)
end SB
namespace SB
open PySem L2
def pr_cell_at (K : PySem.W.Frag) (A : Ad) : V → V → Hp → VK → XK → Prop := fun a b H Q _ => ∃ p ns k, a = .ref p ∧ b = .int k ∧ SqL K H p (ns.map V.int) ∧ 0 ≤ k ∧ Q (.int (cellAt ns k)) H
abbrev sp_cell_at (K : PySem.W.Frag) (A : Ad) : Sp := sp2 (pr_cell_at K A)
def t_cell_at (K : PySem.W.Frag) (A : Ad) : TS :=
    (tSeq (tIfS (tTest (tOp qLt (tVar 1) (tCB (qLen K) (tCons (tVar 0) tNil))))
    (tRet (tOp (rIxL K) (tVar 0) (tVar 1)))
    tNext)
    (tRet (tC (.int 0))))
theorem rd_cell_at {K : PySem.W.Frag} {A : Ad} {a b : V} {H : Hp} {Q : VK} {E : XK} (h : pr_cell_at K A a b H Q E) : t_cell_at K A { nx := fun _ H' => Q .non H', rt := Q } [some a, some b] H := by
  obtain ⟨p, ns, k, rfl, rfl, hs, h0, q⟩ := h
  unfold t_cell_at
  walk_at "rd"
  refine r_lenL hs ?_
  walk_at "rd"
  refine ifd (fun h => ?_) (fun h => ?_)
  · walk_at "rd"
    refine r_ixL hs (at_i h0 (cellAt_lt h0 (by simpa using h))) ?_
    exact q
  · walk_at "rd"
    rw [← cellAt_ge (ns := ns) (k := k) (by simpa using h)]
    exact q
end SB
namespace SB
open PySem L2
/-! ### whom a hand of the law waits for -/
def moreBy (c d n m o0 k : Int) : Int := (o0 + 1 + n / (c + d * k) % m) % m
def othersBy (c d n m o0 : Int) : Nat → List Int
  | 0 => [o0]
  | i + 1 => if moreBy c d n m o0 (i : Nat) ∈ othersBy c d n m o0 i then othersBy c d n m o0 i else othersBy c d n m o0 i ++ [moreBy c d n m o0 (i : Nat)]
section
variable {c d n m o0 : Int}
theorem oth_0 : ∀ i : Nat, (othersBy c d n m o0 i)[0]? = some o0
  | 0 => rfl
  | i + 1 => by
    have ih := oth_0 i
    unfold othersBy
    split
    · exact ih
    · rw [List.getElem?_append_left (List.getElem?_eq_some_iff.mp ih).1]; exact ih
theorem oth_len : ∀ i : Nat, (othersBy c d n m o0 i).length ≤ i + 1
  | 0 => Nat.le_refl _
  | i + 1 => by
    have ih := oth_len i
    unfold othersBy
    split
    · omega
    · rw [List.length_append, List.length_singleton]; omega
theorem oth_ne (i : Nat) : othersBy c d n m o0 i ≠ [] := fun q => by
  have h := oth_0 (c := c) (d := d) (n := n) (m := m) (o0 := o0) i
  rw [q] at h
  cases h
theorem oth_nd : ∀ i : Nat, (othersBy c d n m o0 i).Nodup
  | 0 => by unfold othersBy; simp
  | i + 1 => by
    have ih := oth_nd i
    unfold othersBy
    split
    · exact ih
    · rename_i h
      rw [List.nodup_append]
      exact ⟨ih, by simp, fun a ha b hb => by
        rw [List.mem_singleton] at hb
        subst hb
        exact fun q => h (q ▸ ha)⟩
theorem more_in (hm : 0 < m) (k : Int) : 0 ≤ moreBy c d n m o0 k ∧ moreBy c d n m o0 k < m := ⟨Int.emod_nonneg _ (by omega), Int.emod_lt_of_pos _ hm⟩
theorem oth_in (hm : 0 < m) (h0 : 0 ≤ o0 ∧ o0 < m) : ∀ (i : Nat) (o : Int), o ∈ othersBy c d n m o0 i → 0 ≤ o ∧ o < m
  | 0, o, h => by
    unfold othersBy at h
    rw [List.mem_singleton] at h
    subst h
    exact h0
  | i + 1, o, h => by
    unfold othersBy at h
    split at h
    · exact oth_in hm h0 i o h
    · rcases List.mem_append.mp h with h | h
      · exact oth_in hm h0 i o h
      · rw [List.mem_singleton] at h
        subst h
        exact more_in hm _
theorem oth_ok (b : Bool) {z : Nat} (hz : m = (z : Int)) (hm : 0 < m) (h0 : 0 ≤ o0 ∧ o0 < m) (i : Nat) : okW z (some (b, othersBy c d n m o0 i)) :=
  ⟨oth_ne i, oth_nd i, fun o ho => by rw [← hz]; exact oth_in hm h0 i o ho⟩
end
/-- ["all", "any"][i] -/
theorem word_at {i : Int} (h0 : 0 ≤ i) (h1 : i < 2) : atI [V.str "all", V.str "any"] i = some (.str (wd (decide (i = 1)))) := by
  refine at_i h0 ?_
  rcases (show i = 0 ∨ i = 1 by omega) with e | e
  · subst e; rfl
  · subst e; rfl
/-- one hand waits for all hands, from any one on, backwards -/
def allBy (n w : Int) : List Int := (List.range n.toNat).map fun (k : Nat) => (n + w - (k : Int)) % n
theorem emod_inj {n c a b : Int} (ha : 0 ≤ a ∧ a < n) (hb : 0 ≤ b ∧ b < n) (h : (c - a) % n = (c - b) % n) : a = b := by
  have h1 : (b - a) % n = 0 := by
    have := Int.emod_eq_emod_iff_emod_sub_eq_zero.mp h
    rw [show c - a - (c - b) = b - a by omega] at this
    exact this
  have h2 : (a - b) % n = 0 := by
    have := Int.emod_eq_emod_iff_emod_sub_eq_zero.mp h.symm
    rw [show c - b - (c - a) = a - b by omega] at this
    exact this
  by_cases l : a ≤ b
  · rw [Int.emod_eq_of_lt (by omega) (by omega)] at h1; omega
  · rw [Int.emod_eq_of_lt (by omega) (by omega)] at h2; omega
theorem all_ok (b : Bool) {n w : Int} {z : Nat} (hz : n = (z : Int)) (hn : 0 < n) : okW z (some (b, allBy n w)) := by
  refine ⟨fun e => ?_, ?_, fun o m => ?_⟩
  · have : (allBy n w).length = n.toNat := by unfold allBy; rw [List.length_map, List.length_range]
    rw [e, List.length_nil] at this
    omega
  · unfold allBy
    rw [List.nodup_iff_pairwise_ne, List.pairwise_map]
    refine List.Pairwise.imp_of_mem (fun {a b} ha hb hne e => ?_) (List.nodup_iff_pairwise_ne.mp List.nodup_range)
    have := List.mem_range.mp ha
    have := List.mem_range.mp hb
    have := emod_inj (c := n + w) (a := (a : Int)) (b := (b : Int)) (n := n) (by omega) (by omega) e
    omega
  · unfold allBy at m
    obtain ⟨k, _, rfl⟩ := List.mem_map.mp m
    rw [← hz]
    exact ⟨Int.emod_nonneg _ (by omega), Int.emod_lt_of_pos _ hn⟩
theorem okws_set {ws : List Wt} {w : Wt} {j : Nat} (ok : OkWs ws) (h : okW ws.length w) : OkWs (ws.set j w) := by
  refine ⟨by rw [List.length_set]; exact ok.pos, by rw [List.length_set]; exact ok.most, fun x m => ?_⟩
  rw [List.length_set]
  rcases List.mem_or_eq_of_mem_set m with m | rfl
  · exact ok.all x m
  · exact h
end SB
namespace SB
open PySem L2
/-- a wait whose list may still change: it stands in the ledger -/
inductive WOwn (F : Hp) : V → Wt → List (Addr × HO) → Prop
  | non : WOwn F .non none []
  | own {b : Bool} {os : List Int} {p l : Addr} : F p = some (.tup [.str (wd b), .ref l]) → WOwn F (.ref p) (some (b, os)) [(l, .lst (os.map V.int))]
theorem WOwn.up {F F' : Hp} {v : V} {w : Wt} {M : List (Addr × HO)} (h : WOwn F v w M) (s : Same F F') : WOwn F' v w M := by
  cases h with
  | non => exact .non
  | own h => exact .own (s _ _ h)
def mixBy (ns : List Int) (k s : Int) : Int := (cellAt ns k * 40692 + s * 7919) % 999979
theorem mix_nn (ns : List Int) (k s : Int) : 0 ≤ mixBy ns k s := Int.emod_nonneg _ (by decide)
def pr_mixed (K : PySem.W.Frag) (A : Ad) : V → V → V → Hp → VK → XK → Prop := fun a b c H Q _ => ∃ p ns k s, a = .ref p ∧ b = .int k ∧ c = .int s ∧ SqL K H p (ns.map V.int) ∧ 0 ≤ k ∧ Q (.int (mixBy ns k s)) H
abbrev sp_mixed (K : PySem.W.Frag) (A : Ad) : Sp := sp3 (pr_mixed K A)
def t_mixed (K : PySem.W.Frag) (A : Ad) : TS :=
    (tRet (tOp qMod (tOp qAdd (tOp qMul (tCall (sp_cell_at K A) [] E0 (tCons (tVar 0) (tCons (tVar 1) tNil))) (tC (.int 40692))) (tOp qMul (tVar 2) (tC (.int 7919)))) (tC (.int 999979))))
theorem rd_mixed {K : PySem.W.Frag} {A : Ad} {a b c : V} {H : Hp} {Q : VK} {E : XK} (h : pr_mixed K A a b c H Q E) : t_mixed K A { nx := fun _ H' => Q .non H', rt := Q } [some a, some b, some c] H := by
  obtain ⟨p, ns, k, s, rfl, rfl, rfl, hs, h0, q⟩ := h
  unfold t_mixed
  walk_at "rd"
  refine ⟨p, ns, k, rfl, rfl, hs, h0, ?_⟩
  walk_at "rd"
  exact q
def fewBy (f : Int) : Int := [5, 11].getD f.toNat 0
theorem few_pos {f : Int} (h0 : 0 ≤ f) (h1 : f < 2) : 0 < fewBy f ∧ atI [V.int 5, V.int 11] f = some (V.int (fewBy f)) := by
  rcases (show f = 0 ∨ f = 1 by omega) with e | e
  · subst e; exact ⟨by decide, at_i (by decide) rfl⟩
  · subst e; exact ⟨by decide, at_i (by decide) rfl⟩
def waitBy (n m f : Int) : Wt := if n % fewBy f = 0 then none else some (decide (n / 3 % 2 = 1), othersBy 700 89 n m (n / 55 % m) (n / 11 % 3).toNat)
theorem wait_ok {n m f : Int} {z : Nat} (hz : m = (z : Int)) (hm : 0 < m) : okW z (waitBy n m f) := by
  unfold waitBy
  split
  · exact True.intro
  · exact oth_ok _ hz hm ⟨Int.emod_nonneg _ (by omega), Int.emod_lt_of_pos _ hm⟩ _
def pr_wait_by (K : PySem.W.Frag) (A : Ad) : V → V → V → Hp → VK → XK → Prop := fun a b c H Q _ => ∃ F n m f, Same F H ∧ a = .int n ∧ b = .int m ∧ c = .int f ∧ 0 ≤ f ∧ f < 2 ∧ 1 ≤ m ∧ m ≤ 40 ∧ 0 ≤ n ∧ ∀ F' H' v M, Zs F H F' H' M → WOwn F' v (waitBy n m f) M → Q v H'
abbrev sp_wait_by (K : PySem.W.Frag) (A : Ad) : Sp := sp3 (pr_wait_by K A)
def t_wait_by (K : PySem.W.Frag) (A : Ad) : TS :=
    (tSeq (tIfS (tTest (tOp rEq (tOp qMod (tVar 0) (tOp (rIxL K) (tLst (tCons (tC (.int 5)) (tCons (tC (.int 11)) tNil))) (tVar 2))) (tC (.int 0))))
    (tRet (tC .non))
    tNext)
    (tSeq (tAsg (tLst (tCons (tOp qMod (tOp qDiv (tVar 0) (tC (.int 55))) (tVar 1)) tNil)) (gName 3))
    (tSeq (tFor (iRng1 (tCons (tOp qMod (tOp qDiv (tVar 0) (tC (.int 11))) (tC (.int 3))) tNil)) (gName 4)
    (tSeq (tAsg (tOp qMod (tOp qAdd (tOp qAdd (tOp (rIxL K) (tVar 3) (tC (.int 0))) (tC (.int 1))) (tOp qMod (tOp qDiv (tVar 0) (tOp qAdd (tC (.int 700)) (tOp qMul (tC (.int 89)) (tVar 4)))) (tVar 1))) (tVar 1)) (gName 5))
    (tIfS (tTest (tOp (rIn K true) (tVar 5) (tVar 3)))
    (tDrop (tBM K "list" rAppend (tVar 3) (tCons (tVar 5) tNil)))
    tNext)))
    (tRet (tTup (tCons (tOp (rIxL K) (tLst (tCons (tC (.str "all")) (tCons (tC (.str "any")) tNil))) (tOp qMod (tOp qDiv (tVar 0) (tC (.int 3))) (tC (.int 2)))) (tCons (tVar 3) tNil)))))))
theorem rd_wait_by {K : PySem.W.Frag} {A : Ad} {a b c : V} {H : Hp} {Q : VK} {E : XK} (h : pr_wait_by K A a b c H Q E) : t_wait_by K A { nx := fun _ H' => Q .non H', rt := Q } [some a, some b, some c, none, none, none] H := by
  obtain ⟨F, n, m, f, sF, rfl, rfl, rfl, f0, f1, m1, m40, n0, q⟩ := h
  have Z : Zs F H F H [] := Zs.start sF
  unfold t_wait_by
  walk_at "rd"
  refine r_mk sz2 Z (fun pf Hf Zf => ?_)
  have hf := few_pos f0 f1
  have hf0 := hf.1
  walk_at "rd"
  refine r_ixL (SqL.of (Zf.get (i := 0) rfl)) hf.2 ?_
  replace Z := Zf.drop
  walk_at "rd"
  refine ifd (fun h => ?_) (fun h => ?_)
  · walk_at "rd"
    refine q F _ _ [] Z ?_
    unfold waitBy
    rw [if_pos h]
    exact .non
  · walk_at "rd"
    refine r_mk sz1 Z (fun l H1 Z1 => ?_)
    walk_at "rd"
    refine r_rng1 (by omega) (fun i σ' H' => ∃ x3 x4, σ' = [some (.int n), some (.int m), some (.int f), some (.ref l), x3, x4] ∧ Zs F H F H' [(l, .lst ((othersBy 700 89 n m (n / 55 % m) i).map V.int))]) ⟨none, none, rfl, Z1⟩ ?_ ?_
    · rintro i σ' H' hi ⟨x3, x4, rfl, Z⟩
      dsimp only [List.set_cons_succ, List.set_cons_zero]
      have hlen := oth_len (c := 700) (d := 89) (n := n) (m := m) (o0 := n / 55 % m) i
      walk_at "rd"
      refine r_ixL (SqL.of (Z.get (i := 0) rfl)) (v := .int (n / 55 % m)) (at_i (by decide) (by rw [List.getElem?_map, show (0 : Int).toNat = 0 from rfl, oth_0] <;> rfl)) ?_
      walk_at "rd"
      refine r_inL (SqL.of (Z.get (i := 0) rfl)) rfl (flat_ints _) ?_
      rw [if_pos rfl, inV_int]
      walk_at "rd"
      refine ifn (fun h2 => ?_) (fun h2 => ?_)
      · walk_at "rd"
        refine ⟨ty_l (SqL.of (Z.get (i := 0) rfl)), ?_⟩
        walk_at "rd"
        refine r_append 0 Z rfl (by rw [List.length_map]; omega) (fun H2 Z2 => ?_)
        walk_at "rd"
        refine ⟨_, _, rfl, ?_⟩
        unfold othersBy
        rw [if_neg (show ¬ moreBy 700 89 n m (n / 55 % m) (i : Nat) ∈ _ from h2), List.map_append]
        exact Z2
      · walk_at "rd"
        refine ⟨_, _, rfl, ?_⟩
        unfold othersBy
        rw [if_pos (show moreBy 700 89 n m (n / 55 % m) (i : Nat) ∈ _ from h2)]
        exact Z
    · rintro σ' H' ⟨x3, x4, rfl, Z⟩
      walk_at "rd"
      refine r_mk sz2 Z (fun p H2 Z2 => ?_)
      walk_at "rd"
      refine r_ixL (SqL.of (Z2.get (i := 0) rfl)) (word_at (by omega) (by omega)) ?_
      walk_at "rd"
      refine r_mk sz2 Z2.drop (fun t H3 Z3 => ?_)
      obtain ⟨F2, Z5, s2, e2⟩ := Z3.frzAt 0 rfl
      refine q F2 _ _ _ Z5 ?_
      unfold waitBy
      rw [if_neg h]
      exact .own e2
end SB
/-! Attributes, methods, makings, dicts: readings over the state kit. -/
namespace SB
open PySem L2
/-! ### attributes -/
def FldQ (K : PySem.W.Frag) (f : Str) (Q : VK) : VK := fun x H1 => ∃ a C dx fs v, x = .ref a ∧ H1 a = some (.ins C dx fs) ∧ Cls K C ∧ NoAttr K C f ∧ fs.lookup f = some v ∧ Q v H1
def SFldQ (K : PySem.W.Frag) (f : Str) (y : V) (P : St → Hp → Prop) (σ : St) : VK := fun x H2 => ∃ a C dx fs, x = .ref a ∧ H2 a = some (.ins C dx fs) ∧ Cls K C ∧ NoAttr K C f ∧ fs.length < 1000 ∧ P σ (upd H2 a (.ins C dx (putF f y fs)))
def MethQ (C : Addr) (m : Str) (sp : Sp) (dvs : List V) (E : XK) (t : TA) (σ : St) (Q : VK) : VK := fun x H1 => ∃ a dx fs, x = .ref a ∧ H1 a = some (.ins C dx fs) ∧ fs.lookup m = none ∧ t σ H1 fun vs H2 => sp (x :: (vs ++ dvs)) H2 Q E
def MkQ (Q : VK) (x : Addr) : VK := fun v H2 => v = .non ∧ Q (.ref x) H2
def MakeQ (C : Addr) (sp : Sp) (dvs : List V) (E : XK) (Q : VK) (vs : List V) (H1 : Hp) : Prop := ∀ x dx, H1 x = none → H1 dx = none → dx ≠ x → sp (.ref x :: (vs ++ dvs)) (upd (upd H1 dx (.own x)) x (.ins C dx [])) (MkQ Q x) E
section
variable {K : PySem.W.Frag} {σ : St} {H : Hp} {Q : VK} {D : Ends} {ta tv : TE} {t : TA} {f m : Str} {C dx a : Addr} {fs : List (Str × V)} {v y : V} {P : St → Hp → Prop} {sp : Sp} {dvs : List V} {E : XK}
theorem r_fld (h : ta σ H (FldQ K f Q)) : tFld K ta f σ H Q := h
theorem r_fldQ (c : Cls K C) (n : NoAttr K C f) (e : H a = some (.ins C dx fs)) (l : fs.lookup f = some v) (k : Q v H) : FldQ K f Q (.ref a) H := ⟨a, C, dx, fs, v, rfl, e, c, n, l, k⟩
theorem r_sfld (h : tv σ H fun y H1 => ta σ H1 (SFldQ K f y D.nx σ)) : sFld K ta tv f D σ H := h
theorem r_sfldQ {F0 H0 F : Hp} {L : List (Addr × HO)} (c : Cls K C) (n : NoAttr K C f) (i : Nat) (Z : Zs F0 H0 F H L) (e : L[i]? = some (a, .ins C dx fs)) (hl : fs.length < 1000) (k : ∀ H', Zs F0 H0 F H' (L.set i (a, .ins C dx (putF f y fs))) → P σ H') : SFldQ K f y P σ (.ref a) H :=
  ⟨a, C, dx, fs, rfl, Z.get e, c, n, hl, k _ (Z.setAt i e)⟩
theorem r_meth (h : ta σ H (MethQ C m sp dvs E t σ Q)) : tMeth C m sp dvs E ta t σ H Q := h
theorem r_methQ (e : H a = some (.ins C dx fs)) (l : fs.lookup m = none) (h : t σ H fun vs H2 => sp (.ref a :: (vs ++ dvs)) H2 Q E) : MethQ C m sp dvs E t σ Q (.ref a) H := ⟨a, dx, fs, rfl, e, l, h⟩
theorem r_make (h : t σ H (MakeQ C sp dvs E Q)) : tMake C sp dvs E t σ H Q := h
theorem r_makeQ {F0 H0 F : Hp} {L : List (Addr × HO)} {vs : List V} (Z : Zs F0 H0 F H L) (k : ∀ x dx H', Zs F0 H0 F H' ((x, .ins C dx []) :: L) → sp (.ref x :: (vs ++ dvs)) H' (MkQ Q x) E) : MakeQ C sp dvs E Q vs H := by
  intro x dx hx hd ne
  have Z1 := Z.alloc (o := .own x) hd
  have Z2 := Z1.alloc (p := x) (o := .ins C dx []) (by rw [upd_ne ne.symm]; exact hx)
  exact k x dx _ (Z2.dropAt 1)
end
theorem Zs.perm {F0 H0 F H : Hp} {L L' : List (Addr × HO)} (Z : Zs F0 H0 F H L) (h : L.Perm L') : Zs F0 H0 F H L' := ⟨Z.ff, Z.hh, Z.fh, Z.sep, fun q hq => Z.led q (h.mem_iff.mpr hq), (h.map _).nodup Z.nd⟩
/-! ### dicts -/
section
variable {K : PySem.W.Frag} {σ : St} {H : Hp} {Q : VK} {D : Ends} {td ty tv te : TE} {a : Addr} {kvs : List (Key × V)} {x y v : V} {k : Key} {P : St → Hp → Prop}
def DGQ (Q : VK) (x : V) : VK := fun y H2 => ∃ a v, x = .ref a ∧ DGet H2 a y (some v) ∧ Q v H2
def DPQ (v : V) (P : St → Hp → Prop) (σ : St) (x : V) : VK := fun y H3 => ∃ a H4, x = .ref a ∧ DPut H3 a y v H4 ∧ P σ H4
theorem r_dget (h : td σ H fun x H1 => ty σ H1 (DGQ Q x)) : tDGet td ty σ H Q := h
theorem r_dgetQ {k : Str} (e : H a = some (.dK kvs)) (l : valV kvs (.inr k) = some v) (q : Q v H) : DGQ Q (.ref a) (.str k) H := ⟨a, v, rfl, by rw [← l]; exact DGet.k (k := .inr k) e, q⟩
theorem r_dput (h : tv σ H fun v H1 => td σ H1 fun x H2 => ty σ H2 (DPQ v D.nx σ x)) : sDPut td ty tv D σ H := h
theorem r_dputQ {F0 H0 F : Hp} {L : List (Addr × HO)} {k : Str} (i : Nat) (Z : Zs F0 H0 F H L) (e : L[i]? = some (a, .dK kvs)) (hl : kvs.length < 100000) (q : ∀ H', Zs F0 H0 F H' (L.set i (a, .dK (putK kvs (.inr k) v))) → P σ H') : DPQ v P σ (.ref a) (.str k) H :=
  ⟨a, _, rfl, DPut.k (k := .inr k) (Z.get e) (sz_lt hl), q _ (Z.setAt i e)⟩
/-- a display -/
def DispQ (Q : VK) (p : Addr) : List (V × V) → Hp → Prop := fun ps H2 => H2 p = some (.dK []) ∧ ∃ kvs : List (Key × V), ps = kvs.map (fun kv => (kV kv.1, kv.2)) ∧ kvs.length ≤ 15 ∧ Q (.ref p) (upd H2 p (.dK (mergeK [] kvs)))
def DispN (trs : List (TE × TE)) (σ : St) (Q : VK) (H : Hp) : Prop := ∀ p, H p = none → tPairs trs σ (upd H p (.dK [])) (DispQ Q p)
theorem r_disp {trs : List (TE × TE)} {F0 H0 F : Hp} {L : List (Addr × HO)} (Z : Zs F0 H0 F H L) (k : ∀ p H', Zs F0 H0 F H' ((p, .dK []) :: L) → tPairs trs σ H' (DispQ Q p)) : tDisp trs σ H Q := fun p hp => k p _ (Z.alloc hp)
theorem r_pnil {R : List (V × V) → Hp → Prop} (h : R [] H) : tPairs [] σ H R := h
theorem r_pcons {tr : List (TE × TE)} {R : List (V × V) → Hp → Prop} (h : td σ H fun x H1 => ty σ H1 fun y H2 => tPairs tr σ H2 fun ps H3 => R ((x, y) :: ps) H3) : tPairs ((td, ty) :: tr) σ H R := h
theorem r_dispQ {p : Addr} {F0 H0 F : Hp} {L : List (Addr × HO)} {ps : List (V × V)} (i : Nat) (kvs : List (Key × V)) (Z : Zs F0 H0 F H L) (e : L[i]? = some (p, .dK [])) (hp : ps = kvs.map (fun kv => (kV kv.1, kv.2))) (hl : kvs.length ≤ 15)
    (k : ∀ H', Zs F0 H0 F H' (L.set i (p, .dK (mergeK [] kvs))) → Q (.ref p) H') : DispQ Q p ps H := ⟨Z.get e, kvs, hp, hl, k _ (Z.setAt i e)⟩
end
/-! ### letters -/
/-- a letter: its word, who sent it, whom it is for -/
abbrev Lt := Str × Int × Int
def dLt (l : Lt) : PyData := .tuple [.str l.1, .int l.2.1, .int l.2.2]
def dLts (ls : List Lt) : List PyData := ls.map dLt
theorem Td.inv_lt {F : Hp} {v : V} {l : Lt} (h : Td F v (dLt l)) : ∃ a, v = .ref a ∧ F a = some (.tup [.str l.1, .int l.2.1, .int l.2.2]) := by
  obtain ⟨a, xs, rfl, h1, h2⟩ := Td.inv_tup h
  cases h2 with
  | cons k1 k2 =>
    cases k2 with
    | cons k3 k4 =>
      cases k4 with
      | cons k5 k6 =>
        cases k6
        cases k1
        cases k3
        cases k5
        exact ⟨a, rfl, h1⟩
theorem Td.mk_lt {F : Hp} {a : Addr} {l : Lt} (h : F a = some (.tup [.str l.1, .int l.2.1, .int l.2.2])) : Td F (.ref a) (dLt l) := .tup h (.cons (.str _) (.cons (.int _) (.cons (.int _) .nil)))
/-! ### remove, pop, reverse, clear -/
section
variable {K : PySem.W.Frag} {F0 H0 F H : Hp} {L : List (Addr × HO)} {Q : VK} {l : Addr} {xs : List V} {y : V}
theorem r_reverse (i : Nat) (Z : Zs F0 H0 F H L) (h : L[i]? = some (l, .lst xs)) (k : ∀ H', Zs F0 H0 F H' (L.set i (l, .lst xs.reverse)) → Q .non H') : rReverse (.ref l) [] H Q := ⟨l, xs, rfl, rfl, Z.get h, k _ (Z.setAt i h)⟩
theorem r_clear (i : Nat) (Z : Zs F0 H0 F H L) (h : L[i]? = some (l, .lst xs)) (k : ∀ H', Zs F0 H0 F H' (L.set i (l, .lst [])) → Q .non H') : rClear (.ref l) [] H Q := ⟨l, xs, rfl, rfl, Z.get h, k _ (Z.setAt i h)⟩
theorem r_popAt (i : Nat) {c : Int} {j : Nat} (Z : Zs F0 H0 F H L) (h : L[i]? = some (l, .lst xs)) (hc : c = (j : Int)) (hz : xs.length ≤ 100000) (hj : xs[j]? = some y) (k : ∀ H', Zs F0 H0 F H' (L.set i (l, .lst (xs.eraseIdx j))) → Q y H') : rPopAt (.ref l) [.int c] H Q := by
  have hlt := (List.getElem?_eq_some_iff.mp hj).1
  subst hc
  refine ⟨l, xs, (j : Int), j, y, rfl, rfl, Z.get h, by omega, by omega, ?_, hj, k _ (Z.setAt i h)⟩
  unfold PySem.seqIndex?
  have e1 : ¬ ((j : Int) < 0) := by omega
  have e2 : (0 : Int) ≤ (j : Int) := by omega
  have e3 : (j : Int) < (xs.length : Int) := by omega
  simp only [e1, if_false, e2, e3, decide_true, Bool.and_self, if_true, Int.toNat_natCast]
theorem r_remI (i : Nat) {ns : List Int} {n : Int} {j : Nat} (Z : Zs F0 H0 F H L) (h : L[i]? = some (l, .lst (ns.map V.int))) (hj : ns[j]? = some n) (hno : ∀ m : Nat, m < j → ns[m]? ≠ some n) (k : ∀ H', Zs F0 H0 F H' (L.set i (l, .lst ((ns.eraseIdx j).map V.int))) → Q .non H') : rRemI (.ref l) [.int n] H Q :=
  ⟨l, ns, n, j, rfl, rfl, Z.get h, hj, hno, k _ (Z.setAt i h)⟩
end
end SB
/-! A hand: its attributes as cells of the ledger; what its methods compute, plainly. -/
namespace SB
open PySem L2
structure HS where
  number : Int
  word : Option Bool
  others : List Int
  first : Bool
  free : Bool
  has : Bool
  askers : List Int
  told : List Int
  owed : Int
  waker : Option Int
def kOf : Option Int → V
  | none => .non
  | some i => .int i
def wOf : Option Bool → V
  | none => .non
  | some b => .str (wd b)
def hf (s : HS) (o a t : Addr) : List (Str × V) := [("number", .int s.number), ("word", wOf s.word), ("others", .ref o), ("is_asker", .bl s.first), ("is_freed", .bl s.free), ("has_asked", .bl s.has), ("askers", .ref a), ("told_so", .ref t), ("owed", .int s.owed), ("waker", kOf s.waker)]
/-- where a hand lies -/
structure HR where
  x : Addr
  dx : Addr
  o : Addr
  a : Addr
  t : Addr
def hI (A : Ad) (r : HR) (s : HS) : HO := .ins A.cHand r.dx (hf s r.o r.a r.t)
abbrev hL (A : Ad) (r : HR) (s : HS) (L : List (Addr × HO)) : List (Addr × HO) := (r.x, hI A r s) :: (r.a, .lst (s.askers.map V.int)) :: (r.t, .lst (s.told.map V.int)) :: L
structure HandOk (K : PySem.W.Frag) (A : Ad) : Prop where
  cl : Cls K A.cHand
  number : NoAttr K A.cHand "number"
  word : NoAttr K A.cHand "word"
  others : NoAttr K A.cHand "others"
  first : NoAttr K A.cHand "is_asker"
  free : NoAttr K A.cHand "is_freed"
  has : NoAttr K A.cHand "has_asked"
  askers : NoAttr K A.cHand "askers"
  told : NoAttr K A.cHand "told_so"
  owed : NoAttr K A.cHand "owed"
  waker : NoAttr K A.cHand "waker"
section
variable {K : PySem.W.Frag} {A : Ad} {σ : St} {F0 H0 F H : Hp} {L : List (Addr × HO)} {Q : VK} {r : HR} {s : HS} {P : St → Hp → Prop} {n : Int} {b : Bool}
theorem fl_number (O : HandOk K A) (e : H r.x = some (hI A r s)) (k : Q (.int s.number) H) : FldQ K "number" Q (.ref r.x) H := r_fldQ O.cl O.number e rfl k
theorem fl_word (O : HandOk K A) (e : H r.x = some (hI A r s)) (k : Q (wOf s.word) H) : FldQ K "word" Q (.ref r.x) H := r_fldQ O.cl O.word e rfl k
theorem fl_others (O : HandOk K A) (e : H r.x = some (hI A r s)) (k : Q (.ref r.o) H) : FldQ K "others" Q (.ref r.x) H := r_fldQ O.cl O.others e rfl k
theorem fl_first (O : HandOk K A) (e : H r.x = some (hI A r s)) (k : Q (.bl s.first) H) : FldQ K "is_asker" Q (.ref r.x) H := r_fldQ O.cl O.first e rfl k
theorem fl_free (O : HandOk K A) (e : H r.x = some (hI A r s)) (k : Q (.bl s.free) H) : FldQ K "is_freed" Q (.ref r.x) H := r_fldQ O.cl O.free e rfl k
theorem fl_has (O : HandOk K A) (e : H r.x = some (hI A r s)) (k : Q (.bl s.has) H) : FldQ K "has_asked" Q (.ref r.x) H := r_fldQ O.cl O.has e rfl k
theorem fl_askers (O : HandOk K A) (e : H r.x = some (hI A r s)) (k : Q (.ref r.a) H) : FldQ K "askers" Q (.ref r.x) H := r_fldQ O.cl O.askers e rfl k
theorem fl_told (O : HandOk K A) (e : H r.x = some (hI A r s)) (k : Q (.ref r.t) H) : FldQ K "told_so" Q (.ref r.x) H := r_fldQ O.cl O.told e rfl k
theorem fl_owed (O : HandOk K A) (e : H r.x = some (hI A r s)) (k : Q (.int s.owed) H) : FldQ K "owed" Q (.ref r.x) H := r_fldQ O.cl O.owed e rfl k
theorem fl_waker (O : HandOk K A) (e : H r.x = some (hI A r s)) (k : Q (kOf s.waker) H) : FldQ K "waker" Q (.ref r.x) H := r_fldQ O.cl O.waker e rfl k
theorem hf_lt {o a t : Addr} : (hf s o a t).length < 1000 := by show 10 < 1000; decide
theorem sf_owed (O : HandOk K A) (Z : Zs F0 H0 F H (hL A r s L)) (k : ∀ H', Zs F0 H0 F H' (hL A r { s with owed := n } L) → P σ H') : SFldQ K "owed" (.int n) P σ (.ref r.x) H := r_sfldQ O.cl O.owed 0 Z rfl hf_lt k
theorem sf_has (O : HandOk K A) (Z : Zs F0 H0 F H (hL A r s L)) (k : ∀ H', Zs F0 H0 F H' (hL A r { s with has := b } L) → P σ H') : SFldQ K "has_asked" (.bl b) P σ (.ref r.x) H := r_sfldQ O.cl O.has 0 Z rfl hf_lt k
theorem sf_free (O : HandOk K A) (Z : Zs F0 H0 F H (hL A r s L)) (k : ∀ H', Zs F0 H0 F H' (hL A r { s with free := b } L) → P σ H') : SFldQ K "is_freed" (.bl b) P σ (.ref r.x) H := r_sfldQ O.cl O.free 0 Z rfl hf_lt k
theorem sf_waker (O : HandOk K A) (Z : Zs F0 H0 F H (hL A r s L)) (k : ∀ H', Zs F0 H0 F H' (hL A r { s with waker := some n } L) → P σ H') : SFldQ K "waker" (.int n) P σ (.ref r.x) H := r_sfldQ O.cl O.waker 0 Z rfl hf_lt k
theorem sf_wakerN (O : HandOk K A) (Z : Zs F0 H0 F H (hL A r s L)) (k : ∀ H', Zs F0 H0 F H' (hL A r { s with waker := none } L) → P σ H') : SFldQ K "waker" .non P σ (.ref r.x) H := r_sfldQ O.cl O.waker 0 Z rfl hf_lt k
end
/-! ### plainly -/
def posted (s : HS) (w : Str) (rs : List Int) : HS × List Lt := ({ s with owed := s.owed + (rs.length : Int) }, rs.map fun o => (w, s.number, o))
def asking (s : HS) : HS × List Lt := posted { s with has := true } "ask" s.others
def begin (s : HS) : HS × List Lt := if s.free = true then (s, []) else asking s
def askedBy (s : HS) (j : Int) : HS × List Lt :=
  if s.free = true then posted s "freed" [j] else
  if s.has = true then ({ s with askers := s.askers ++ [j] }, []) else asking { s with askers := s.askers ++ [j] }
def toldBy (s : HS) (j : Int) : HS × List Lt :=
  if (s.free || (decide (s.word = some false) && decide (s.told.length + 1 < s.others.length))) = true then ({ s with told := s.told ++ [j] }, [])
  else posted { s with told := s.told ++ [j], free := true } "freed" s.askers
/-- ahead of what the letter says: whose turn it is to wake -/
def woken (s : HS) (j : Int) : HS × List Lt := if (s.first || s.waker.isSome) = true then (s, [("back", s.number, j)]) else ({ s with waker := some j }, [])
/-- behind it: is nothing owed any more? -/
def settle (s : HS) : HS × List Lt :=
  match s.waker with
  | some k => if s.owed = 0 then ({ s with waker := none }, [("back", s.number, k)]) else (s, [])
  | none => (s, [])
def come1 (s : HS) (w : Str) (j : Int) : HS × List Lt :=
  if w = "back" then ({ s with owed := s.owed - 1 }, [])
  else
    let p := woken s j
    let q := if w = "ask" then askedBy p.1 j else toldBy p.1 j
    (q.1, p.2 ++ q.2)
def come (s : HS) (w : Str) (j : Int) : HS × List Lt :=
  let p := come1 s w j
  let q := settle p.1
  (q.1, p.2 ++ q.2)
/-- how a method of a hand ends -/
def PostH (A : Ad) (F0 H0 F : Hp) (L : List (Addr × HO)) (r : HR) (p : HS × List Lt) (Q : VK) : Prop := ∀ F' H' l vs, Zs F0 H0 F' H' ((l, .lst vs) :: hL A r p.1 L) → Same F F' → TdA F' vs (dLts p.2) → Q (.ref l) H'
end SB
namespace SB
open PySem L2
/-! ### the program: waits.py -/
/-- isinstance over data -/
def tyD : PyData → String
  | .none => "NoneType"
  | .bool _ => "bool"
  | .int _ => "int"
  | .str _ => "str"
  | .list _ => "list"
  | .tuple _ => "tuple"
  | .dict _ => "dict"
theorem ty_of {K : PySem.W.Frag} {H : Hp} {v : V} {d : PyData} (h : Td H v d) : TyX K H v (.type (tyD d)) := by
  cases h with
  | non => exact .base .non
  | bl b => exact .base (.bl b)
  | int i => exact .base (.int i)
  | str x => exact .base (.str x)
  | lst a b => exact .base (.lst a)
  | tup a b => exact .base (.tup a)
def isD (d : PyData) (n : String) : Bool := (kitB (tyD d) n).getD false
theorem r_isi {K : PySem.W.Frag} {H : Hp} {v : V} {d : PyData} {n : String} {b : Bool} {Q : VK} (h : Td H v d) (hb : kitB (tyD d) n = some b) (k : Q (.bl b) H) : rIsi K [v, .ty n] H Q :=
  ⟨v, .ty n, .type (tyD d), .type n, b, rfl, .ty n, ty_of h, kit_ty hb, k⟩
theorem ki_int : ∀ d : PyData, kitB (tyD d) "int" = some (match d with | .int _ => true | .bool _ => true | _ => false)
  | .none => by decide +kernel
  | .bool _ => by show kitB "bool" "int" = some true; decide +kernel
  | .int _ => by show kitB "int" "int" = some true; decide +kernel
  | .str _ => by show kitB "str" "int" = some false; decide +kernel
  | .list _ => by show kitB "list" "int" = some false; decide +kernel
  | .tuple _ => by show kitB "tuple" "int" = some false; decide +kernel
  | .dict _ => by show kitB "dict" "int" = some false; decide +kernel
theorem ki_bool : ∀ d : PyData, kitB (tyD d) "bool" = some (match d with | .bool _ => true | _ => false)
  | .none => by decide +kernel
  | .bool _ => by show kitB "bool" "bool" = some true; decide +kernel
  | .int _ => by show kitB "int" "bool" = some false; decide +kernel
  | .str _ => by show kitB "str" "bool" = some false; decide +kernel
  | .list _ => by show kitB "list" "bool" = some false; decide +kernel
  | .tuple _ => by show kitB "tuple" "bool" = some false; decide +kernel
  | .dict _ => by show kitB "dict" "bool" = some false; decide +kernel
theorem ki_str : ∀ d : PyData, kitB (tyD d) "str" = some (match d with | .str _ => true | _ => false)
  | .none => by decide +kernel
  | .bool _ => by show kitB "bool" "str" = some false; decide +kernel
  | .int _ => by show kitB "int" "str" = some false; decide +kernel
  | .str _ => by show kitB "str" "str" = some true; decide +kernel
  | .list _ => by show kitB "list" "str" = some false; decide +kernel
  | .tuple _ => by show kitB "tuple" "str" = some false; decide +kernel
  | .dict _ => by show kitB "dict" "str" = some false; decide +kernel
theorem ki_list : ∀ d : PyData, kitB (tyD d) "list" = some (match d with | .list _ => true | _ => false)
  | .none => by decide +kernel
  | .bool _ => by show kitB "bool" "list" = some false; decide +kernel
  | .int _ => by show kitB "int" "list" = some false; decide +kernel
  | .str _ => by show kitB "str" "list" = some false; decide +kernel
  | .list _ => by show kitB "list" "list" = some true; decide +kernel
  | .tuple _ => by show kitB "tuple" "list" = some false; decide +kernel
  | .dict _ => by show kitB "dict" "list" = some false; decide +kernel
theorem ki_tuple : ∀ d : PyData, kitB (tyD d) "tuple" = some (match d with | .tuple _ => true | _ => false)
  | .none => by decide +kernel
  | .bool _ => by show kitB "bool" "tuple" = some false; decide +kernel
  | .int _ => by show kitB "int" "tuple" = some false; decide +kernel
  | .str _ => by show kitB "str" "tuple" = some false; decide +kernel
  | .list _ => by show kitB "list" "tuple" = some false; decide +kernel
  | .tuple _ => by show kitB "tuple" "tuple" = some true; decide +kernel
  | .dict _ => by show kitB "dict" "tuple" = some false; decide +kernel

/-- is_hand -/
def handD : PyData → Int → Bool
  | .int i, m => decide (0 ≤ i) && decide (i < m)
  | _, _ => false
def pr_is_hand (K : PySem.W.Frag) (A : Ad) : V → V → Hp → VK → XK → Prop := fun a b H Q _ => ∃ d m, Td H a d ∧ b = .int m ∧ Q (.bl (handD d m)) H
abbrev sp_is_hand (K : PySem.W.Frag) (A : Ad) : Sp := sp2 (pr_is_hand K A)
def t_is_hand (K : PySem.W.Frag) (A : Ad) : TS :=
    (tRet (tAndV (tCB (rIsi K) (tCons (tVar 0) (tCons (tC (.ty "int")) tNil))) (tAndV (tNotV (tCB (rIsi K) (tCons (tVar 0) (tCons (tC (.ty "bool")) tNil)))) (tChain qLe qLt (tC (.int 0)) (tVar 0) (tVar 1)))))
theorem rd_is_hand {K : PySem.W.Frag} {A : Ad} {a b : V} {H : Hp} {Q : VK} {E : XK} (h : pr_is_hand K A a b H Q E) : t_is_hand K A { nx := fun _ H' => Q .non H', rt := Q } [some a, some b] H := by
  obtain ⟨d, m, hd, rfl, q⟩ := h
  unfold t_is_hand
  walk_at "rd"
  refine r_isi hd (ki_int d) ?_
  walk_at "rd"
  refine ifb (fun h => ?_) (fun h => ?_)
  · walk_at "rd"
    refine r_isi hd (ki_bool d) ?_
    walk_at "rd"
    refine ifnb (fun h2 => ?_) (fun h2 => ?_)
    · cases hd with
      | int i =>
        walk_at "rd"
        refine ifd (fun h3 => ?_) (fun h3 => ?_)
        · walk_at "rd"
          have e : handD (.int i) m = decide (i < m) := by
            show (decide (0 ≤ i) && decide (i < m)) = _
            rw [decide_eq_true h3, Bool.true_and]
          rw [← e]
          exact q
        · have e : handD (.int i) m = false := by
            show (decide (0 ≤ i) && decide (i < m)) = _
            rw [decide_eq_false h3, Bool.false_and]
          rw [← e]
          exact q
      | bl b => cases h2
      | non => cases h
      | str x => cases h
      | lst x y => cases h
      | tup x y => cases h
    · cases hd with
      | bl b => exact q
      | int i => cases h2
      | non => cases h
      | str x => cases h
      | lst x y => cases h
      | tup x y => cases h
  · cases hd with
    | bl b => cases h
    | int i => cases h
    | non => exact q
    | str x => exact q
    | lst x y => exact q
    | tup x y => exact q
/-- need_hand of a hand -/
def pr_need_hand (K : PySem.W.Frag) (A : Ad) : V → V → Hp → VK → XK → Prop := fun a b H Q _ => ∃ m i, a = .int m ∧ b = .int i ∧ 0 ≤ i ∧ i < m ∧ Q (.int i) H
abbrev sp_need_hand (K : PySem.W.Frag) (A : Ad) : Sp := sp2 (pr_need_hand K A)
def t_need_hand (K : PySem.W.Frag) (A : Ad) : TS :=
    (tSeq (tIfS (tNot (tB (tCall (sp_is_hand K A) [] E0 (tCons (tVar 1) (tCons (tVar 0) tNil)))))
    tNever
    tNext)
    (tRet (tVar 1)))
theorem rd_need_hand {K : PySem.W.Frag} {A : Ad} {a b : V} {H : Hp} {Q : VK} {E : XK} (h : pr_need_hand K A a b H Q E) : t_need_hand K A { nx := fun _ H' => Q .non H', rt := Q } [some a, some b] H := by
  obtain ⟨m, i, rfl, rfl, h0, h1, q⟩ := h
  unfold t_need_hand
  walk_at "rd"
  refine ⟨_, m, .int i, rfl, ?_⟩
  walk_at "rd"
  have e : handD (.int i) m = true := by
    show (decide (0 ≤ i) && decide (i < m)) = true
    rw [decide_eq_true h0, decide_eq_true h1] <;> rfl
  rw [e]
  refine ifF rfl ?_
  walk_at "rd"
  exact q
end SB
/-! A net: its cells and its hands' cells. -/
namespace SB
open PySem L2
theorem TdA.erase {F : Hp} : ∀ {vs : List V} {ds : List PyData} (i : Nat), TdA F vs ds → TdA F (vs.eraseIdx i) (ds.eraseIdx i)
  | _, _, _, .nil => .nil
  | _, _, 0, .cons _ h2 => h2
  | _, _, i + 1, .cons h1 h2 => .cons h1 (TdA.erase i h2)
theorem map_eraseIdx {α β : Type} (f : α → β) : ∀ (l : List α) (i : Nat), (l.eraseIdx i).map f = (l.map f).eraseIdx i
  | [], _ => rfl
  | _ :: _, 0 => rfl
  | a :: l, i + 1 => by rw [List.eraseIdx_cons_succ, List.map_cons, map_eraseIdx f l i, List.map_cons, List.eraseIdx_cons_succ]
structure NS where
  asker : Int
  hands : List HS
  row : List Lt
  sent : Int
structure NR where
  x : Addr
  dx : Addr
  hl : Addr
  rl : Addr
  hr : List HR
def nf (S : NS) (hl rl : Addr) : List (Str × V) := [("asker", .int S.asker), ("hands", .ref hl), ("row", .ref rl), ("posted_so_far", .int S.sent)]
def nI (A : Ad) (N : NR) (S : NS) : HO := .ins A.cNet N.dx (nf S N.hl N.rl)
def hsL (A : Ad) : List HR → List HS → List (Addr × HO) → List (Addr × HO)
  | r :: rs, s :: ss, L => hL A r s (hsL A rs ss L)
  | [], _, L => L
  | _ :: _, [], L => L
abbrev nL (A : Ad) (N : NR) (S : NS) (rv : List V) (L : List (Addr × HO)) : List (Addr × HO) := (N.x, nI A N S) :: (N.rl, .lst rv) :: hsL A N.hr S.hands L
theorem hL_perm {A : Ad} {r : HR} {s : HS} {L M : List (Addr × HO)} (h : L.Perm M) : (hL A r s L).Perm (hL A r s M) := List.Perm.cons _ (List.Perm.cons _ (List.Perm.cons _ h))
theorem hL_swap {A : Ad} {r r' : HR} {s s' : HS} {L : List (Addr × HO)} : (hL A r s (hL A r' s' L)).Perm (hL A r' s' (hL A r s L)) := List.perm_append_comm_assoc (hL A r s []) (hL A r' s' []) L
theorem hsL_out {A : Ad} {L : List (Addr × HO)} : ∀ {rs : List HR} {ss : List HS} {i : Nat} {r : HR} {s : HS}, rs[i]? = some r → ss[i]? = some s → (hsL A rs ss L).Perm (hL A r s (hsL A (rs.eraseIdx i) (ss.eraseIdx i) L))
  | [], _, _, _, _, h, _ => by simp at h
  | _ :: _, [], _, _, _, _, h => by simp at h
  | r' :: rs, s' :: ss, 0, r, s, h1, h2 => by
    simp at h1 h2
    subst h1 h2
    exact List.Perm.refl _
  | r' :: rs, s' :: ss, i + 1, r, s, h1, h2 => by
    have ih := hsL_out (A := A) (L := L) (rs := rs) (ss := ss) (i := i) (by simpa using h1) (by simpa using h2)
    show (hL A r' s' (hsL A rs ss L)).Perm (hL A r s (hL A r' s' (hsL A (rs.eraseIdx i) (ss.eraseIdx i) L)))
    exact (hL_perm ih).trans hL_swap
theorem hsL_in {A : Ad} {L : List (Addr × HO)} {rs : List HR} {ss : List HS} {i : Nat} {r : HR} {s s' : HS} (h1 : rs[i]? = some r) (h2 : ss[i]? = some s) : (hL A r s' (hsL A (rs.eraseIdx i) (ss.eraseIdx i) L)).Perm (hsL A rs (ss.set i s') L) := by
  have hl := (List.getElem?_eq_some_iff.mp h2).1
  have h := hsL_out (A := A) (L := L) (rs := rs) (ss := ss.set i s') (i := i) (r := r) (s := s') h1 (by rw [List.getElem?_set_self hl])
  rw [List.eraseIdx_set_eq] at h
  exact h.symm
theorem hsL_tail {A : Ad} {L M : List (Addr × HO)} (h : L.Perm M) : ∀ {rs : List HR} {ss : List HS}, (hsL A rs ss L).Perm (hsL A rs ss M)
  | [], _ => h
  | _ :: _, [] => h
  | _ :: _, _ :: _ => hL_perm (hsL_tail h)
theorem hsL_mid {A : Ad} {L : List (Addr × HO)} {q : Addr × HO} : ∀ {rs : List HR} {ss : List HS}, (hsL A rs ss (q :: L)).Perm (q :: hsL A rs ss L)
  | [], _ => List.Perm.refl _
  | _ :: _, [] => List.Perm.refl _
  | r :: rs, s :: ss => (hL_perm (hsL_mid (rs := rs) (ss := ss))).trans (List.perm_middle (a := q) (l₁ := hL A r s []) (l₂ := hsL A rs ss L))
theorem hsL_snoc {A : Ad} {L : List (Addr × HO)} {r : HR} {s : HS} : ∀ {rs : List HR} {ss : List HS}, rs.length = ss.length → hsL A (rs ++ [r]) (ss ++ [s]) L = hsL A rs ss (hL A r s L)
  | [], [], _ => rfl
  | [], _ :: _, h => by simp at h
  | _ :: _, [], h => by simp at h
  | r' :: rs, s' :: ss, h => by
    show hL A r' s' (hsL A (rs ++ [r]) (ss ++ [s]) L) = hL A r' s' (hsL A rs ss (hL A r s L))
    rw [hsL_snoc (by simpa using h)]
theorem hsL_app {A : Ad} {L : List (Addr × HO)} : ∀ {rs : List HR} {ss : List HS}, hsL A rs ss L = hsL A rs ss [] ++ L
  | [], _ => rfl
  | _ :: _, [] => rfl
  | r :: rs, s :: ss => by
    show hL A r s (hsL A rs ss L) = hL A r s (hsL A rs ss []) ++ L
    rw [hsL_app (rs := rs) (ss := ss)] <;> rfl
theorem nL_app {A : Ad} {N : NR} {S : NS} {rv : List V} {L : List (Addr × HO)} : nL A N S rv L = nL A N S rv [] ++ L := by
  show (N.x, _) :: (N.rl, _) :: hsL A N.hr S.hands L = (N.x, _) :: (N.rl, _) :: (hsL A N.hr S.hands [] ++ L)
  rw [hsL_app]
/-- what of a net never changes -/
structure NFz (F : Hp) (N : NR) (S : NS) : Prop where
  hl : F N.hl = some (.lst (N.hr.map fun r => .ref r.x))
  len : N.hr.length = S.hands.length
  oth : ∀ (i : Nat) (r : HR) (s : HS), N.hr[i]? = some r → S.hands[i]? = some s → F r.o = some (.lst (s.others.map V.int))
theorem NFz.up {F F' : Hp} {N : NR} {S : NS} (h : NFz F N S) (sm : Same F F') : NFz F' N S := ⟨sm _ _ h.hl, h.len, fun i r s a b => sm _ _ (h.oth i r s a b)⟩
/-- a net as it stands in the heap -/
structure NetH (A : Ad) (H : Hp) (N : NR) (S : NS) : Prop where
  x : H N.x = some (nI A N S)
  row : ∃ rv, H N.rl = some (.lst rv) ∧ TdA H rv (dLts S.row)
  hl : H N.hl = some (.lst (N.hr.map fun r => .ref r.x))
  len : N.hr.length = S.hands.length
  hd : ∀ (i : Nat) (r : HR) (s : HS), N.hr[i]? = some r → S.hands[i]? = some s → H r.x = some (hI A r s)
theorem NetH.of {A : Ad} {F0 H0 F H : Hp} {L : List (Addr × HO)} {N : NR} {S : NS} {rv : List V} (Z : Zs F0 H0 F H (nL A N S rv L)) (f : NFz F N S) (h : TdA F rv (dLts S.row)) : NetH A H N S where
  x := Z.get (i := 0) rfl
  row := ⟨rv, Z.get (i := 1) rfl, h.up Z.fh⟩
  hl := Z.fix f.hl
  len := f.len
  hd := fun i r s h1 h2 => ((Z.drop.drop).perm (hsL_out h1 h2)).get (i := 0) rfl
theorem NetH.up {A : Ad} {H H' : Hp} {N : NR} {S : NS} (h : NetH A H N S) (sm : Same H H') : NetH A H' N S where
  x := sm _ _ h.x
  row := let ⟨rv, a, b⟩ := h.row; ⟨rv, sm _ _ a, b.up sm⟩
  hl := sm _ _ h.hl
  len := h.len
  hd := fun i r s h1 h2 => sm _ _ (h.hd i r s h1 h2)
structure NetOk (K : PySem.W.Frag) (A : Ad) : Prop where
  cl : Cls K A.cNet
  asker : NoAttr K A.cNet "asker"
  hands : NoAttr K A.cNet "hands"
  row : NoAttr K A.cNet "row"
  sent : NoAttr K A.cNet "posted_so_far"
section
variable {K : PySem.W.Frag} {A : Ad} {σ : St} {F0 H0 F H : Hp} {L : List (Addr × HO)} {Q : VK} {N : NR} {S : NS} {P : St → Hp → Prop}
theorem fn_asker (O : NetOk K A) (e : H N.x = some (nI A N S)) (k : Q (.int S.asker) H) : FldQ K "asker" Q (.ref N.x) H := r_fldQ O.cl O.asker e rfl k
theorem fn_hands (O : NetOk K A) (e : H N.x = some (nI A N S)) (k : Q (.ref N.hl) H) : FldQ K "hands" Q (.ref N.x) H := r_fldQ O.cl O.hands e rfl k
theorem fn_row (O : NetOk K A) (e : H N.x = some (nI A N S)) (k : Q (.ref N.rl) H) : FldQ K "row" Q (.ref N.x) H := r_fldQ O.cl O.row e rfl k
theorem fn_sent (O : NetOk K A) (e : H N.x = some (nI A N S)) (k : Q (.int S.sent) H) : FldQ K "posted_so_far" Q (.ref N.x) H := r_fldQ O.cl O.sent e rfl k
theorem NetH.ix (h : NetH A H N S) {i : Nat} {r : HR} (hi : N.hr[i]? = some r) : (N.hr.map fun r => V.ref r.x)[i]? = some (.ref r.x) := by rw [List.getElem?_map, hi] <;> rfl
theorem NetH.at (h : NetH A H N S) {i : Nat} {s : HS} (hi : S.hands[i]? = some s) : ∃ r, N.hr[i]? = some r ∧ H r.x = some (hI A r s) := by
  have hl := (List.getElem?_eq_some_iff.mp hi).1
  have hl2 : i < N.hr.length := by rw [h.len]; exact hl
  exact ⟨N.hr[i], List.getElem?_eq_getElem hl2, h.hd i _ s (List.getElem?_eq_getElem hl2) hi⟩
end
end SB
/-! The words of letters, and letters as data. -/
namespace SB
open PySem L2
def Wd3 (w : Str) : Prop := w = "ask" ∨ w = "freed" ∨ w = "back"
theorem Wd3.ok {w : Str} (h : Wd3 w) : PyData.canLay0 (.str w) = true := by
  rcases h with rfl | rfl | rfl <;> decide +kernel
theorem lay_mem {α : Type} {f : α → PyData} : ∀ {l : List α}, (∀ a ∈ l, (f a).canLay0 = true) → PyData.canLayAll0 (l.map f) = true
  | [], _ => rfl
  | a :: l, h => by
    show ((f a).canLay0 && PyData.canLayAll0 (l.map f)) = true
    rw [h a List.mem_cons_self, lay_mem fun b hb => h b (List.mem_cons_of_mem _ hb)] <;> rfl
theorem shaped_mem {α : Type} {f : α → PyData} {n : Nat} (hn : n ≤ 60) {l : List α} (h : ∀ a ∈ l, (f a).canLay0 = true) (h2 : ∀ a, (f a).depth ≤ n) : SeqAt.shaped (.list (l.map f)) = true :=
  shaped_of (lay_mem h) (by have := dep_map h2 l; show PyData.depthAll (l.map f) + 1 ≤ 64; omega)
theorem dLt_lay {l : Lt} (h : Wd3 l.1) : (dLt l).canLay0 = true := by
  show (PyData.canLay0 (.str l.1) && (true && (true && true))) = true
  rw [h.ok] <;> rfl
theorem dLt_dep (l : Lt) : (dLt l).depth ≤ 1 := Nat.le_refl 1
theorem dLt_shaped {l : Lt} (h : Wd3 l.1) : SeqAt.shaped (dLt l) = true := shaped_of (dLt_lay h) (by have := dLt_dep l; omega)
theorem dLts_shaped {ls : List Lt} (h : ∀ l ∈ ls, Wd3 l.1) : SeqAt.shaped (.list (dLts ls)) = true := shaped_mem (n := 1) (by decide) (fun l hl => dLt_lay (h l hl)) dLt_dep
theorem posted_w {s : HS} {w : Str} {rs : List Int} (h : Wd3 w) : ∀ l ∈ (posted s w rs).2, Wd3 l.1 := by
  intro l hl
  unfold posted at hl
  obtain ⟨o, _, rfl⟩ := List.mem_map.mp hl
  exact h
theorem askedBy_w {s : HS} {j : Int} : ∀ l ∈ (askedBy s j).2, Wd3 l.1 := by
  intro l hl
  unfold askedBy at hl
  split at hl
  · exact posted_w (.inr (.inl rfl)) l hl
  · split at hl
    · cases hl
    · exact posted_w (.inl rfl) l hl
theorem toldBy_w {s : HS} {j : Int} : ∀ l ∈ (toldBy s j).2, Wd3 l.1 := by
  intro l hl
  unfold toldBy at hl
  split at hl
  · cases hl
  · exact posted_w (.inr (.inl rfl)) l hl
theorem begin_w {s : HS} : ∀ l ∈ (begin s).2, Wd3 l.1 := by
  intro l hl
  unfold begin at hl
  split at hl
  · cases hl
  · exact posted_w (.inl rfl) l hl
theorem woken_w {s : HS} {j : Int} : ∀ l ∈ (woken s j).2, Wd3 l.1 := by
  intro l hl
  unfold woken at hl
  split at hl
  · rw [List.mem_singleton.mp hl]
    exact .inr (.inr rfl)
  · cases hl
theorem settle_w {s : HS} : ∀ l ∈ (settle s).2, Wd3 l.1 := by
  intro l hl
  unfold settle at hl
  split at hl
  · split at hl
    · rw [List.mem_singleton.mp hl]
      exact .inr (.inr rfl)
    · cases hl
  · cases hl
theorem come1_w {s : HS} {w : Str} {j : Int} : ∀ l ∈ (come1 s w j).2, Wd3 l.1 := by
  intro l hl
  unfold come1 at hl
  split at hl
  · cases hl
  · simp only [List.mem_append] at hl
    rcases hl with hl | hl
    · exact woken_w l hl
    · split at hl
      · exact askedBy_w l hl
      · exact toldBy_w l hl
theorem come_w {s : HS} {w : Str} {j : Int} : ∀ l ∈ (come s w j).2, Wd3 l.1 := by
  intro l hl
  unfold come at hl
  simp only [List.mem_append] at hl
  rcases hl with hl | hl
  · exact come1_w l hl
  · exact settle_w l hl
/-- what no letter changes -/
structure Keep (s t : HS) : Prop where
  number : t.number = s.number
  word : t.word = s.word
  others : t.others = s.others
  first : t.first = s.first
theorem Keep.refl (s : HS) : Keep s s := ⟨rfl, rfl, rfl, rfl⟩
theorem Keep.trans {s t u : HS} (h : Keep s t) (k : Keep t u) : Keep s u := ⟨k.number.trans h.number, k.word.trans h.word, k.others.trans h.others, k.first.trans h.first⟩
theorem keep_begin {s : HS} : Keep s (begin s).1 := by
  unfold begin
  split <;> exact ⟨rfl, rfl, rfl, rfl⟩
theorem keep_askedBy {s : HS} {j : Int} : Keep s (askedBy s j).1 := by
  unfold askedBy
  split
  · exact ⟨rfl, rfl, rfl, rfl⟩
  · split <;> exact ⟨rfl, rfl, rfl, rfl⟩
theorem keep_toldBy {s : HS} {j : Int} : Keep s (toldBy s j).1 := by
  unfold toldBy
  split <;> exact ⟨rfl, rfl, rfl, rfl⟩
theorem keep_woken {s : HS} {j : Int} : Keep s (woken s j).1 := by
  unfold woken
  split <;> exact ⟨rfl, rfl, rfl, rfl⟩
theorem keep_settle {s : HS} : Keep s (settle s).1 := by
  unfold settle
  split
  · split <;> exact ⟨rfl, rfl, rfl, rfl⟩
  · exact Keep.refl _
theorem keep_come1 {s : HS} {w : Str} {j : Int} : Keep s (come1 s w j).1 := by
  unfold come1
  split
  · exact ⟨rfl, rfl, rfl, rfl⟩
  · simp only []
    split
    · exact keep_woken.trans keep_askedBy
    · exact keep_woken.trans keep_toldBy
theorem keep_come {s : HS} {w : Str} {j : Int} : Keep s (come s w j).1 := by
  unfold come
  exact keep_come1.trans keep_settle
end SB
/-! A net's methods that read. -/
namespace SB
open PySem L2
def pr_Net_letters (K : PySem.W.Frag) (A : Ad) : V → Hp → VK → XK → Prop := fun x H Q _ => ∃ (N : NR) (S : NS), x = .ref N.x ∧ NetH A H N S ∧ ∀ H' p vs, Zs H H H H' [(p, .lst vs)] → TdA H vs (dLts S.row) → H N.rl = some (.lst vs) → Q (.ref p) H'
abbrev sp_Net_letters (K : PySem.W.Frag) (A : Ad) : Sp := sp1 (pr_Net_letters K A)
def t_Net_letters (K : PySem.W.Frag) (A : Ad) : TS :=
    (tRet (tCB (qListOf K) (tCons (tFld K (tVar 0) "row") tNil)))
theorem rd_Net_letters {K : PySem.W.Frag} {A : Ad} (O : NetOk K A) {x : V} {H : Hp} {Q : VK} {E : XK} (h : pr_Net_letters K A x H Q E) : t_Net_letters K A { nx := fun _ H' => Q .non H', rt := Q } [some x] H := by
  obtain ⟨N, S, rfl, n, k⟩ := h
  obtain ⟨rv, h1, h2⟩ := n.row
  unfold t_Net_letters
  walk_at "rd"
  refine fn_row O n.x ?_
  walk_at "rd"
  refine r_listL (SqL.of h1) (Zs.start (Same.refl H)) ?_
  intro l H' Z
  exact k H' l rv Z h2 h1
def pr_Net_sent (K : PySem.W.Frag) (A : Ad) : V → Hp → VK → XK → Prop := fun x H Q _ => ∃ (N : NR) (S : NS), x = .ref N.x ∧ NetH A H N S ∧ Q (.int S.sent) H
abbrev sp_Net_sent (K : PySem.W.Frag) (A : Ad) : Sp := sp1 (pr_Net_sent K A)
def t_Net_sent (K : PySem.W.Frag) (A : Ad) : TS :=
    (tRet (tFld K (tVar 0) "posted_so_far"))
theorem rd_Net_sent {K : PySem.W.Frag} {A : Ad} (O : NetOk K A) {x : V} {H : Hp} {Q : VK} {E : XK} (h : pr_Net_sent K A x H Q E) : t_Net_sent K A { nx := fun _ H' => Q .non H', rt := Q } [some x] H := by
  obtain ⟨N, S, rfl, n, k⟩ := h
  unfold t_Net_sent
  walk_at "rd"
  exact fn_sent O n.x k
def pr_Net_hand (K : PySem.W.Frag) (A : Ad) : V → V → Hp → VK → XK → Prop := fun x y H Q _ => ∃ (N : NR) (S : NS) (i : Nat) (r : HR), x = .ref N.x ∧ y = .int (i : Int) ∧ NetH A H N S ∧ N.hr[i]? = some r ∧ Q (.ref r.x) H
abbrev sp_Net_hand (K : PySem.W.Frag) (A : Ad) : Sp := sp2 (pr_Net_hand K A)
def t_Net_hand (K : PySem.W.Frag) (A : Ad) : TS :=
    (tRet (tOp (rIxL K) (tFld K (tVar 0) "hands") (tCall (sp_need_hand K A) [] E0 (tCons (tCB (qLen K) (tCons (tFld K (tVar 0) "hands") tNil)) (tCons (tVar 1) tNil)))))
theorem rd_Net_hand {K : PySem.W.Frag} {A : Ad} (O : NetOk K A) {x y : V} {H : Hp} {Q : VK} {E : XK} (h : pr_Net_hand K A x y H Q E) : t_Net_hand K A { nx := fun _ H' => Q .non H', rt := Q } [some x, some y] H := by
  obtain ⟨N, S, i, r, rfl, rfl, n, hi, k⟩ := h
  have hl := (List.getElem?_eq_some_iff.mp hi).1
  unfold t_Net_hand
  walk_at "rd"
  refine fn_hands O n.x ?_
  walk_at "rd"
  refine fn_hands O n.x ?_
  walk_at "rd"
  refine r_lenL (SqL.of n.hl) ?_
  walk_at "rd"
  refine ⟨_, (i : Int), rfl, rfl, by omega, by rw [List.length_map]; omega, ?_⟩
  exact r_ixL (SqL.of n.hl) (atI_nat (n.ix hi)) k
def pr_Net_owed_by (K : PySem.W.Frag) (A : Ad) : V → V → Hp → VK → XK → Prop := fun x y H Q _ => ∃ (N : NR) (S : NS) (i : Nat) (s : HS), x = .ref N.x ∧ y = .int (i : Int) ∧ NetH A H N S ∧ S.hands[i]? = some s ∧ Q (.int s.owed) H
abbrev sp_Net_owed_by (K : PySem.W.Frag) (A : Ad) : Sp := sp2 (pr_Net_owed_by K A)
def t_Net_owed_by (K : PySem.W.Frag) (A : Ad) : TS :=
    (tRet (tFld K (tMeth A.cNet "hand" (sp_Net_hand K A) [] E0 (tVar 0) (tCons (tVar 1) tNil)) "owed"))
theorem rd_Net_owed_by {K : PySem.W.Frag} {A : Ad} (O : NetOk K A) (O2 : HandOk K A) {x y : V} {H : Hp} {Q : VK} {E : XK} (h : pr_Net_owed_by K A x y H Q E) : t_Net_owed_by K A { nx := fun _ H' => Q .non H', rt := Q } [some x, some y] H := by
  obtain ⟨N, S, i, s, rfl, rfl, n, hi, k⟩ := h
  obtain ⟨r, h1, h2⟩ := n.at hi
  unfold t_Net_owed_by
  walk_at "rd"
  refine r_methQ n.x rfl ?_
  walk_at "rd"
  refine ⟨N, S, i, r, rfl, rfl, n, h1, ?_⟩
  exact fl_owed O2 h2 k
def pr_Net_waker_of (K : PySem.W.Frag) (A : Ad) : V → V → Hp → VK → XK → Prop := fun x y H Q _ => ∃ (N : NR) (S : NS) (i : Nat) (s : HS), x = .ref N.x ∧ y = .int (i : Int) ∧ NetH A H N S ∧ S.hands[i]? = some s ∧ Q (kOf s.waker) H
abbrev sp_Net_waker_of (K : PySem.W.Frag) (A : Ad) : Sp := sp2 (pr_Net_waker_of K A)
def t_Net_waker_of (K : PySem.W.Frag) (A : Ad) : TS :=
    (tRet (tFld K (tMeth A.cNet "hand" (sp_Net_hand K A) [] E0 (tVar 0) (tCons (tVar 1) tNil)) "waker"))
theorem rd_Net_waker_of {K : PySem.W.Frag} {A : Ad} (O : NetOk K A) (O2 : HandOk K A) {x y : V} {H : Hp} {Q : VK} {E : XK} (h : pr_Net_waker_of K A x y H Q E) : t_Net_waker_of K A { nx := fun _ H' => Q .non H', rt := Q } [some x, some y] H := by
  obtain ⟨N, S, i, s, rfl, rfl, n, hi, k⟩ := h
  obtain ⟨r, h1, h2⟩ := n.at hi
  unfold t_Net_waker_of
  walk_at "rd"
  refine r_methQ n.x rfl ?_
  walk_at "rd"
  refine ⟨N, S, i, r, rfl, rfl, n, h1, ?_⟩
  exact fl_waker O2 h2 k
def pr_Net_freed_yet (K : PySem.W.Frag) (A : Ad) : V → V → Hp → VK → XK → Prop := fun x y H Q _ => ∃ (N : NR) (S : NS) (i : Nat) (s : HS), x = .ref N.x ∧ y = .int (i : Int) ∧ NetH A H N S ∧ S.hands[i]? = some s ∧ Q (.bl s.free) H
abbrev sp_Net_freed_yet (K : PySem.W.Frag) (A : Ad) : Sp := sp2 (pr_Net_freed_yet K A)
def t_Net_freed_yet (K : PySem.W.Frag) (A : Ad) : TS :=
    (tRet (tFld K (tMeth A.cNet "hand" (sp_Net_hand K A) [] E0 (tVar 0) (tCons (tVar 1) tNil)) "is_freed"))
theorem rd_Net_freed_yet {K : PySem.W.Frag} {A : Ad} (O : NetOk K A) (O2 : HandOk K A) {x y : V} {H : Hp} {Q : VK} {E : XK} (h : pr_Net_freed_yet K A x y H Q E) : t_Net_freed_yet K A { nx := fun _ H' => Q .non H', rt := Q } [some x, some y] H := by
  obtain ⟨N, S, i, s, rfl, rfl, n, hi, k⟩ := h
  obtain ⟨r, h1, h2⟩ := n.at hi
  unfold t_Net_freed_yet
  walk_at "rd"
  refine r_methQ n.x rfl ?_
  walk_at "rd"
  refine ⟨N, S, i, r, rfl, rfl, n, h1, ?_⟩
  exact fl_free O2 h2 k
/-- what the bell tells -/
def bellV (s : HS) : V := if 0 < s.owed then .non else .bl (!s.free)
def pr_Net_rung (K : PySem.W.Frag) (A : Ad) : V → Hp → VK → XK → Prop := fun x H Q _ => ∃ (N : NR) (S : NS) (i : Nat) (s : HS), x = .ref N.x ∧ NetH A H N S ∧ S.asker = (i : Int) ∧ S.hands[i]? = some s ∧ Q (bellV s) H
abbrev sp_Net_rung (K : PySem.W.Frag) (A : Ad) : Sp := sp1 (pr_Net_rung K A)
def t_Net_rung (K : PySem.W.Frag) (A : Ad) : TS :=
    (tSeq (tIfS (tTest (tOp qGt (tFld K (tOp (rIxL K) (tFld K (tVar 0) "hands") (tFld K (tVar 0) "asker")) "owed") (tC (.int 0))))
    (tRet (tC .non))
    tNext)
    (tRet (tNotV (tFld K (tOp (rIxL K) (tFld K (tVar 0) "hands") (tFld K (tVar 0) "asker")) "is_freed"))))
theorem rd_Net_rung {K : PySem.W.Frag} {A : Ad} (O : NetOk K A) (O2 : HandOk K A) {x : V} {H : Hp} {Q : VK} {E : XK} (h : pr_Net_rung K A x H Q E) : t_Net_rung K A { nx := fun _ H' => Q .non H', rt := Q } [some x] H := by
  obtain ⟨N, S, i, s, rfl, n, ha, hi, k⟩ := h
  obtain ⟨r, h1, h2⟩ := n.at hi
  unfold bellV at k
  unfold t_Net_rung
  walk_at "rd"
  refine fn_hands O n.x ?_
  walk_at "rd"
  refine fn_asker O n.x ?_
  rw [ha]
  refine r_ixL (SqL.of n.hl) (atI_nat (n.ix h1)) ?_
  refine fl_owed O2 h2 ?_
  walk_at "rd"
  refine ifd (fun e => ?_) (fun e => ?_)
  · walk_at "rd"
    rw [if_pos e] at k
    exact k
  · walk_at "rd"
    refine fn_hands O n.x ?_
    walk_at "rd"
    refine fn_asker O n.x ?_
    rw [ha]
    refine r_ixL (SqL.of n.hl) (atI_nat (n.ix h1)) ?_
    refine fl_free O2 h2 ?_
    walk_at "rd"
    rw [if_neg e] at k
    exact k
/-- who is shown -/
def shownTo (hs : List HS) (i : Nat) : List Int := ((List.range i).filter fun k => (hs[k]?).any fun s => s.has && !s.free).map fun (k : Nat) => (k : Int)
theorem shown_succ {hs : List HS} {i : Nat} {s : HS} (h : hs[i]? = some s) : shownTo hs (i + 1) = if (s.has && !s.free) = true then shownTo hs i ++ [(i : Int)] else shownTo hs i := by
  unfold shownTo
  rw [List.range_succ, List.filter_append, List.filter_cons, h]
  show List.map _ (_ ++ if (s.has && !s.free) = true then _ else _) = _
  split
  · rw [List.map_append] <;> rfl
  · rw [List.filter_nil, List.append_nil]
def pr_Net_shown (K : PySem.W.Frag) (A : Ad) : V → Hp → VK → XK → Prop := fun x H Q _ => ∃ (N : NR) (S : NS), x = .ref N.x ∧ NetH A H N S ∧ S.hands.length ≤ 1000 ∧ ∀ H' p, Zs H H H H' [(p, .lst ((shownTo S.hands S.hands.length).map V.int))] → Q (.ref p) H'
abbrev sp_Net_shown (K : PySem.W.Frag) (A : Ad) : Sp := sp1 (pr_Net_shown K A)
def t_Net_shown (K : PySem.W.Frag) (A : Ad) : TS :=
    (tRet (tLc (iEnum K (tCons (tFld K (tVar 0) "hands") tNil)) (gTup K 2 (gCons (gName 1) (gCons (gName 2) gNil))) (tAnd (tB (tFld K (tVar 2) "has_asked")) (tNot (tB (tFld K (tVar 2) "is_freed")))) (tVar 1) [1, 2]))
theorem rd_Net_shown {K : PySem.W.Frag} {A : Ad} (O : NetOk K A) (O2 : HandOk K A) {x : V} {H : Hp} {Q : VK} {E : XK} (h : pr_Net_shown K A x H Q E) : t_Net_shown K A { nx := fun _ H' => Q .non H', rt := Q } [some x, none, none] H := by
  obtain ⟨N, S, rfl, n, hn, k⟩ := h
  have hlen : (N.hr.map fun r => V.ref r.x).length = S.hands.length := by rw [List.length_map, n.len]
  unfold t_Net_shown
  walk_at "rd"
  refine fn_hands O n.x ?_
  walk_at "rd"
  refine lc_enm (SqL.of n.hl) (Zs.start (Same.refl H)) (fun i acc F' => acc = (shownTo S.hands i).map V.int) rfl (fun F' H' Z' sm => SqL.of (Z'.hh _ _ n.hl)) ?_ ?_
  · rintro i y T Dl F' H' acc hy Z' sm hacc rfl
    have hlt := (List.getElem?_eq_some_iff.mp hy).1
    rw [hlen] at hlt
    have hlt2 : i < N.hr.length := by rw [n.len]; exact hlt
    have es : S.hands[i]? = some S.hands[i] := List.getElem?_eq_getElem hlt
    have er : N.hr[i]? = some N.hr[i] := List.getElem?_eq_getElem hlt2
    rw [n.ix er] at hy
    cases hy
    refine r_gt2 (SqT.of (Z'.get (i := 0) rfl)) ?_
    replace Z' := Z'.drop
    have eh := Z'.hh _ _ (n.hd i _ _ er es)
    dsimp only [wipe, List.set_cons_succ, List.set_cons_zero, List.foldl_cons, List.foldl_nil]
    refine ⟨rfl, ?_⟩
    walk_at "rd"
    refine fl_has O2 eh ?_
    walk_at "rd"
    refine ifb (fun e => ?_) (fun e => ?_)
    · walk_at "rd"
      refine fl_free O2 eh ?_
      walk_at "rd"
      refine ifnb (fun e2 => ?_) (fun e2 => ?_)
      · walk_at "rd"
        refine cy Z' sm hacc (by omega) ?_
        rw [shown_succ es, if_pos (by rw [show S.hands[i].has = true from e, show S.hands[i].free = false from e2]; rfl), List.map_append] <;> rfl
      · refine cn Z' sm hacc ?_
        rw [shown_succ es, if_neg (by rw [show S.hands[i].has = true from e, show S.hands[i].free = true from e2]; decide)]
    · refine ifF rfl ?_
      refine cn Z' sm hacc ?_
      rw [shown_succ es, if_neg (by rw [show S.hands[i].has = false from e, Bool.false_and]; decide)]
  · rintro Dl F' H' acc Z' sm rfl
    rw [hlen] at Z'
    exact k H' Dl (Z'.weak (Same.refl _) sm)
end SB
/-! A hand's methods: posted, asking, begin, asked_by, told_by. -/
namespace SB
open PySem L2
def pr_Hand_posted (K : PySem.W.Frag) (A : Ad) : V → V → V → Hp → VK → XK → Prop := fun x w b H Q _ => ∃ (F0 H0 F : Hp) (L : List (Addr × HO)) (r : HR) (s : HS) (wo : Str) (rs : List Int) (pb : Addr), x = .ref r.x ∧ w = .str wo ∧ b = .ref pb ∧ Zs F0 H0 F H (hL A r s L) ∧
  (F pb = some (.lst (rs.map V.int)) ∨ (pb = r.a ∧ rs = s.askers)) ∧ rs.length ≤ 50000 ∧ PostH A F0 H0 F L r (posted s wo rs) Q
abbrev sp_Hand_posted (K : PySem.W.Frag) (A : Ad) : Sp := sp3 (pr_Hand_posted K A)
def t_Hand_posted (K : PySem.W.Frag) (A : Ad) : TS :=
    (tSeq (sFld K (tVar 0) (tOp qAdd (tFld K (tVar 0) "owed") (tCB (qLen K) (tCons (tVar 2) tNil))) "owed")
    (tRet (tLc (iList K (tVar 2)) (gName 3) tYes (tTup (tCons (tVar 1) (tCons (tFld K (tVar 0) "number") (tCons (tVar 3) tNil)))) [3])))
theorem hL_src {K : PySem.W.Frag} {A : Ad} {F0 H0 F F' H' : Hp} {L : List (Addr × HO)} {r : HR} {s s' : HS} {rs : List Int} {pb : Addr} (h : F pb = some (.lst (rs.map V.int)) ∨ (pb = r.a ∧ rs = s.askers)) (Z : Zs F0 H0 F' H' (hL A r s' L)) (e : s'.askers = s.askers) (sm : Same F F') : SqL K H' pb (rs.map V.int) := by
  rcases h with h | ⟨rfl, rfl⟩
  · exact SqL.of (Z.fix (sm _ _ h))
  · have := Z.get (i := 1) rfl
    rw [e] at this
    exact SqL.of this
theorem rd_Hand_posted {K : PySem.W.Frag} {A : Ad} (O : HandOk K A) {x w b : V} {H : Hp} {Q : VK} {E : XK} (h : pr_Hand_posted K A x w b H Q E) : t_Hand_posted K A { nx := fun _ H' => Q .non H', rt := Q } [some x, some w, some b, none] H := by
  obtain ⟨F0, H0, F, L, r, s, wo, rs, pb, rfl, rfl, rfl, Z, hb, hn, k⟩ := h
  unfold t_Hand_posted
  walk_at "rd"
  refine fl_owed O (Z.get (i := 0) rfl) ?_
  walk_at "rd"
  refine r_lenL (hL_src hb Z rfl (Same.refl _)) ?_
  rw [List.length_map]
  walk_at "rd"
  refine sf_owed O Z ?_
  intro H1 Z
  walk_at "rd"
  refine lc_lst (hL_src hb Z rfl (Same.refl _)) Z (fun i acc F' => TdA F' acc ((dLts (posted s wo rs).2).take i)) (by rw [List.take_zero]; exact .nil) (fun F' H' Z' sm => hL_src hb Z' rfl sm) ?_ ?_
  · intro i y Dl F' H' acc hi Z' sm hacc p
    obtain ⟨n, hn1, rfl⟩ := of_get_ints hi
    walk_at "rd"
    refine ⟨rfl, ?_⟩
    refine r_yes (ifT rfl ?_)
    walk_at "rd"
    refine fl_number O (Z'.get (i := 1) rfl) ?_
    walk_at "rd"
    refine r_mk sz3 Z' ?_
    intro p0 H2 Z2
    obtain ⟨F3, Z3, s3, e3⟩ := Z2.frzAt 0 rfl
    have hlt := (List.getElem?_eq_some_iff.mp hn1).1
    refine cy Z3 (sm.trans s3) hacc (by omega) ?_
    have ed : (dLts (posted s wo rs).2)[i]? = some (dLt (wo, s.number, n)) := by
      unfold dLts posted
      rw [List.getElem?_map, List.getElem?_map, hn1] <;> rfl
    rw [take_snoc ed]
    exact (p.up s3).snoc (Td.mk_lt e3)
  · intro Dl F' H' acc Z' sm p
    refine k F' H' Dl acc Z' sm ?_
    rw [List.length_map] at p
    have e : (dLts (posted s wo rs).2).length = rs.length := by unfold dLts posted; rw [List.length_map, List.length_map]
    rw [← e, List.take_length] at p
    exact p
/-- what a hand's methods lean on -/
structure HsF (F : Hp) (r : HR) (s : HS) : Prop where
  o : F r.o = some (.lst (s.others.map V.int))
  no : s.others.length ≤ 10000
  na : s.askers.length ≤ 10000
  nt : s.told.length ≤ 10000
theorem HsF.up {F F' : Hp} {r : HR} {s : HS} (h : HsF F r s) (sm : Same F F') : HsF F' r s := ⟨sm _ _ h.o, h.no, h.na, h.nt⟩
def pr_Hand_asking (K : PySem.W.Frag) (A : Ad) : V → Hp → VK → XK → Prop := fun x H Q _ => ∃ (F0 H0 F : Hp) (L : List (Addr × HO)) (r : HR) (s : HS), x = .ref r.x ∧ Zs F0 H0 F H (hL A r s L) ∧ F r.o = some (.lst (s.others.map V.int)) ∧ s.others.length ≤ 10000 ∧ PostH A F0 H0 F L r (asking s) Q
abbrev sp_Hand_asking (K : PySem.W.Frag) (A : Ad) : Sp := sp1 (pr_Hand_asking K A)
def t_Hand_asking (K : PySem.W.Frag) (A : Ad) : TS :=
    (tSeq (sFld K (tVar 0) (tC (.bl true)) "has_asked")
    (tRet (tMeth A.cHand "posted" (sp_Hand_posted K A) [] E0 (tVar 0) (tCons (tC (.str "ask")) (tCons (tFld K (tVar 0) "others") tNil)))))
theorem rd_Hand_asking {K : PySem.W.Frag} {A : Ad} (O : HandOk K A) {x : V} {H : Hp} {Q : VK} {E : XK} (h : pr_Hand_asking K A x H Q E) : t_Hand_asking K A { nx := fun _ H' => Q .non H', rt := Q } [some x] H := by
  obtain ⟨F0, H0, F, L, r, s, rfl, Z, ho, hn, k⟩ := h
  unfold t_Hand_asking
  walk_at "rd"
  refine sf_has O Z ?_
  intro H1 Z
  walk_at "rd"
  refine r_methQ (Z.get (i := 0) rfl) rfl ?_
  walk_at "rd"
  refine fl_others O (Z.get (i := 0) rfl) ?_
  walk_at "rd"
  exact ⟨F0, H0, F, L, r, { s with has := true }, "ask", s.others, r.o, rfl, rfl, rfl, Z, .inl ho, by omega, k⟩
def pr_Hand_begin (K : PySem.W.Frag) (A : Ad) : V → Hp → VK → XK → Prop := fun x H Q _ => ∃ (F0 H0 F : Hp) (L : List (Addr × HO)) (r : HR) (s : HS), x = .ref r.x ∧ Zs F0 H0 F H (hL A r s L) ∧ F r.o = some (.lst (s.others.map V.int)) ∧ s.others.length ≤ 10000 ∧ PostH A F0 H0 F L r (begin s) Q
abbrev sp_Hand_begin (K : PySem.W.Frag) (A : Ad) : Sp := sp1 (pr_Hand_begin K A)
def t_Hand_begin (K : PySem.W.Frag) (A : Ad) : TS :=
    (tSeq (tIfS (tB (tFld K (tVar 0) "is_freed"))
    (tRet (tLst tNil))
    tNext)
    (tRet (tMeth A.cHand "asking" (sp_Hand_asking K A) [] E0 (tVar 0) tNil)))
theorem rd_Hand_begin {K : PySem.W.Frag} {A : Ad} (O : HandOk K A) {x : V} {H : Hp} {Q : VK} {E : XK} (h : pr_Hand_begin K A x H Q E) : t_Hand_begin K A { nx := fun _ H' => Q .non H', rt := Q } [some x] H := by
  obtain ⟨F0, H0, F, L, r, s, rfl, Z, ho, hn, k⟩ := h
  unfold t_Hand_begin
  walk_at "rd"
  refine fl_free O (Z.get (i := 0) rfl) ?_
  walk_at "rd"
  refine ifb (fun e => ?_) (fun e => ?_)
  · walk_at "rd"
    refine r_mk sz0 Z ?_
    intro p H1 Z1
    refine k F H1 p [] ?_ (Same.refl _) ?_
    · unfold begin
      rw [if_pos e]
      exact Z1
    · unfold begin
      rw [if_pos e]
      exact .nil
  · walk_at "rd"
    refine r_methQ (Z.get (i := 0) rfl) rfl ?_
    walk_at "rd"
    refine ⟨F0, H0, F, L, r, s, rfl, Z, ho, hn, ?_⟩
    have e2 : begin s = asking s := by unfold begin; rw [if_neg (by rw [e]; decide)]
    rw [← e2]
    exact k
def pr_Hand_asked_by (K : PySem.W.Frag) (A : Ad) : V → V → Hp → VK → XK → Prop := fun x y H Q _ => ∃ (F0 H0 F : Hp) (L : List (Addr × HO)) (r : HR) (s : HS) (j : Int), x = .ref r.x ∧ y = .int j ∧ Zs F0 H0 F H (hL A r s L) ∧ HsF F r s ∧ PostH A F0 H0 F L r (askedBy s j) Q
abbrev sp_Hand_asked_by (K : PySem.W.Frag) (A : Ad) : Sp := sp2 (pr_Hand_asked_by K A)
def t_Hand_asked_by (K : PySem.W.Frag) (A : Ad) : TS :=
    (tSeq (tIfS (tB (tFld K (tVar 0) "is_freed"))
    (tRet (tMeth A.cHand "posted" (sp_Hand_posted K A) [] E0 (tVar 0) (tCons (tC (.str "freed")) (tCons (tLst (tCons (tVar 1) tNil)) tNil))))
    tNext)
    (tSeq (tDrop (tBM K "list" rAppend (tFld K (tVar 0) "askers") (tCons (tVar 1) tNil)))
    (tSeq (tIfS (tB (tFld K (tVar 0) "has_asked"))
    (tRet (tLst tNil))
    tNext)
    (tRet (tMeth A.cHand "asking" (sp_Hand_asking K A) [] E0 (tVar 0) tNil)))))
theorem rd_Hand_asked_by {K : PySem.W.Frag} {A : Ad} (O : HandOk K A) {x y : V} {H : Hp} {Q : VK} {E : XK} (h : pr_Hand_asked_by K A x y H Q E) : t_Hand_asked_by K A { nx := fun _ H' => Q .non H', rt := Q } [some x, some y] H := by
  obtain ⟨F0, H0, F, L, r, s, j, rfl, rfl, Z, hs, k⟩ := h
  unfold t_Hand_asked_by
  walk_at "rd"
  refine fl_free O (Z.get (i := 0) rfl) ?_
  walk_at "rd"
  refine ifb (fun e => ?_) (fun e => ?_)
  · walk_at "rd"
    refine r_methQ (Z.get (i := 0) rfl) rfl ?_
    walk_at "rd"
    refine r_mk sz1 Z ?_
    intro p H1 Z1
    obtain ⟨F2, Z2, s2, e2⟩ := Z1.frzAt 0 rfl
    walk_at "rd"
    refine ⟨F0, H0, F2, L, r, s, "freed", [j], p, rfl, rfl, rfl, Z2, .inl e2, by show 1 ≤ 50000; decide, ?_⟩
    have e3 : askedBy s j = posted s "freed" [j] := by unfold askedBy; rw [if_pos e]
    rw [← e3]
    exact fun F' H' l vs Z' sm hd => k F' H' l vs Z' (s2.trans sm) hd
  · walk_at "rd"
    refine fl_askers O (Z.get (i := 0) rfl) ?_
    refine ⟨ty_l (SqL.of (Z.get (i := 1) rfl)), ?_⟩
    walk_at "rd"
    refine r_append 1 Z rfl (by rw [List.length_map]; have := hs.na; omega) ?_
    intro H1 Z
    have Z : Zs F0 H0 F H1 (hL A r { s with askers := s.askers ++ [j] } L) := by
      have q := Z
      simp only [List.set_cons_succ, List.set_cons_zero] at q
      show Zs F0 H0 F H1 ((r.x, hI A r s) :: (r.a, .lst ((s.askers ++ [j]).map V.int)) :: (r.t, .lst (s.told.map V.int)) :: L)
      rw [List.map_append]
      exact q
    walk_at "rd"
    refine fl_has O (Z.get (i := 0) rfl) ?_
    walk_at "rd"
    refine ifb (fun e2 => ?_) (fun e2 => ?_)
    · walk_at "rd"
      refine r_mk sz0 Z ?_
      intro p H1 Z1
      have e3 : askedBy s j = ({ s with askers := s.askers ++ [j] }, []) := by unfold askedBy; rw [if_neg (by rw [e]; decide), if_pos e2]
      rw [e3] at k
      exact k F H1 p [] Z1 (Same.refl _) .nil
    · walk_at "rd"
      refine r_methQ (Z.get (i := 0) rfl) rfl ?_
      walk_at "rd"
      refine ⟨F0, H0, F, L, r, { s with askers := s.askers ++ [j] }, rfl, Z, hs.o, hs.no, ?_⟩
      have e3 : askedBy s j = asking { s with askers := s.askers ++ [j] } := by
        unfold askedBy
        rw [if_neg (by rw [e]; decide), if_neg (by rw [show s.has = false from e2]; decide)]
      rw [← e3]
      exact k
theorem w_all (b : Option Bool) : wOf b = .str "all" ↔ b = some false := by
  rcases b with _ | _ | _ <;> constructor <;> intro q <;> first | rfl | cases q
theorem rEq_all {H : Hp} {Q : VK} {w : Option Bool} (k : Q (.bl (decide (w = some false))) H) : rEq (wOf w) (.str "all") H Q := by
  rcases w with _ | _ | _
  · exact ⟨rfl, k⟩
  · exact r_eqS k
  · exact r_eqS k
def pr_Hand_told_by (K : PySem.W.Frag) (A : Ad) : V → V → Hp → VK → XK → Prop := fun x y H Q _ => ∃ (F0 H0 F : Hp) (L : List (Addr × HO)) (r : HR) (s : HS) (j : Int), x = .ref r.x ∧ y = .int j ∧ Zs F0 H0 F H (hL A r s L) ∧ HsF F r s ∧ PostH A F0 H0 F L r (toldBy s j) Q
abbrev sp_Hand_told_by (K : PySem.W.Frag) (A : Ad) : Sp := sp2 (pr_Hand_told_by K A)
def t_Hand_told_by (K : PySem.W.Frag) (A : Ad) : TS :=
    (tSeq (tDrop (tBM K "list" rAppend (tFld K (tVar 0) "told_so") (tCons (tVar 1) tNil)))
    (tSeq (tIfS (tOr (tB (tFld K (tVar 0) "is_freed")) (tAnd (tTest (tOp rEq (tFld K (tVar 0) "word") (tC (.str "all")))) (tTest (tOp qLt (tCB (qLen K) (tCons (tFld K (tVar 0) "told_so") tNil)) (tCB (qLen K) (tCons (tFld K (tVar 0) "others") tNil))))))
    (tRet (tLst tNil))
    tNext)
    (tSeq (sFld K (tVar 0) (tC (.bl true)) "is_freed")
    (tRet (tMeth A.cHand "posted" (sp_Hand_posted K A) [] E0 (tVar 0) (tCons (tC (.str "freed")) (tCons (tFld K (tVar 0) "askers") tNil)))))))
theorem rd_Hand_told_by {K : PySem.W.Frag} {A : Ad} (O : HandOk K A) {x y : V} {H : Hp} {Q : VK} {E : XK} (h : pr_Hand_told_by K A x y H Q E) : t_Hand_told_by K A { nx := fun _ H' => Q .non H', rt := Q } [some x, some y] H := by
  obtain ⟨F0, H0, F, L, r, s, j, rfl, rfl, Z, hs, k⟩ := h
  unfold t_Hand_told_by
  walk_at "rd"
  refine fl_told O (Z.get (i := 0) rfl) ?_
  refine ⟨ty_l (SqL.of (Z.get (i := 2) rfl)), ?_⟩
  walk_at "rd"
  refine r_append 2 Z rfl (by rw [List.length_map]; have := hs.nt; omega) ?_
  intro H1 Z
  have Z : Zs F0 H0 F H1 (hL A r { s with told := s.told ++ [j] } L) := by
    have q := Z
    simp only [List.set_cons_succ, List.set_cons_zero] at q
    show Zs F0 H0 F H1 ((r.x, hI A r s) :: (r.a, .lst (s.askers.map V.int)) :: (r.t, .lst ((s.told ++ [j]).map V.int)) :: L)
    rw [List.map_append]
    exact q
  have hyes : (s.free || (decide (s.word = some false) && decide (s.told.length + 1 < s.others.length))) = true → tIfS tYes (tRet (tLst tNil)) tNext { nx := fun _ _ => False, rt := Q } [] H1 := fun e => by
    refine r_ifS (r_yes (ifT rfl (r_ret (r_lst (r_nil ?_)))))
    refine r_mk sz0 Z ?_
    intro p H2 Z2
    have e3 : toldBy s j = ({ s with told := s.told ++ [j] }, []) := by unfold toldBy; rw [if_pos e]
    rw [e3] at k
    exact k F H2 p [] Z2 (Same.refl _) .nil
  have hno : ∀ σ : St, σ[0]? = some (some (V.ref r.x)) → (s.free || (decide (s.word = some false) && decide (s.told.length + 1 < s.others.length))) = false → tSeq (sFld K (tVar 0) (tC (.bl true)) "is_freed") (tRet (tMeth A.cHand "posted" (sp_Hand_posted K A) [] E0 (tVar 0) (tCons (tC (.str "freed")) (tCons (tFld K (tVar 0) "askers") tNil)))) { nx := fun _ H' => Q .non H', rt := Q } σ H1 := fun σ h0 e => by
    refine r_seq (r_sfld (r_c (r_var h0 ?_)))
    refine sf_free O Z ?_
    intro H2 Z
    refine r_ret (r_meth (r_var h0 ?_))
    refine r_methQ (Z.get (i := 0) rfl) rfl ?_
    refine r_cons (r_c (r_cons (r_fld (r_var h0 ?_))))
    refine fl_askers O (Z.get (i := 0) rfl) ?_
    refine r_nil (r_sp3m ?_)
    refine ⟨F0, H0, F, L, r, { s with told := s.told ++ [j], free := true }, "freed", s.askers, r.a, rfl, rfl, rfl, Z, .inr ⟨rfl, rfl⟩, by have := hs.na; omega, ?_⟩
    have e3 : toldBy s j = posted { s with told := s.told ++ [j], free := true } "freed" s.askers := by unfold toldBy; rw [if_neg (by rw [e]; decide)]
    rw [← e3]
    exact k
  walk_at "rd"
  refine fl_free O (Z.get (i := 0) rfl) ?_
  walk_at "rd"
  refine ifb (fun e => ?_) (fun e => ?_)
  · refine ifT rfl ?_
    exact hyes (by rw [show s.free = true from e]; rfl)
  · walk_at "rd"
    refine fl_word O (Z.get (i := 0) rfl) ?_
    walk_at "rd"
    refine rEq_all ?_
    walk_at "rd"
    refine ifd (fun e2 => ?_) (fun e2 => ?_)
    · walk_at "rd"
      refine fl_told O (Z.get (i := 0) rfl) ?_
      walk_at "rd"
      refine r_lenL (SqL.of (Z.get (i := 2) rfl)) ?_
      walk_at "rd"
      refine fl_others O (Z.get (i := 0) rfl) ?_
      walk_at "rd"
      refine r_lenL (SqL.of (Z.fix hs.o)) ?_
      walk_at "rd"
      rw [List.length_map, List.length_map, List.length_append, List.length_singleton]
      refine ifd (fun e3 => ?_) (fun e3 => ?_)
      · exact hyes (by rw [show s.free = false from e, decide_eq_true (show s.word = some false from e2), decide_eq_true (show s.told.length + 1 < s.others.length by omega)]; rfl)
      · refine r_next ?_
        exact hno [some (.ref r.x), some (.int j)] rfl (by rw [show s.free = false from e, decide_eq_false (show ¬ s.told.length + 1 < s.others.length by omega), Bool.and_false]; rfl)
    · refine ifF rfl ?_
      refine r_next ?_
      exact hno [some (.ref r.x), some (.int j)] rfl (by rw [show s.free = false from e, decide_eq_false (show ¬ s.word = some false from e2)]; rfl)
end SB
/-! Hand.come. -/
namespace SB
open PySem L2
theorem hL_in {A : Ad} {F0 H0 F H : Hp} {L : List (Addr × HO)} {r : HR} {s : HS} {q : Addr × HO} (Z : Zs F0 H0 F H (q :: hL A r s L)) : Zs F0 H0 F H (hL A r s (q :: L)) :=
  Z.perm ((List.Perm.swap _ _ _).trans ((List.Perm.cons _ (List.Perm.swap _ _ _)).trans (List.Perm.cons _ (List.Perm.cons _ (List.Perm.swap _ _ _)))))
theorem hL_out {A : Ad} {F0 H0 F H : Hp} {L : List (Addr × HO)} {r : HR} {s : HS} {q : Addr × HO} (Z : Zs F0 H0 F H (hL A r s (q :: L))) : Zs F0 H0 F H (q :: hL A r s L) :=
  Z.perm (((List.Perm.swap _ _ _).trans ((List.Perm.cons _ (List.Perm.swap _ _ _)).trans (List.Perm.cons _ (List.Perm.cons _ (List.Perm.swap _ _ _))))).symm)
theorem len_dLts (ls : List Lt) : (dLts ls).length = ls.length := by unfold dLts; rw [List.length_map]
theorem len_posted {s : HS} {w : Str} {rs : List Int} : (posted s w rs).2.length = rs.length := by unfold posted; rw [List.length_map]
theorem len_askedBy {F : Hp} {r : HR} {s : HS} {j : Int} (h : HsF F r s) : (askedBy s j).2.length ≤ 10000 := by
  have := h.no
  unfold askedBy
  split
  · rw [len_posted]; show 1 ≤ 10000; decide
  · split
    · exact Nat.zero_le _
    · unfold asking; rw [len_posted]; exact this
theorem len_toldBy {F : Hp} {r : HR} {s : HS} {j : Int} (h : HsF F r s) : (toldBy s j).2.length ≤ 10000 := by
  have := h.na
  unfold toldBy
  split
  · exact Nat.zero_le _
  · rw [len_posted]; exact this
theorem dec_kOf (k : Option Int) : decide (kOf k = .non) = !k.isSome := by cases k <;> rfl
theorem HsF.waker {F : Hp} {r : HR} {s : HS} (h : HsF F r s) (k : Option Int) : HsF F r { s with waker := k } := ⟨h.o, h.no, h.na, h.nt⟩
def pr_Hand_come (K : PySem.W.Frag) (A : Ad) : V → V → Hp → VK → XK → Prop := fun x y H Q _ => ∃ (F0 H0 F : Hp) (L : List (Addr × HO)) (r : HR) (s : HS) (w : Str) (j me : Int) (p : Addr), x = .ref r.x ∧ y = .ref p ∧ F p = some (.tup [.str w, .int j, .int me]) ∧ Zs F0 H0 F H (hL A r s L) ∧ HsF F r s ∧ PostH A F0 H0 F L r (come s w j) Q
abbrev sp_Hand_come (K : PySem.W.Frag) (A : Ad) : Sp := sp2 (pr_Hand_come K A)
def t_Hand_come (K : PySem.W.Frag) (A : Ad) : TS :=
    (tSeq (tAsg (tVar 1) (gTup K 3 (gCons (gName 2) (gCons (gName 3) (gCons (gName 4) gNil)))))
    (tSeq (tAsg (tLst tNil) (gName 5))
    (Evl.tCut (tIfS (tTest (tOp rEq (tVar 2) (tC (.str "back"))))
    (sFld K (tVar 0) (tOp qSub (tFld K (tVar 0) "owed") (tC (.int 1))) "owed")
    (Evl.tCut (tIfS (tOr (tB (tFld K (tVar 0) "is_asker")) (tTest (tOp qNotN (tFld K (tVar 0) "waker") (tC .non))))
    (tDrop (tBM K "list" rAppend (tVar 5) (tCons (tTup (tCons (tC (.str "back")) (tCons (tFld K (tVar 0) "number") (tCons (tVar 3) tNil)))) tNil)))
    (sFld K (tVar 0) (tVar 3) "waker"))
    (tIfS (tTest (tOp rEq (tVar 2) (tC (.str "ask"))))
    (tDrop (tBM K "list" rExtend (tVar 5) (tCons (tMeth A.cHand "asked_by" (sp_Hand_asked_by K A) [] E0 (tVar 0) (tCons (tVar 3) tNil)) tNil)))
    (tDrop (tBM K "list" rExtend (tVar 5) (tCons (tMeth A.cHand "told_by" (sp_Hand_told_by K A) [] E0 (tVar 0) (tCons (tVar 3) tNil)) tNil))))))
    (Evl.tCut (tIfS (tAnd (tTest (tOp rEq (tFld K (tVar 0) "owed") (tC (.int 0)))) (tTest (tOp qNotN (tFld K (tVar 0) "waker") (tC .non))))
    (tSeq (tDrop (tBM K "list" rAppend (tVar 5) (tCons (tTup (tCons (tC (.str "back")) (tCons (tFld K (tVar 0) "number") (tCons (tFld K (tVar 0) "waker") tNil)))) tNil)))
    (sFld K (tVar 0) (tC .non) "waker"))
    tNext)
    (tRet (tVar 5))))))
/-- what stands in the midst of come -/
def CmW (A : Ad) (F0 H0 F : Hp) (L : List (Addr × HO)) (r : HR) (pf : Addr) (p : HS × List Lt) (H' : Hp) : Prop := ∃ F' vs, Zs F0 H0 F' H' (hL A r p.1 ((pf, .lst vs) :: L)) ∧ Same F F' ∧ TdA F' vs (dLts p.2)
theorem rd_Hand_come {K : PySem.W.Frag} {A : Ad} (O : HandOk K A) {x y : V} {H : Hp} {Q : VK} {E : XK} (h : pr_Hand_come K A x y H Q E) : t_Hand_come K A { nx := fun _ H' => Q .non H', rt := Q } [some x, some y, none, none, none, none] H := by
  obtain ⟨F0, H0, F, L, r, s, w, j, me, p, rfl, rfl, hp, Z, hs, k⟩ := h
  unfold t_Hand_come
  walk_at "rd"
  refine r_gt3 (SqT.of (Z.fix hp)) ?_
  walk_at "rd"
  refine r_mk sz0 Z ?_
  intro pf H1 Z
  replace Z := hL_in Z
  walk_at "rd"
  refine r_cut (fun σ' H' => σ' = [some (.ref r.x), some (.ref p), some (.str w), some (.int j), some (.int me), some (.ref pf)] ∧ CmW A F0 H0 F L r pf (come1 s w j) H') ?_ ?_
  · walk_at "rd"
    refine ifd (fun ew => ?_) (fun ew => ?_)
    · walk_at "rd"
      refine fl_owed O (Z.get (i := 0) rfl) ?_
      walk_at "rd"
      refine sf_owed O Z ?_
      intro H2 Z2
      refine ⟨rfl, F, [], ?_, Same.refl _, ?_⟩
      · have e : come1 s w j = ({ s with owed := s.owed - 1 }, []) := by unfold come1; rw [if_pos ew]
        rw [e]
        exact Z2
      · have e : come1 s w j = ({ s with owed := s.owed - 1 }, []) := by unfold come1; rw [if_pos ew]
        rw [e]
        exact .nil
    · refine r_cut (fun σ' H' => σ' = [some (.ref r.x), some (.ref p), some (.str w), some (.int j), some (.int me), some (.ref pf)] ∧ CmW A F0 H0 F L r pf (woken s j) H') ?_ ?_
      · walk_at "rd"
        refine fl_first O (Z.get (i := 0) rfl) ?_
        walk_at "rd"
        have hyes : ∀ (σ : St), σ = [some (V.ref r.x), some (.ref p), some (.str w), some (.int j), some (.int me), some (.ref pf)] → (s.first || s.waker.isSome) = true → tDrop (tBM K "list" rAppend (tVar 5) (tCons (tTup (tCons (tC (.str "back")) (tCons (tFld K (tVar 0) "number") (tCons (tVar 3) tNil)))) tNil)) { nx := fun σ' H' => σ' = [some (V.ref r.x), some (.ref p), some (.str w), some (.int j), some (.int me), some (.ref pf)] ∧ CmW A F0 H0 F L r pf (woken s j) H', rt := Q } σ H1 := fun σ e0 e => by
          subst e0
          walk_at "rd"
          refine ⟨ty_l (SqL.of (Z.get (i := 3) rfl)), ?_⟩
          walk_at "rd"
          refine fl_number O (Z.get (i := 0) rfl) ?_
          walk_at "rd"
          refine r_mk sz3 Z ?_
          intro p2 H2 Z2
          obtain ⟨F3, Z3, s3, e3⟩ := Z2.frzAt 0 rfl
          replace Z3 : Zs F0 H0 F3 H2 (hL A r s ((pf, .lst []) :: L)) := Z3
          walk_at "rd"
          refine r_append 3 Z3 rfl (by show 0 < 100000; decide) ?_
          intro H3 Z4
          have e4 : woken s j = (s, [(("back" : Str), s.number, j)]) := by unfold woken; rw [if_pos e]
          refine ⟨rfl, F3, [.ref p2], ?_, s3, ?_⟩
          · rw [e4]
            exact Z4
          · rw [e4]
            exact .cons (Td.mk_lt e3) .nil
        refine ifb (fun e => ?_) (fun e => ?_)
        · refine ifT rfl ?_
          exact hyes _ rfl (by rw [show s.first = true from e]; rfl)
        · walk_at "rd"
          refine fl_waker O (Z.get (i := 0) rfl) ?_
          walk_at "rd"
          rw [dec_kOf, Bool.not_not]
          refine ifb (fun e2 => ?_) (fun e2 => ?_)
          · exact hyes _ rfl (by rw [show s.waker.isSome = true from e2, Bool.or_true])
          · walk_at "rd"
            refine sf_waker O Z ?_
            intro H2 Z2
            have e4 : woken s j = ({ s with waker := some j }, []) := by unfold woken; rw [if_neg (by rw [show s.first = false from e, show s.waker.isSome = false from e2]; decide)]
            refine ⟨rfl, F, [], ?_, Same.refl _, ?_⟩
            · rw [e4]
              exact Z2
            · rw [e4]
              exact .nil
      · rintro σ' H' ⟨rfl, F2, vs, Z2, s2, hd⟩
        have hs2 : HsF F2 r (woken s j).1 := by
          unfold woken
          split
          · exact hs.up s2
          · exact (hs.up s2).waker _
        have hw : (woken s j).2.length ≤ 1 := by
          unfold woken
          split
          · exact Nat.le_refl 1
          · exact Nat.zero_le 1
        walk_at "rd"
        refine ifd (fun ea => ?_) (fun ea => ?_)
        · walk_at "rd"
          refine ⟨ty_l (SqL.of (Z2.get (i := 3) rfl)), ?_⟩
          walk_at "rd"
          refine r_methQ (Z2.get (i := 0) rfl) rfl ?_
          walk_at "rd"
          refine ⟨F0, H0, F2, (pf, .lst vs) :: L, r, (woken s j).1, j, rfl, rfl, Z2, hs2, ?_⟩
          intro F3 H3 l ws Z3 s3 hd3
          walk_at "rd"
          refine r_extend 4 Z3 rfl (Z3.get (i := 0) rfl) ?_ ?_
          · have h1 := hd.len
            have h2 := hd3.len
            have h3 := len_askedBy (j := j) hs2
            rw [len_dLts] at h1 h2
            omega
          · intro H4 Z4
            have e : come1 s w j = ((askedBy (woken s j).1 j).1, (woken s j).2 ++ (askedBy (woken s j).1 j).2) := by
              unfold come1
              rw [if_neg ew]
              simp only [if_pos ea]
            refine ⟨rfl, F3, vs ++ ws, ?_, s2.trans s3, ?_⟩
            · rw [e]
              exact Z4.drop
            · rw [e]
              show TdA F3 (vs ++ ws) (dLts ((woken s j).2 ++ (askedBy (woken s j).1 j).2))
              unfold dLts
              rw [List.map_append]
              exact (hd.up s3).append hd3
        · walk_at "rd"
          refine ⟨ty_l (SqL.of (Z2.get (i := 3) rfl)), ?_⟩
          walk_at "rd"
          refine r_methQ (Z2.get (i := 0) rfl) rfl ?_
          walk_at "rd"
          refine ⟨F0, H0, F2, (pf, .lst vs) :: L, r, (woken s j).1, j, rfl, rfl, Z2, hs2, ?_⟩
          intro F3 H3 l ws Z3 s3 hd3
          walk_at "rd"
          refine r_extend 4 Z3 rfl (Z3.get (i := 0) rfl) ?_ ?_
          · have h1 := hd.len
            have h2 := hd3.len
            have h3 := len_toldBy (j := j) hs2
            rw [len_dLts] at h1 h2
            omega
          · intro H4 Z4
            have e : come1 s w j = ((toldBy (woken s j).1 j).1, (woken s j).2 ++ (toldBy (woken s j).1 j).2) := by
              unfold come1
              rw [if_neg ew]
              simp only [if_neg ea]
            refine ⟨rfl, F3, vs ++ ws, ?_, s2.trans s3, ?_⟩
            · rw [e]
              exact Z4.drop
            · rw [e]
              show TdA F3 (vs ++ ws) (dLts ((woken s j).2 ++ (toldBy (woken s j).1 j).2))
              unfold dLts
              rw [List.map_append]
              exact (hd.up s3).append hd3
  · rintro σ' H' ⟨rfl, F2, vs, Z2, s2, hd⟩
    have hlen : (come1 s w j).2.length ≤ 20000 := by
      have hw : (woken s j).2.length ≤ 1 := by
        unfold woken
        split
        · exact Nat.le_refl 1
        · exact Nat.zero_le 1
      have hs2 : HsF F r (woken s j).1 := by
        unfold woken
        split
        · exact hs
        · exact hs.waker _
      have h1 := len_askedBy (j := j) hs2
      have h2 := len_toldBy (j := j) hs2
      unfold come1
      split
      · exact Nat.zero_le _
      · simp only []
        split
        · rw [List.length_append]; omega
        · rw [List.length_append]; omega
    have hstop : settle (come1 s w j).1 = ((come1 s w j).1, []) → Q (.ref pf) H' := fun e => by
      have e2 : come s w j = come1 s w j := by
        unfold come
        simp only [e, List.append_nil]
      rw [e2] at k
      exact k F2 H' pf vs (hL_out Z2) s2 hd
    refine r_cut (fun σ' H' => σ' = [some (.ref r.x), some (.ref p), some (.str w), some (.int j), some (.int me), some (.ref pf)] ∧ Q (.ref pf) H') ?_ ?_
    · walk_at "rd"
      refine fl_owed O (Z2.get (i := 0) rfl) ?_
      walk_at "rd"
      refine ifd (fun e0 => ?_) (fun e0 => ?_)
      · walk_at "rd"
        refine fl_waker O (Z2.get (i := 0) rfl) ?_
        walk_at "rd"
        rw [dec_kOf, Bool.not_not]
        refine ifb (fun e2 => ?_) (fun e2 => ?_)
        · obtain ⟨kk, ek⟩ := Option.isSome_iff_exists.mp e2
          walk_at "rd"
          refine ⟨ty_l (SqL.of (Z2.get (i := 3) rfl)), ?_⟩
          walk_at "rd"
          refine fl_number O (Z2.get (i := 0) rfl) ?_
          walk_at "rd"
          refine fl_waker O (Z2.get (i := 0) rfl) ?_
          rw [ek]
          walk_at "rd"
          refine r_mk sz3 Z2 ?_
          intro p2 H2 Z3
          obtain ⟨F3, Z3, s3, e3⟩ := Z3.frzAt 0 rfl
          replace Z3 : Zs F0 H0 F3 H2 (hL A r (come1 s w j).1 ((pf, .lst vs) :: L)) := Z3
          walk_at "rd"
          refine r_append 3 Z3 rfl (by have := hd.len; rw [len_dLts] at this; omega) ?_
          intro H3 Z4
          walk_at "rd"
          refine sf_wakerN O (s := (come1 s w j).1) (L := (pf, .lst (vs ++ [.ref p2])) :: L) Z4 ?_
          intro H5 Z5
          refine ⟨rfl, ?_⟩
          have e5 : come s w j = ({ (come1 s w j).1 with waker := none }, (come1 s w j).2 ++ [(("back" : Str), (come1 s w j).1.number, kk)]) := by
            unfold come settle
            simp only [ek, if_pos e0]
          rw [e5] at k
          refine k F3 H5 pf _ (hL_out Z5) (s2.trans s3) ?_
          show TdA F3 (vs ++ [.ref p2]) (dLts ((come1 s w j).2 ++ [(("back" : Str), (come1 s w j).1.number, kk)]))
          unfold dLts
          rw [List.map_append]
          exact (hd.up s3).append (.cons (Td.mk_lt e3) .nil)
        · walk_at "rd"
          refine ⟨rfl, hstop ?_⟩
          unfold settle
          have e3 : (come1 s w j).1.waker = none := Option.isSome_eq_false_iff.mp e2 |> Option.isNone_iff_eq_none.mp
          rw [e3]
      · refine ifF rfl ?_
        walk_at "rd"
        refine ⟨rfl, hstop ?_⟩
        unfold settle
        split
        · rw [if_neg e0]
        · rfl
    · rintro σ2 H2 ⟨rfl, q⟩
      walk_at "rd"
      exact q
end SB
/-! Net.bring of a place that is one. -/
namespace SB
open PySem L2
structure NBd (S : NS) : Prop where
  hands : ∀ s ∈ S.hands, s.others.length ≤ 10000 ∧ s.askers.length ≤ 10000 ∧ s.told.length ≤ 10000
  row : S.row.length ≤ 50000
/-- what bring makes of the state, what it tells -/
def bringS (S : NS) (p : Nat) (l : Lt) (s : HS) : NS := { S with hands := S.hands.set l.2.2.toNat (come s l.1 l.2.1).1, row := S.row.eraseIdx p ++ (come s l.1 l.2.1).2, sent := S.sent + ((come s l.1 l.2.1).2.length : Int) }
theorem dLts_app (a b : List Lt) : dLts (a ++ b) = dLts a ++ dLts b := by unfold dLts; rw [List.map_append]
theorem len_comeN {s : HS} {w : Str} {j : Int} {F : Hp} {r : HR} (h : HsF F r s) : (come s w j).2.length ≤ 20010 := by
  have hw : (woken s j).2.length ≤ 1 := by
    unfold woken
    split
    · exact Nat.le_refl 1
    · exact Nat.zero_le 1
  have hs2 : HsF F r (woken s j).1 := by
    unfold woken
    split
    · exact h
    · exact h.waker _
  have h1 := len_askedBy (j := j) hs2
  have h2 := len_toldBy (j := j) hs2
  have h3 : (come1 s w j).2.length ≤ 20001 := by
    unfold come1
    split
    · exact Nat.zero_le _
    · simp only []
      split
      · rw [List.length_append]; omega
      · rw [List.length_append]; omega
  have h4 : ∀ t : HS, (settle t).2.length ≤ 1 := fun t => by
    unfold settle
    split
    · split
      · exact Nat.le_refl 1
      · exact Nat.zero_le 1
    · exact Nat.zero_le 1
  have h5 := h4 (come1 s w j).1
  unfold come
  simp only []
  rw [List.length_append]
  omega
def pr_Net_bring (K : PySem.W.Frag) (A : Ad) : V → V → Hp → VK → XK → Prop := fun x y H Q _ => ∃ (F0 H0 F : Hp) (L : List (Addr × HO)) (N : NR) (S : NS) (rv : List V) (p : Nat) (l : Lt) (i : Nat) (s : HS), x = .ref N.x ∧ y = .int (p : Int) ∧ Zs F0 H0 F H (nL A N S rv L) ∧ NFz F N S ∧ TdA F rv (dLts S.row) ∧ NBd S ∧ S.row[p]? = some l ∧ l.2.2 = (i : Int) ∧ S.hands[i]? = some s ∧
  ∀ F' H' q vs rv', Zs F0 H0 F' H' ((q, .lst vs) :: nL A N (bringS S p l s) rv' L) → Same F F' → NFz F' N (bringS S p l s) → TdA F' rv' (dLts (bringS S p l s).row) → TdA F' vs (dLts (come s l.1 l.2.1).2) → Q (.ref q) H'
abbrev sp_Net_bring (K : PySem.W.Frag) (A : Ad) : Sp := sp2 (pr_Net_bring K A)
def t_Net_bring (K : PySem.W.Frag) (A : Ad) : TS :=
    (tSeq (tIfS (tNot (tB (tCall (sp_is_hand K A) [] E0 (tCons (tVar 1) (tCons (tCB (qLen K) (tCons (tFld K (tVar 0) "row") tNil)) tNil)))))
    tNever
    tNext)
    (tSeq (tAsg (tBM K "list" rPopAt (tFld K (tVar 0) "row") (tCons (tVar 1) tNil)) (gName 2))
    (tSeq (tAsg (tMeth A.cHand "come" (sp_Hand_come K A) [] E0 (tOp (rIxL K) (tFld K (tVar 0) "hands") (tOp (rIxT K) (tVar 2) (tC (.int 2)))) (tCons (tVar 2) tNil)) (gName 3))
    (tSeq (tDrop (tBM K "list" rExtend (tFld K (tVar 0) "row") (tCons (tVar 3) tNil)))
    (tSeq (sFld K (tVar 0) (tOp qAdd (tFld K (tVar 0) "posted_so_far") (tCB (qLen K) (tCons (tVar 3) tNil))) "posted_so_far")
    (tRet (tCB (qListOf K) (tCons (tVar 3) tNil))))))))
theorem rd_Net_bring {K : PySem.W.Frag} {A : Ad} (O : NetOk K A) (O2 : HandOk K A) {x y : V} {H : Hp} {Q : VK} {E : XK} (h : pr_Net_bring K A x y H Q E) : t_Net_bring K A { nx := fun _ H' => Q .non H', rt := Q } [some x, some y, none, none] H := by
  obtain ⟨F0, H0, F, L, N, S, rv, p, l, i, s, rfl, rfl, Z, f, hr, b, hl, li, hs, k⟩ := h
  have hplt := (List.getElem?_eq_some_iff.mp hl).1
  have hrl := hr.len
  rw [len_dLts] at hrl
  have hilt := (List.getElem?_eq_some_iff.mp hs).1
  have hilt2 : i < N.hr.length := by rw [f.len]; exact hilt
  have er : N.hr[i]? = some N.hr[i] := List.getElem?_eq_getElem hilt2
  generalize N.hr[i] = r at er
  unfold t_Net_bring
  walk_at "rd"
  refine fn_row O (Z.get (i := 0) rfl) ?_
  walk_at "rd"
  refine r_lenL (SqL.of (Z.get (i := 1) rfl)) ?_
  walk_at "rd"
  refine ⟨.int (p : Int), (rv.length : Int), .int _, rfl, ?_⟩
  have ei : handD (.int (p : Int)) (rv.length : Int) = true := by
    show (decide (0 ≤ (p : Int)) && decide ((p : Int) < (rv.length : Int))) = true
    rw [decide_eq_true (by omega), decide_eq_true (by omega)] <;> rfl
  rw [ei]
  walk_at "rd"
  refine ifF rfl ?_
  walk_at "rd"
  refine fn_row O (Z.get (i := 0) rfl) ?_
  refine ⟨ty_l (SqL.of (Z.get (i := 1) rfl)), ?_⟩
  walk_at "rd"
  have hdl : (dLts S.row)[p]? = some (dLt l) := by unfold dLts; rw [List.getElem?_map, hl] <;> rfl
  obtain ⟨y, hy, hy2⟩ := hr.get hdl
  obtain ⟨pl, rfl, hpl⟩ := hy2.inv_lt
  have hbr := b.row
  refine r_popAt 1 (j := p) Z rfl rfl (by omega) hy ?_
  intro H1 Z1
  replace Z1 : Zs F0 H0 F H1 (nL A N S (rv.eraseIdx p) L) := Z1
  walk_at "rd"
  refine fn_hands O (Z1.get (i := 0) rfl) ?_
  walk_at "rd"
  refine r_ixT (SqT.of (Z1.fix hpl)) (at_i (by decide) rfl) ?_
  rw [li]
  have hix : (N.hr.map fun r => V.ref r.x)[i]? = some (.ref r.x) := by rw [List.getElem?_map, er] <;> rfl
  refine r_ixL (SqL.of (Z1.fix f.hl)) (atI_nat hix) ?_
  have Z2 : Zs F0 H0 F H1 (hL A r s ((N.x, nI A N S) :: (N.rl, .lst (rv.eraseIdx p)) :: hsL A (N.hr.eraseIdx i) (S.hands.eraseIdx i) L)) :=
    Z1.perm ((List.Perm.cons _ (List.Perm.cons _ (hsL_out er hs))).trans (List.perm_append_comm_assoc [(N.x, nI A N S), (N.rl, HO.lst (rv.eraseIdx p))] (hL A r s []) _))
  refine r_methQ (Z2.get (i := 0) rfl) rfl ?_
  walk_at "rd"
  have hb := b.hands s (List.mem_of_getElem? hs)
  have hf : HsF F r s := ⟨f.oth i r s er hs, hb.1, hb.2.1, hb.2.2⟩
  refine ⟨F0, H0, F, _, r, s, l.1, l.2.1, l.2.2, pl, rfl, rfl, hpl, Z2, hf, ?_⟩
  have hcl := len_comeN (w := l.1) (j := l.2.1) hf
  intro F3 H3 q vs Z3 s3 hv
  have Z4 : Zs F0 H0 F3 H3 ((q, .lst vs) :: (N.x, nI A N S) :: (N.rl, .lst (rv.eraseIdx p)) :: hsL A N.hr (S.hands.set i (come s l.1 l.2.1).1) L) := by
    refine Z3.perm (List.Perm.cons _ ?_)
    refine (List.perm_append_comm_assoc (hL A r (come s l.1 l.2.1).1 []) [(N.x, nI A N S), (N.rl, HO.lst (rv.eraseIdx p))] _).trans ?_
    exact List.Perm.cons _ (List.Perm.cons _ (hsL_in er hs))
  walk_at "rd"
  refine fn_row O (Z4.get (i := 1) rfl) ?_
  refine ⟨ty_l (SqL.of (Z4.get (i := 2) rfl)), ?_⟩
  walk_at "rd"
  have hvl := hv.len
  rw [len_dLts] at hvl
  refine r_extend 2 Z4 rfl (Z4.get (i := 0) rfl) (by rw [List.length_eraseIdx_of_lt (by omega)]; omega) ?_
  intro H5 Z5
  walk_at "rd"
  refine fn_sent O (Z5.get (i := 1) rfl) ?_
  walk_at "rd"
  refine r_lenL (SqL.of (Z5.get (i := 0) rfl)) ?_
  walk_at "rd"
  refine r_sfldQ O.cl O.sent 1 Z5 rfl (by show 4 < 1000; decide) ?_
  intro H6 Z6
  have e1 : (bringS S p l s).hands = S.hands.set i (come s l.1 l.2.1).1 := by
    show S.hands.set l.2.2.toNat _ = _
    rw [li, Int.toNat_natCast]
  replace Z6 : Zs F0 H0 F3 H6 ((q, .lst vs) :: (N.x, nI A N (bringS S p l s)) :: (N.rl, .lst (rv.eraseIdx p ++ vs)) :: hsL A N.hr (S.hands.set i (come s l.1 l.2.1).1) L) := by
    have e2 : nI A N (bringS S p l s) = .ins A.cNet N.dx (putF "posted_so_far" (.int (S.sent + (vs.length : Int))) (nf S N.hl N.rl)) := by
      rw [hvl]
      rfl
    rw [e2]
    exact Z6
  rw [← e1] at Z6
  walk_at "rd"
  refine r_listL (SqL.of (Z6.get (i := 0) rfl)) Z6 ?_
  intro q2 H7 Z7
  refine k F3 H7 q2 vs (rv.eraseIdx p ++ vs) (Z7.dropAt 1) s3 ?_ ?_ hv
  · refine ⟨s3 _ _ f.hl, ?_, ?_⟩
    · rw [e1, List.length_set]; exact f.len
    · intro j r2 s2 h1 h2
      rw [e1, List.getElem?_set] at h2
      split at h2
      · rename_i e
        subst e
        cases h2
        rw [er] at h1
        cases h1
        rw [keep_come.others]
        exact s3 _ _ (f.oth i r s er hs)
      · exact s3 _ _ (f.oth j r2 s2 h1 h2)
  · show TdA F3 (rv.eraseIdx p ++ vs) (dLts (S.row.eraseIdx p ++ (come s l.1 l.2.1).2))
    rw [dLts_app]
    refine TdA.append ?_ hv
    have e3 : dLts (S.row.eraseIdx p) = (dLts S.row).eraseIdx p := by
      unfold dLts
      exact map_eraseIdx dLt _ _
    rw [e3]
    exact (hr.up s3).erase p
end SB
/-! Hand.__init__. -/
namespace SB
open PySem L2
def mkH (n : Int) (wt : Wt) (f : Bool) : HS := { number := n, word := wt.map (·.1), others := (wt.map (·.2)).getD [], first := f, free := wt.isNone, has := false, askers := [], told := [], owed := 0, waker := none }
/-- what a wait handed to a hand is -/
def WtIn (F : Hp) (L : List (Addr × HO)) (w : V) (wt : Wt) : Prop := (wt = none ∧ w = .non) ∨ ∃ b os p l, wt = some (b, os) ∧ w = .ref p ∧ F p = some (.tup [.str (wd b), .ref l]) ∧ (F l = some (.lst (os.map V.int)) ∨ (l, HO.lst (os.map V.int)) ∈ L)
def pr_Hand_init (K : PySem.W.Frag) (A : Ad) : V → V → V → V → Hp → VK → XK → Prop := fun x n w f H Q _ => ∃ (F0 H0 F : Hp) (L : List (Addr × HO)) (xa dx : Addr) (num : Int) (wt : Wt) (first : Bool), x = .ref xa ∧ n = .int num ∧ f = .bl first ∧ WtIn F L w wt ∧ Zs F0 H0 F H ((xa, .ins A.cHand dx []) :: L) ∧
  ∀ F' H' r, Zs F0 H0 F' H' (hL A r (mkH num wt first) L) → Same F F' → r.x = xa → F' r.o = some (.lst ((mkH num wt first).others.map V.int)) → Q .non H'
abbrev sp_Hand_init (K : PySem.W.Frag) (A : Ad) : Sp := sp4 (pr_Hand_init K A)
def t_Hand_init (K : PySem.W.Frag) (A : Ad) : TS :=
    (tSeq (sFld K (tVar 0) (tVar 1) "number")
    (tSeq (sFld K (tVar 0) (tC .non) "word")
    (tSeq (sFld K (tVar 0) (tLst tNil) "others")
    (Evl.tCut (tIfS (tTest (tOp qNotN (tVar 2) (tC .non)))
    (tSeq (sFld K (tVar 0) (tOp (rIxT K) (tVar 2) (tC (.int 0))) "word")
    (sFld K (tVar 0) (tCB (qListOf K) (tCons (tOp (rIxT K) (tVar 2) (tC (.int 1))) tNil)) "others"))
    tNext)
    (tSeq (sFld K (tVar 0) (tVar 3) "is_asker")
    (tSeq (sFld K (tVar 0) (tOp qIsN (tVar 2) (tC .non)) "is_freed")
    (tSeq (sFld K (tVar 0) (tC (.bl false)) "has_asked")
    (tSeq (sFld K (tVar 0) (tLst tNil) "askers")
    (tSeq (sFld K (tVar 0) (tLst tNil) "told_so")
    (tSeq (sFld K (tVar 0) (tC (.int 0)) "owed")
    (sFld K (tVar 0) (tC .non) "waker")))))))))))
theorem rd_Hand_init {K : PySem.W.Frag} {A : Ad} (O : HandOk K A) {x n w f : V} {H : Hp} {Q : VK} {E : XK} (h : pr_Hand_init K A x n w f H Q E) : t_Hand_init K A { nx := fun _ H' => Q .non H', rt := Q } [some x, some n, some w, some f] H := by
  obtain ⟨F0, H0, F, L, xa, dx, num, wt, first, rfl, rfl, rfl, hw, Z, k⟩ := h
  unfold t_Hand_init
  walk_at "rd"
  refine r_sfldQ O.cl O.number 0 Z rfl (by show 0 < 1000; decide) ?_
  intro H1 Z
  replace Z : Zs F0 H0 F H1 ((xa, .ins A.cHand dx [("number", .int num)]) :: L) := Z
  walk_at "rd"
  refine r_sfldQ O.cl O.word 0 Z rfl (by show 1 < 1000; decide) ?_
  intro H1 Z
  replace Z : Zs F0 H0 F H1 ((xa, .ins A.cHand dx [("number", .int num), ("word", .non)]) :: L) := Z
  walk_at "rd"
  refine r_mk sz0 Z ?_
  intro o1 H1 Z
  obtain ⟨F1, Z, s1, e1⟩ := Z.frzAt 0 rfl
  replace Z : Zs F0 H0 F1 H1 ((xa, .ins A.cHand dx [("number", .int num), ("word", .non)]) :: L) := Z
  walk_at "rd"
  refine r_sfldQ O.cl O.others 0 Z rfl (by show 2 < 1000; decide) ?_
  intro H1 Z
  replace Z : Zs F0 H0 F1 H1 ((xa, .ins A.cHand dx [("number", .int num), ("word", .non), ("others", .ref o1)]) :: L) := Z
  walk_at "rd"
  refine r_cut (fun σ' H' => σ' = [some (.ref xa), some (.int num), some w, some (.bl first)] ∧ ∃ F' o, Zs F0 H0 F' H' ((xa, .ins A.cHand dx [("number", .int num), ("word", wOf (wt.map (·.1))), ("others", .ref o)]) :: L) ∧ Same F F' ∧ F' o = some (.lst ((mkH num wt first).others.map V.int))) ?_ ?_
  · walk_at "rd"
    rcases hw with ⟨rfl, rfl⟩ | ⟨b, os, p, l, rfl, rfl, hp, hl⟩
    · refine ifF rfl ?_
      walk_at "rd"
      exact ⟨rfl, F1, o1, Z, s1, e1⟩
    · refine ifT rfl ?_
      walk_at "rd"
      refine r_ixT (SqT.of (Z.fix (s1 _ _ hp))) (at_i (by decide) rfl) ?_
      walk_at "rd"
      refine r_sfldQ O.cl O.word 0 Z rfl (by show 3 < 1000; decide) ?_
      intro H2 Z
      replace Z : Zs F0 H0 F1 H2 ((xa, .ins A.cHand dx [("number", .int num), ("word", .str (wd b)), ("others", .ref o1)]) :: L) := Z
      walk_at "rd"
      refine r_ixT (SqT.of (Z.fix (s1 _ _ hp))) (at_i (by decide) rfl) ?_
      walk_at "rd"
      refine r_listL (ys := os.map V.int) ?_ Z ?_
      · rcases hl with hl | hl
        · exact SqL.of (Z.fix (s1 _ _ hl))
        · exact SqL.of (Z.led _ (List.mem_cons_of_mem _ hl)).1
      intro o2 H3 Z
      obtain ⟨F2, Z, s2, e2⟩ := Z.frzAt 0 rfl
      replace Z : Zs F0 H0 F2 H3 ((xa, .ins A.cHand dx [("number", .int num), ("word", .str (wd b)), ("others", .ref o1)]) :: L) := Z
      walk_at "rd"
      refine r_sfldQ O.cl O.others 0 Z rfl (by show 3 < 1000; decide) ?_
      intro H4 Z
      replace Z : Zs F0 H0 F2 H4 ((xa, .ins A.cHand dx [("number", .int num), ("word", .str (wd b)), ("others", .ref o2)]) :: L) := Z
      exact ⟨rfl, F2, o2, Z, s1.trans s2, e2⟩
  · rintro σ' H2 ⟨rfl, F2, o, Z, s2, e2⟩
    have hn : decide (w = .non) = wt.isNone := by
      rcases hw with ⟨rfl, rfl⟩ | ⟨b, os, p, l, rfl, rfl, hp, hl⟩
      · rfl
      · rfl
    walk_at "rd"
    refine r_sfldQ O.cl O.first 0 Z rfl (by show 3 < 1000; decide) ?_
    intro H1 Z
    replace Z : Zs F0 H0 F2 H1 ((xa, .ins A.cHand dx [("number", .int num), ("word", wOf (wt.map (·.1))), ("others", .ref o), ("is_asker", .bl first)]) :: L) := Z
    walk_at "rd"
    rw [hn]
    refine r_sfldQ O.cl O.free 0 Z rfl (by show 4 < 1000; decide) ?_
    intro H1 Z
    replace Z : Zs F0 H0 F2 H1 ((xa, .ins A.cHand dx [("number", .int num), ("word", wOf (wt.map (·.1))), ("others", .ref o), ("is_asker", .bl first), ("is_freed", .bl wt.isNone)]) :: L) := Z
    walk_at "rd"
    refine r_sfldQ O.cl O.has 0 Z rfl (by show 5 < 1000; decide) ?_
    intro H1 Z
    replace Z : Zs F0 H0 F2 H1 ((xa, .ins A.cHand dx [("number", .int num), ("word", wOf (wt.map (·.1))), ("others", .ref o), ("is_asker", .bl first), ("is_freed", .bl wt.isNone), ("has_asked", .bl false)]) :: L) := Z
    walk_at "rd"
    refine r_mk sz0 Z ?_
    intro a H1 Z
    walk_at "rd"
    refine r_sfldQ O.cl O.askers 1 Z rfl (by show 6 < 1000; decide) ?_
    intro H1 Z
    replace Z : Zs F0 H0 F2 H1 ((a, .lst []) :: (xa, .ins A.cHand dx [("number", .int num), ("word", wOf (wt.map (·.1))), ("others", .ref o), ("is_asker", .bl first), ("is_freed", .bl wt.isNone), ("has_asked", .bl false), ("askers", .ref a)]) :: L) := Z
    walk_at "rd"
    refine r_mk sz0 Z ?_
    intro t H1 Z
    walk_at "rd"
    refine r_sfldQ O.cl O.told 2 Z rfl (by show 7 < 1000; decide) ?_
    intro H1 Z
    replace Z : Zs F0 H0 F2 H1 ((t, .lst []) :: (a, .lst []) :: (xa, .ins A.cHand dx [("number", .int num), ("word", wOf (wt.map (·.1))), ("others", .ref o), ("is_asker", .bl first), ("is_freed", .bl wt.isNone), ("has_asked", .bl false), ("askers", .ref a), ("told_so", .ref t)]) :: L) := Z
    walk_at "rd"
    refine r_sfldQ O.cl O.owed 2 Z rfl (by show 8 < 1000; decide) ?_
    intro H1 Z
    replace Z : Zs F0 H0 F2 H1 ((t, .lst []) :: (a, .lst []) :: (xa, .ins A.cHand dx [("number", .int num), ("word", wOf (wt.map (·.1))), ("others", .ref o), ("is_asker", .bl first), ("is_freed", .bl wt.isNone), ("has_asked", .bl false), ("askers", .ref a), ("told_so", .ref t), ("owed", .int 0)]) :: L) := Z
    walk_at "rd"
    refine r_sfldQ O.cl O.waker 2 Z rfl (by show 9 < 1000; decide) ?_
    intro H1 Z
    have Z1 : Zs F0 H0 F2 H1 ((t, .lst []) :: (a, .lst []) :: (xa, hI A ⟨xa, dx, o, a, t⟩ (mkH num wt first)) :: L) := Z
    refine k F2 H1 ⟨xa, dx, o, a, t⟩ (Z1.perm ?_) s2 rfl e2
    exact ((List.Perm.cons _ (List.Perm.swap _ _ _)).trans (List.Perm.swap _ _ _)).trans (List.Perm.cons _ (List.Perm.swap _ _ _))
end SB
namespace SB
open PySem L2
/-! ### the program: is_wait of any data -/
def WaitP (d : PyData) (m : Nat) : Prop := ∃ w : Wt, d = dW w ∧ okW m w
noncomputable def waitD (d : PyData) (m : Nat) : Bool := @decide (WaitP d m) (Classical.propDecidable _)
theorem waitD_t {d : PyData} {m : Nat} (h : WaitP d m) : waitD d m = true := @decide_eq_true _ (Classical.propDecidable _) h
theorem waitD_f {d : PyData} {m : Nat} (h : ¬ WaitP d m) : waitD d m = false := @decide_eq_false _ (Classical.propDecidable _) h
def pr_is_wait (K : PySem.W.Frag) (A : Ad) : V → V → Hp → VK → XK → Prop := fun a b H Q _ => ∃ d m, Td H a d ∧ SeqAt.shaped d = true ∧ b = .int (m : Nat) ∧ ∀ H', Same H H' → Q (.bl (waitD d m)) H'
abbrev sp_is_wait (K : PySem.W.Frag) (A : Ad) : Sp := sp2 (pr_is_wait K A)
/-- what the top has laid: the words -/
def WordsOk (K : PySem.W.Frag) (A : Ad) : Prop := ∀ H, SqT K H A.words [.str "all", .str "any"]
def t_is_wait (K : PySem.W.Frag) (A : Ad) : TS :=
    (tSeq (tIfS (tTest (tOp qIsN (tVar 0) (tC .non)))
    (tRet (tC (.bl true)))
    tNext)
    (tSeq (tIfS (tOr (tNot (tB (tCB (rIsi K) (tCons (tVar 0) (tCons (tC (.ty "tuple")) tNil))))) (tOr (tTest (tOp rNe (tCB (qLen K) (tCons (tVar 0) tNil)) (tC (.int 2)))) (tOr (tNot (tB (tCB (rIsi K) (tCons (tOp (rIxT K) (tVar 0) (tC (.int 0))) (tCons (tC (.ty "str")) tNil))))) (tTest (tOp (rIn K true) (tOp (rIxT K) (tVar 0) (tC (.int 0))) (tC (.ref A.words)))))))
    (tRet (tC (.bl false)))
    tNext)
    (tSeq (tIfS (tOr (tNot (tB (tCB (rIsi K) (tCons (tOp (rIxT K) (tVar 0) (tC (.int 1))) (tCons (tC (.ty "list")) tNil))))) (tTest (tOp (rEqD K) (tOp (rIxT K) (tVar 0) (tC (.int 1))) (tLst tNil))))
    (tRet (tC (.bl false)))
    tNext)
    (tSeq (tFor (iEnum K (tCons (tOp (rIxT K) (tVar 0) (tC (.int 1))) tNil)) (gTup K 2 (gCons (gName 2) (gCons (gName 3) gNil)))
    (tIfS (tOr (tNot (tB (tCall (sp_is_hand K A) [] E0 (tCons (tVar 3) (tCons (tVar 1) tNil))))) (tTest (tOp (rIn K false) (tVar 3) (tSl (rSlL K) (tOp (rIxT K) (tVar 0) (tC (.int 1))) tNoPart (tPart (tVar 2))))))
    (tRet (tC (.bl false)))
    tNext))
    (tRet (tC (.bl true)))))))
theorem tup_inj2 {a b c d : PyData} (h : PyData.tuple [a, b] = .tuple [c, d]) : a = c ∧ b = d := by
  injection h with h
  injection h with h1 h2
  injection h2 with h2 _
  exact ⟨h1, h2⟩
theorem wd_inj {b c : Bool} (h : wd b = wd c) : b = c := by
  cases b <;> cases c <;> first | rfl | exact absurd h (by decide +kernel)
theorem words_in (x : Str) : inV (.str x) [.str "all", .str "any"] = true ↔ ∃ b, x = wd b := by
  unfold inV
  rw [List.any_cons, List.any_cons, List.any_nil, Bool.or_false]
  show (((("all" : Str) == x) || (("any" : Str) == x)) = true) ↔ _
  rw [Bool.or_eq_true, beq_iff_eq, beq_iff_eq]
  constructor
  · rintro (e | e)
    · exact ⟨false, e.symm⟩
    · exact ⟨true, e.symm⟩
  · rintro ⟨b, rfl⟩
    cases b
    · exact .inl rfl
    · exact .inr rfl
theorem rd_is_wait {K : PySem.W.Frag} {A : Ad} (W : WordsOk K A) {a b : V} {H : Hp} {Q : VK} {E : XK} (h : pr_is_wait K A a b H Q E) : t_is_wait K A { nx := fun _ H' => Q .non H', rt := Q } [some a, some b, none, none] H := by
  obtain ⟨d, m, hd, hsh, rfl, q⟩ := h
  have no : ¬ WaitP d m → ∀ H', Same H H' → Q (.bl false) H' := fun n H' s => by
    rw [← waitD_f n]; exact q H' s
  have yes : WaitP d m → ∀ H', Same H H' → Q (.bl true) H' := fun n H' s => by
    rw [← waitD_t n]; exact q H' s
  have Z : Zs H H H H [] := Zs.start (Same.refl _)
  unfold t_is_wait
  walk_at "rd"
  refine ifd (fun h => ?_) (fun h => ?_)
  · walk_at "rd"
    exact yes ⟨none, hd.non_iff.mp h, True.intro⟩ H (Same.refl _)
  have hn : ¬ d = .none := fun q => h (hd.non_iff.mpr q)
  walk_at "rd"
  refine r_isi hd (ki_tuple d) ?_
  walk_at "rd"
  refine ifnb (fun h1 => ?_) (fun h1 => ?_)
  · walk_at "rd"
    refine ifT rfl ?_
    walk_at "rd"
    refine no (fun ⟨w, e, _⟩ => ?_) H (Same.refl _)
    subst e
    cases w with
    | none => exact hn rfl
    | some p => cases h1
  obtain ⟨ds, rfl⟩ : ∃ ds, d = .tuple ds := by
    cases d <;> first | exact ⟨_, rfl⟩ | cases h1
  obtain ⟨p, xs, rfl, hp, hx⟩ := hd.inv_tup
  walk_at "rd"
  refine r_lenT (SqT.of hp) ?_
  walk_at "rd"
  refine ifn (fun h2 => ?_) (fun h2 => ?_)
  · walk_at "rd"
    refine ifT rfl ?_
    walk_at "rd"
    refine no (fun ⟨w, e, _⟩ => ?_) H (Same.refl _)
    cases w with
    | none => cases e
    | some p =>
      cases e
      exact h2 (by rw [hx.len] <;> rfl)
  obtain ⟨x0, x1, d0, d1, rfl, rfl, h0, h1'⟩ : ∃ x0 x1 d0 d1, xs = [x0, x1] ∧ ds = [d0, d1] ∧ Td H x0 d0 ∧ Td H x1 d1 := by
    cases hx with
    | nil => exact absurd h2 (by decide)
    | cons a hx =>
      cases hx with
      | nil => exact absurd h2 (by simp)
      | cons b hx =>
        cases hx with
        | nil => exact ⟨_, _, _, _, rfl, rfl, a, b⟩
        | cons c hx =>
          rw [List.length_cons, List.length_cons, List.length_cons] at h2
          omega
  walk_at "rd"
  refine r_ixT (SqT.of hp) (at_i (by decide) rfl) ?_
  walk_at "rd"
  refine r_isi h0 (ki_str d0) ?_
  walk_at "rd"
  refine ifnb (fun h3 => ?_) (fun h3 => ?_)
  · walk_at "rd"
    refine ifT rfl ?_
    walk_at "rd"
    refine no (fun ⟨w, e, _⟩ => ?_) H (Same.refl _)
    cases w with
    | none => cases e
    | some p => cases e; cases h3
  obtain ⟨s0, rfl⟩ : ∃ s, d0 = .str s := by
    cases d0 <;> first | exact ⟨_, rfl⟩ | cases h3
  cases h0
  walk_at "rd"
  refine r_ixT (SqT.of hp) (at_i (by decide) rfl) ?_
  walk_at "rd"
  refine r_inT (W H) rfl rfl ?_
  rw [if_pos rfl]
  walk_at "rd"
  refine ifnb (fun h4 => ?_) (fun h4 => ?_)
  · walk_at "rd"
    refine no (fun ⟨w, e, _⟩ => ?_) H (Same.refl _)
    cases w with
    | none => cases e
    | some p =>
      cases e
      rw [(words_in _).mpr ⟨p.1, rfl⟩] at h4
      cases h4
  obtain ⟨bw, rfl⟩ := (words_in _).mp h4
  walk_at "rd"
  refine r_ixT (SqT.of hp) (at_i (by decide) rfl) ?_
  walk_at "rd"
  refine r_isi h1' (ki_list d1) ?_
  walk_at "rd"
  refine ifnb (fun h5 => ?_) (fun h5 => ?_)
  · walk_at "rd"
    refine ifT rfl ?_
    walk_at "rd"
    refine no (fun ⟨w, e, _⟩ => ?_) H (Same.refl _)
    cases w with
    | none => cases e
    | some p => rw [(tup_inj2 e).2] at h5; cases h5
  obtain ⟨es, rfl⟩ : ∃ s, d1 = .list s := by
    cases d1 <;> first | exact ⟨_, rfl⟩ | cases h5
  obtain ⟨l, ys, rfl, hl, hy⟩ := h1'.inv_lst
  have shl : SeqAt.shaped (.list es) = true := shaped_t hsh (by simp)
  walk_at "rd"
  refine r_ixT (SqT.of hp) (at_i (by decide) rfl) ?_
  walk_at "rd"
  refine r_mk sz0 Z (fun p1 H1 Z1 => ?_)
  refine r_eqD (d := .list es) (e := .list []) (h1'.up Z1.hh) (.lst (Z1.get (i := 0) rfl) .nil) shl rfl ?_
  rw [eqv_nil]
  walk_at "rd"
  have fin : ∀ b os, PyData.tuple [.str (wd bw), .list es] = dW (some (b, os)) → es = os.map PyData.int := fun b os e => by
    have := (tup_inj2 e).2
    injection this
  refine ifb (fun h6 => ?_) (fun h6 => ?_)
  · walk_at "rd"
    refine no (fun ⟨w, e, k⟩ => ?_) H1 Z1.hh
    cases w with
    | none => cases e
    | some p =>
      have e2 := fin _ _ e
      have k1 := k.1
      cases hh : p.2 with
      | nil => exact k1 hh
      | cons x y => rw [e2, hh] at h6; cases h6
  walk_at "rd"
  refine r_ixT (SqT.of (Z1.fh _ _ hp)) (at_i (by decide) rfl) ?_
  walk_at "rd"
  have hlen := hy.len
  refine r_enumI (xs := ys) (SqL.of (Z1.fh _ _ hl)) (fun i σ' H' => ∃ x2 x3, σ' = [some (.ref p), some (.int (m : Nat)), x2, x3] ∧ Zs H H H H' [] ∧ ∃ os : List Int, es.take i = os.map PyData.int ∧ os.Nodup ∧ ∀ o ∈ os, 0 ≤ o ∧ o < (m : Int))
    ⟨none, none, rfl, Z1.nil, [], by simp, List.nodup_nil, fun _ q => (nomatch q)⟩ (fun i σ' H' _ ⟨_, _, _, Z', _⟩ => SqL.of (Z'.fh _ _ hl)) ?_ ?_
  · rintro i x T σ' H' hi ⟨x2, x3, rfl, Z', os, o1, o2, o3⟩ hT
    have Z2 := Z'.alloc (o := .tup [.int (i : Nat), x]) hT
    refine r_gt2 (SqT.of (Z2.get (i := 0) rfl)) ?_
    dsimp only [List.set_cons_succ, List.set_cons_zero]
    replace Z2 := Z2.drop
    obtain ⟨di, hdi, hxi⟩ := hy.at hi
    walk_at "rd"
    refine ⟨di, (m : Nat), hxi.up Z2.fh, rfl, ?_⟩
    walk_at "rd"
    have bad : ∀ os' : List Int, es = os'.map PyData.int → ∃ o, os'[i]? = some o ∧ di = .int o ∧ os = os'.take i := fun os' e => by
      subst e
      rw [List.getElem?_map] at hdi
      cases e2 : os'[i]? with
      | none => rw [e2] at hdi; cases hdi
      | some o =>
        rw [e2] at hdi
        refine ⟨o, rfl, (Option.some.inj hdi).symm, ?_⟩
        rw [← List.map_take] at o1
        exact ((List.map_inj_right (fun a b q => by cases q; rfl)).mp o1).symm
    refine ifnb (fun h7 => ?_) (fun h7 => ?_)
    · walk_at "rd"
      refine ifT rfl ?_
      walk_at "rd"
      refine no (fun ⟨w, e, k⟩ => ?_) _ Z2.hh
      cases w with
      | none => cases e
      | some p =>
        obtain ⟨o, ho, rfl, _⟩ := bad _ (fin _ _ e)
        have := k.2.2 o (List.mem_of_getElem? ho)
        have h7' : (decide (0 ≤ o) && decide (o < (m : Int))) = false := h7
        rw [decide_eq_true this.1, decide_eq_true this.2] at h7'
        cases h7'
    obtain ⟨o, rfl, h8, h9⟩ : ∃ o, di = .int o ∧ 0 ≤ o ∧ o < (m : Int) := by
      cases di with
      | int o =>
        have h7' : (decide (0 ≤ o) && decide (o < (m : Int))) = true := h7
        rw [Bool.and_eq_true] at h7'
        exact ⟨o, rfl, of_decide_eq_true h7'.1, of_decide_eq_true h7'.2⟩
      | _ => cases h7
    cases hxi
    walk_at "rd"
    refine r_ixT (SqT.of (Z2.fh _ _ hp)) (at_i (by decide) rfl) ?_
    walk_at "rd"
    refine r_slL Z2 (SqL.of (Z2.fh _ _ hl)) (fun p3 H3 Z3 => ?_)
    have ey : ys.take i = os.map V.int := by
      have := (hy.take i)
      rw [o1] at this
      exact this.of_ints
    rw [cut_take, ey] at Z3
    refine r_inL (SqL.of (Z3.get (i := 0) rfl)) rfl (flat_ints _) ?_
    rw [if_neg (by decide), inV_int]
    walk_at "rd"
    refine ifd (fun h10 => ?_) (fun h10 => ?_)
    · walk_at "rd"
      refine no (fun ⟨w, e, k⟩ => ?_) _ Z3.hh
      cases w with
      | none => cases e
      | some p =>
        obtain ⟨o', ho, e3, e4⟩ := bad _ (fin _ _ e)
        cases e3
        rw [e4] at h10
        have nd := k.2.1
        obtain ⟨j, hj⟩ := List.mem_iff_getElem?.mp h10
        rw [List.getElem?_take] at hj
        split at hj
        · rename_i lt
          have := nd_ix nd ho hj
          omega
        · cases hj
    · walk_at "rd"
      refine ⟨_, _, rfl, Z3.nil, os ++ [o], ?_, ?_, ?_⟩
      · rw [take_snoc hdi, o1, List.map_append] <;> rfl
      · rw [List.nodup_append]
        exact ⟨o2, by simp, fun a ha b hb => by
          rw [List.mem_singleton] at hb
          subst hb
          exact fun q => h10 (q ▸ ha)⟩
      · intro a ha
        rcases List.mem_append.mp ha with ha | ha
        · exact o3 a ha
        · rw [List.mem_singleton] at ha
          subst ha
          exact ⟨h8, h9⟩
  · rintro σ' H' ⟨x2, x3, rfl, Z', os, o1, o2, o3⟩
    rw [hlen, List.take_length] at o1
    walk_at "rd"
    refine yes ⟨some (bw, os), ?_, ?_, o2, o3⟩ _ Z'.hh
    · rw [o1] <;> rfl
    · intro e
      subst e
      rw [o1] at h6
      cases h6
end SB
namespace SB
open PySem L2
/-! ### the program: need of good waits -/
def pr_need (K : PySem.W.Frag) (A : Ad) : V → Hp → VK → XK → Prop := fun a H Q _ => ∃ ws, Td H a (dWs ws) ∧ OkWs ws ∧ ∀ H', Same H H' → Q (.bl true) H'
abbrev sp_need (K : PySem.W.Frag) (A : Ad) : Sp := sp1 (pr_need K A)
def t_need (K : PySem.W.Frag) (A : Ad) : TS :=
    (tSeq (tIfS (tOr (tNot (tB (tCB (rIsi K) (tCons (tVar 0) (tCons (tC (.ty "list")) tNil))))) (tNot (tTest (tChain qLe qLe (tC (.int 1)) (tCB (qLen K) (tCons (tVar 0) tNil)) (tC (.int 40))))))
    tNever
    tNext)
    (tSeq (tFor (iEnum K (tCons (tVar 0) tNil)) (gTup K 2 (gCons (gName 1) (gCons (gName 2) gNil)))
    (tIfS (tNot (tB (tCall (sp_is_wait K A) [] E0 (tCons (tVar 2) (tCons (tCB (qLen K) (tCons (tVar 0) tNil)) tNil)))))
    tNever
    tNext))
    (tRet (tC (.bl true)))))
theorem rd_need {K : PySem.W.Frag} {A : Ad} {a : V} {H : Hp} {Q : VK} {E : XK} (h : pr_need K A a H Q E) : t_need K A { nx := fun _ H' => Q .non H', rt := Q } [some a, none, none] H := by
  obtain ⟨ws, hd, ok, q⟩ := h
  have Z : Zs H H H H [] := Zs.start (Same.refl _)
  have hd0 := hd
  obtain ⟨p, xs, rfl, hp, hx, hl⟩ := Td.inv_ws hd0
  unfold t_need
  walk_at "rd"
  refine r_isi hd (ki_list _) ?_
  walk_at "rd"
  refine ifF rfl ?_
  walk_at "rd"
  refine r_lenL (SqL.of hp) ?_
  have o1 := ok.pos
  have o2 := ok.most
  walk_at "rd"
  refine ifd (fun _ => ?_) (fun h => absurd (by omega) h)
  walk_at "rd"
  refine ifF (by rw [decide_eq_true (by omega)]; rfl) ?_
  walk_at "rd"
  refine r_enumI (xs := xs) (SqL.of hp) (fun i σ' H' => ∃ x2 x3, σ' = [some (.ref p), x2, x3] ∧ Zs H H H H' []) ⟨none, none, rfl, Z⟩ (fun i σ' H' _ ⟨_, _, _, Z'⟩ => SqL.of (Z'.fh _ _ hp)) ?_ ?_
  · rintro i x T σ' H' hi ⟨x2, x3, rfl, Z'⟩ hT
    have Z2 := Z'.alloc (o := .tup [.int (i : Nat), x]) hT
    refine r_gt2 (SqT.of (Z2.get (i := 0) rfl)) ?_
    dsimp only [List.set_cons_succ, List.set_cons_zero]
    replace Z2 := Z2.drop
    obtain ⟨w, hw, hxw⟩ := TdA.ws_at hx hi
    walk_at "rd"
    refine r_lenL (SqL.of (Z2.fh _ _ hp)) ?_
    walk_at "rd"
    refine ⟨dW w, ws.length, hxw.up Z2.fh, shaped_map1 w, by rw [hl], fun H3 s3 => ?_⟩
    walk_at "rd"
    rw [waitD_t ⟨w, rfl, ok.all w (List.mem_of_getElem? hw)⟩]
    refine ifF rfl ?_
    walk_at "rd"
    exact ⟨_, _, rfl, Z2.ext s3⟩
  · rintro σ' H' ⟨x2, x3, rfl, Z'⟩
    walk_at "rd"
    exact q _ Z'.hh

/-! ### the program: shows of good waits and of hands -/
def showsAt (ws : List Wt) (hs : List Int) (h : Int) : Bool := match ws[h.toNat]? with
  | some (some (b, os)) => let w := os.filter fun o => decide (o ∈ hs)
    !w.isEmpty && (!b || decide (w.length = os.length))
  | _ => false
def showsB (ws : List Wt) (hs : List Int) : Bool := hs.all (showsAt ws hs)
def pr_shows (K : PySem.W.Frag) (A : Ad) : V → V → Hp → VK → XK → Prop := fun a b H Q _ => ∃ ws hs, Td H a (dWs ws) ∧ OkWs ws ∧ Td H b (.list (hs.map PyData.int)) ∧ (∀ h ∈ hs, 0 ≤ h ∧ h < (ws.length : Int)) ∧ hs.length ≤ 1000 ∧ ∀ H', Same H H' → Q (.bl (showsB ws hs)) H'
abbrev sp_shows (K : PySem.W.Frag) (A : Ad) : Sp := sp2 (pr_shows K A)
def t_shows (K : PySem.W.Frag) (A : Ad) : TS :=
    (tSeq (tDrop (tCall (sp_need K A) [] E0 (tCons (tVar 0) tNil)))
    (tSeq (tFor (iList K (tVar 1)) (gName 2)
    (tDrop (tCall (sp_need_hand K A) [] E0 (tCons (tCB (qLen K) (tCons (tVar 0) tNil)) (tCons (tVar 2) tNil)))))
    (tSeq (tFor (iList K (tVar 1)) (gName 2)
    (tSeq (tAsg (tOp (rIxL K) (tVar 0) (tVar 2)) (gName 3))
    (tSeq (tIfS (tTest (tOp qIsN (tVar 3) (tC .non)))
    (tRet (tC (.bl false)))
    tNext)
    (tSeq (tAsg (tLc (iList K (tOp (rIxT K) (tVar 3) (tC (.int 1)))) (gName 4) (tTest (tOp (rIn K false) (tVar 4) (tVar 1))) (tVar 4) [4]) (gName 5))
    (tIfS (tOr (tTest (tOp (rEqD K) (tVar 5) (tLst tNil))) (tAnd (tTest (tOp rEq (tOp (rIxT K) (tVar 3) (tC (.int 0))) (tC (.str "any")))) (tTest (tOp qLt (tCB (qLen K) (tCons (tVar 5) tNil)) (tCB (qLen K) (tCons (tOp (rIxT K) (tVar 3) (tC (.int 1))) tNil))))))
    (tRet (tC (.bl false)))
    tNext)))))
    (tRet (tC (.bl true))))))
theorem rd_shows {K : PySem.W.Frag} {A : Ad} {a b : V} {H : Hp} {Q : VK} {E : XK} (h : pr_shows K A a b H Q E) : t_shows K A { nx := fun _ H' => Q .non H', rt := Q } [some a, some b, none, none, none, none] H := by
  obtain ⟨ws, hs, hd, ok, hb, hr, hsz, q⟩ := h
  have hd0 := hd
  obtain ⟨p, xs, rfl, hp, hx, hl⟩ := Td.inv_ws hd0
  obtain ⟨l, rfl, hl2⟩ := Td.inv_ints hb
  have Z : Zs H H H H [] := Zs.start (Same.refl _)
  unfold t_shows
  walk_at "rd"
  refine ⟨ws, hd, ok, fun H1 s1 => ?_⟩
  replace Z := Z.ext s1
  walk_at "rd"
  refine r_lstI (xs := hs.map V.int) (SqL.of (Z.fh _ _ hl2)) (fun i σ' H' => ∃ x2, σ' = [some (.ref p), some (.ref l), x2, none, none, none] ∧ Zs H H H H' []) ⟨none, rfl, Z⟩ (fun i σ' H' _ ⟨_, _, Z'⟩ => SqL.of (Z'.fh _ _ hl2)) ?_ ?_
  · rintro i x σ' H' hi ⟨x2, rfl, Z'⟩
    obtain ⟨n, hn, rfl⟩ := of_get_ints hi
    have hn2 := hr n (List.mem_of_getElem? hn)
    walk_at "rd"
    refine r_lenL (SqL.of (Z'.fh _ _ hp)) ?_
    walk_at "rd"
    refine ⟨_, n, rfl, rfl, hn2.1, by omega, ?_⟩
    exact ⟨_, rfl, Z'⟩
  · rintro σ' H' ⟨x2, rfl, Z'⟩
    walk_at "rd"
    refine r_lstI (xs := hs.map V.int) (SqL.of (Z'.fh _ _ hl2)) (fun i σ' H' => ∃ x2 x3 x4 x5, σ' = [some (.ref p), some (.ref l), x2, x3, x4, x5] ∧ Zs H H H H' [] ∧ (hs.take i).all (showsAt ws hs) = true)
      ⟨x2, none, none, none, rfl, Z', rfl⟩ (fun i σ' H' _ ⟨_, _, _, _, _, Z', _⟩ => SqL.of (Z'.fh _ _ hl2)) ?_ ?_
    · rintro i x σ' H' hi ⟨x2, x3, x4, x5, rfl, Z', ha⟩
      obtain ⟨n, hn, rfl⟩ := of_get_ints hi
      have hn2 := hr n (List.mem_of_getElem? hn)
      have hnl : n.toNat < ws.length := by omega
      have no : showsAt ws hs n = false → ∀ H', Same H H' → Q (.bl false) H' := fun e H' s => by
        have : showsB ws hs = false := by
          unfold showsB
          rw [List.all_eq_false]
          exact ⟨n, List.mem_of_getElem? hn, by rw [e]; decide⟩
        rw [← this]
        exact q H' s
      have wsn : ws[n.toNat]? = some ws[n.toNat] := List.getElem?_eq_getElem hnl
      obtain ⟨y, hy, hyw⟩ := TdA.ws_get hx wsn
      walk_at "rd"
      refine r_ixL (SqL.of (Z'.fh _ _ hp)) (at_i hn2.1 hy) ?_
      walk_at "rd"
      refine ifd (fun h => ?_) (fun h => ?_)
      · walk_at "rd"
        subst h
        refine no ?_ _ Z'.hh
        unfold showsAt
        rw [wsn, Td.w_non hyw]
      obtain ⟨bw, os, ew⟩ : ∃ b os, ws[n.toNat] = some (b, os) := by
        cases e : ws[n.toNat] with
        | none => rw [e] at hyw; exact absurd (Td.inv_non hyw) h
        | some z => exact ⟨z.1, z.2, rfl⟩
      rw [ew] at hyw wsn
      have okw := ok.all _ (List.mem_of_getElem? wsn)
      obtain ⟨t, o, rfl, ht, ho⟩ := Td.inv_w hyw
      have osz : os.length ≤ 100000 := by
        have : os.length ≤ ws.length := nodup_bound okw.2.1 (fun o ho => okw.2.2 o ho)
        have := ok.most
        omega
      walk_at "rd"
      refine r_ixT (SqT.of (Z'.fh _ _ ht)) (at_i (by decide) rfl) ?_
      refine lc_lst (xs := os.map V.int) (SqL.of (Z'.fh _ _ ho)) Z' (fun i acc F' => acc = ((os.take i).filter fun o => decide (o ∈ hs)).map V.int) rfl (fun F' H' Z'' s => SqL.of (Z''.fh _ _ (s _ _ ho))) ?_ ?_
      · intro j x Dl F' H'' acc hj Z'' s hacc e
        subst e
        obtain ⟨c, hc, rfl⟩ := of_get_ints hj
        dsimp only [wipe]
        walk_at "rd"
        refine ⟨rfl, ?_⟩
        walk_at "rd"
        refine r_inL (SqL.of (Z''.fh _ _ (s _ _ hl2))) rfl (flat_ints _) ?_
        rw [if_neg (by decide), inV_int]
        walk_at "rd"
        refine ifd (fun h2 => ?_) (fun h2 => ?_)
        · walk_at "rd"
          have hjl : j < os.length := (List.getElem?_eq_some_iff.mp hc).1
          refine cy Z'' s hacc (by omega) ?_
          rw [take_snoc hc, List.filter_append, List.filter_cons, if_pos (decide_eq_true h2), List.map_append] <;> rfl
        · refine cn Z'' s hacc ?_
          rw [take_snoc hc, List.filter_append, List.filter_cons, if_neg (by rw [decide_eq_false h2]; decide), List.filter_nil, List.append_nil]
      · intro Dl F' H'' acc Z'' s e
        rw [List.length_map, List.take_length] at e
        subst e
        have Zn := Z''.ff
        walk_at "rd"
        refine r_mk sz0 Z'' (fun p3 H3 Z3 => ?_)
        refine r_eqD (Td.ints_lst (Z3.get (i := 1) rfl)) (.lst (Z3.get (i := 0) rfl) .nil) (shaped_ints _) rfl ?_
        rw [eqv_nil]
        replace Z3 := Z3.drop
        walk_at "rd"
        have hs' : showsAt ws hs n = (!(os.filter fun o => decide (o ∈ hs)).isEmpty && (!bw || decide ((os.filter fun o => decide (o ∈ hs)).length = os.length))) := by
          unfold showsAt
          rw [wsn]
        have em : ((os.filter fun o => decide (o ∈ hs)).map PyData.int).isEmpty = (os.filter fun o => decide (o ∈ hs)).isEmpty := by
          cases (os.filter fun o => decide (o ∈ hs)) <;> rfl
        rw [em]
        refine ifb (fun h3 => ?_) (fun h3 => ?_)
        · walk_at "rd"
          refine no ?_ _ Z3.hh
          rw [hs', h3] <;> rfl
        have goOn : showsAt ws hs n = true → ∃ y2 y3 y4 y5, [some (V.ref p), some (V.ref l), some (V.int n), some (V.ref t), x4, some (V.ref Dl)] = [some (V.ref p), some (V.ref l), y2, y3, y4, y5] ∧ Zs H H H H3 [] ∧ (hs.take (i + 1)).all (showsAt ws hs) = true := fun e => by
          refine ⟨_, _, _, _, rfl, Z3.back (Same.refl _), ?_⟩
          rw [take_snoc hn, List.all_append, ha, List.all_cons, e] <;> rfl
        walk_at "rd"
        refine r_ixT (SqT.of (Z3.fh _ _ (s _ _ ht))) (at_i (by decide) rfl) ?_
        walk_at "rd"
        rw [wd_any]
        refine ifb (fun h4 => ?_) (fun h4 => ?_)
        · walk_at "rd"
          refine r_lenL (SqL.of (Z3.get (i := 0) rfl)) ?_
          walk_at "rd"
          refine r_ixT (SqT.of (Z3.fh _ _ (s _ _ ht))) (at_i (by decide) rfl) ?_
          walk_at "rd"
          refine r_lenL (SqL.of (Z3.fh _ _ (s _ _ ho))) ?_
          rw [List.length_map, List.length_map]
          have le : (os.filter fun o => decide (o ∈ hs)).length ≤ os.length := List.length_filter_le _ _
          walk_at "rd"
          refine ifd (fun h5 => ?_) (fun h5 => ?_)
          · walk_at "rd"
            refine no ?_ _ Z3.hh
            rw [hs', h4, decide_eq_false (by omega)]
            simp
          · walk_at "rd"
            refine goOn ?_
            rw [hs', h3, decide_eq_true (by omega)]
            simp
        · refine ifF rfl ?_
          walk_at "rd"
          refine goOn ?_
          rw [hs', h3, h4] <;> rfl
    · rintro σ' H' ⟨x2, x3, x4, x5, rfl, Z', ha⟩
      rw [List.length_map, List.take_length] at ha
      walk_at "rd"
      have : showsB ws hs = true := ha
      rw [← this]
      exact q _ Z'.hh
end SB
/-! Net.__init__. -/
namespace SB
open PySem L2
/-! ### a comprehension over enumerate whose elements lay cells of their own -/
def CWg (F0 H0 F : Hp) (P : Nat → List V → List (Addr × HO) → Hp → Prop) (Dl : Addr) (i : Nat) (H' : Hp) : Prop := ∃ F' acc M, Zs F0 H0 F' H' ((Dl, .lst acc) :: M) ∧ Same F F' ∧ acc.length ≤ i ∧ P i acc M F'
def CYg (F0 H0 F : Hp) (P : Nat → List V → List (Addr × HO) → Hp → Prop) (Dl : Addr) (i : Nat) (y : V) (H4 : Hp) : Prop := ∃ acc, H4 Dl = some (.lst acc) ∧ acc.length < sizeLine ∧ CWg F0 H0 F P Dl (i + 1) (upd H4 Dl (.lst (acc ++ [y])))
section
variable {K : PySem.W.Frag} {σ : St} {F0 H0 F H : Hp} {L : List (Addr × HO)} {Q : VK} {te : TE} {tt : TT} {vs : List Nat} {g : TG} {a : Addr} {xs : List V} {P : Nat → List V → List (Addr × HO) → Hp → Prop}
theorem cyG {Dl : Addr} {i : Nat} {y : V} {F4 H4 : Hp} {acc : List V} {M : List (Addr × HO)} (Z : Zs F0 H0 F4 H4 ((Dl, .lst acc) :: M)) (s : Same F F4) (hl : acc.length ≤ i) (hi : i < 100000) (p : P (i + 1) (acc ++ [y]) M F4) : CYg F0 H0 F P Dl i y H4 :=
  ⟨acc, Z.get (i := 0) rfl, sz_lt (by omega), F4, acc ++ [y], M, Z.setAt 0 rfl, s, by rw [List.length_append, List.length_singleton]; omega, p⟩
theorem lc_enmG (hx : SqL K H a xs) (Z : Zs F0 H0 F H L) (P : Nat → List V → List (Addr × HO) → Hp → Prop) (h0 : P 0 [] L F) (hsrc : ∀ i Dl acc M F' H', Zs F0 H0 F' H' ((Dl, .lst acc) :: M) → Same F F' → P i acc M F' → SqL K H' a xs)
    (hs : ∀ (i : Nat) x T Dl F' H' acc M, xs[i]? = some x → Zs F0 H0 F' H' ((T, .tup [.int (i : Nat), x]) :: (Dl, .lst acc) :: M) → Same F F' → acc.length ≤ i → P i acc M F' →
      g (.ref T) (wipe σ vs) H' fun σ2 H2 => wipe σ2 vs = wipe σ vs ∧ tt σ2 H2 fun b H3 => if b = true then te σ2 H3 (CYg F0 H0 F P Dl i) else CWg F0 H0 F P Dl (i + 1) H3)
    (hd : ∀ Dl F' H' acc M, Zs F0 H0 F' H' ((Dl, .lst acc) :: M) → Same F F' → P xs.length acc M F' → Q (.ref Dl) H') : LRE K g tt te vs σ Q [.ref a] H := by
  refine ⟨a, xs, rfl, hx, fun Dl hD => ⟨fun i m H => m = xs.length - i ∧ i ≤ xs.length ∧ CWg F0 H0 F P Dl i H, ⟨xs.length, rfl, Nat.zero_le _, F, [], L, Z.alloc hD, Same.refl _, Nat.le_refl _, h0⟩, ?_⟩⟩
  rintro i m H' ⟨rfl, hi, p⟩
  obtain ⟨F', acc, M, Z', s', hl, p'⟩ := p
  have q := hsrc i Dl acc M F' H' Z' s' p'
  by_cases hlt : i < xs.length
  · refine .inr ⟨⟨xs, xs[i], q, by simp [hlt]⟩, CWg F0 H0 F P Dl (i + 1), fun H'' p'' => ⟨xs.length - (i + 1), by omega, rfl, hlt, p''⟩, fun x H'' y => ?_⟩
    obtain ⟨T, x', rfl, hT, rfl, hx'⟩ := y
    exact hs i x' T Dl F' _ acc M (hx' xs q) (Z'.alloc hT) s' hl p'
  · have e : i = xs.length := by omega
    subst e
    exact .inl ⟨⟨xs, q, Nat.le_refl _⟩, hd Dl F' H' acc M Z' s' p'⟩
end
/-! ### waits, frozen or not -/
def CellIn (F : Hp) (L : List (Addr × HO)) (a : Addr) (o : HO) : Prop := F a = some o ∨ (a, o) ∈ L
def WsIn (F : Hp) (L : List (Addr × HO)) (w : V) (ws : List Wt) : Prop := ∃ pw xs, w = .ref pw ∧ CellIn F L pw (.lst xs) ∧ xs.length = ws.length ∧ ∀ (i : Nat) (v : V) (wt : Wt), xs[i]? = some v → ws[i]? = some wt → WtIn F L v wt
theorem CellIn.at {F0 H0 F H : Hp} {L L' : List (Addr × HO)} {a : Addr} {o : HO} (c : CellIn F L a o) (Z : Zs F0 H0 F H L') (h : ∀ q ∈ L, q ∈ L') : H a = some o := by
  rcases c with c | c
  · exact Z.fix c
  · exact (Z.led _ (h _ c)).1
theorem CellIn.up {F F' : Hp} {L L' : List (Addr × HO)} {a : Addr} {o : HO} (c : CellIn F L a o) (s : Same F F') (h : ∀ q ∈ L, q ∈ L') : CellIn F' L' a o := by
  rcases c with c | c
  · exact .inl (s _ _ c)
  · exact .inr (h _ c)
theorem WtIn.up {F F' : Hp} {L L' : List (Addr × HO)} {v : V} {wt : Wt} (c : WtIn F L v wt) (s : Same F F') (h : ∀ q ∈ L, q ∈ L') : WtIn F' L' v wt := by
  rcases c with c | ⟨b, os, p, l, e1, e2, e3, e4⟩
  · exact .inl c
  · exact .inr ⟨b, os, p, l, e1, e2, s _ _ e3, CellIn.up e4 s h⟩
theorem WtIn.td {F0 H0 F H : Hp} {L L' : List (Addr × HO)} {v : V} {wt : Wt} (c : WtIn F L v wt) (Z : Zs F0 H0 F H L') (h : ∀ q ∈ L, q ∈ L') : Td H v (dW wt) := by
  rcases c with ⟨rfl, rfl⟩ | ⟨b, os, p, l, rfl, rfl, e3, e4⟩
  · exact .non
  · exact Td.mk_w (Z.fix e3) (CellIn.at e4 Z h)
theorem TdA.of_get {F : Hp} : ∀ {vs : List V} {ds : List PyData}, vs.length = ds.length → (∀ (i : Nat) v d, vs[i]? = some v → ds[i]? = some d → Td F v d) → TdA F vs ds
  | [], [], _, _ => .nil
  | [], _ :: _, h, _ => by simp at h
  | _ :: _, [], h, _ => by simp at h
  | v :: vs, d :: ds, h, k => .cons (k 0 v d rfl rfl) (TdA.of_get (by simpa using h) fun i v d h1 h2 => k (i + 1) v d (by simpa using h1) (by simpa using h2))
theorem WsIn.td {F0 H0 F H : Hp} {L L' : List (Addr × HO)} {w : V} {ws : List Wt} (c : WsIn F L w ws) (Z : Zs F0 H0 F H L') (h : ∀ q ∈ L, q ∈ L') : Td H w (dWs ws) := by
  obtain ⟨pw, xs, rfl, c1, c2, c3⟩ := c
  refine .lst (CellIn.at c1 Z h) (TdA.of_get (by rw [List.length_map]; exact c2) fun i v d h1 h2 => ?_)
  rw [List.getElem?_map] at h2
  cases e : ws[i]? with
  | none => rw [e] at h2; cases h2
  | some wt =>
    rw [e] at h2
    cases h2
    exact (c3 i v wt h1 e).td Z h
theorem WsIn.of {F : Hp} {L : List (Addr × HO)} {w : V} {ws : List Wt} (h : Td F w (dWs ws)) : WsIn F L w ws := by
  obtain ⟨pw, xs, rfl, h1, h2, h3⟩ := Td.inv_ws h
  refine ⟨pw, xs, rfl, .inl h1, h3, fun i v wt e1 e2 => ?_⟩
  obtain ⟨w2, e3, e4⟩ := h2.ws_at e1
  rw [e2] at e3
  cases e3
  cases wt with
  | none => exact .inl ⟨rfl, e4.inv_non⟩
  | some p =>
    obtain ⟨b, os⟩ := p
    obtain ⟨a, l, rfl, k1, k2⟩ := e4.inv_w
    exact .inr ⟨b, os, a, l, rfl, rfl, k1, .inl k2⟩
/-! ### the net that is made -/
def hands0 (ws : List Wt) (k : Nat) : List HS := ws.mapIdx fun i w => mkH (i : Int) w (decide ((i : Int) = (k : Int)))
def handAt (S : List HS) (k : Nat) : HS := S.getD k (mkH 0 none false)
def netS (ws : List Wt) (k : Nat) : NS := { asker := (k : Int), hands := (hands0 ws k).set k (begin (handAt (hands0 ws k) k)).1, row := (begin (handAt (hands0 ws k) k)).2, sent := ((begin (handAt (hands0 ws k) k)).2.length : Int) }
theorem hands0_len (ws : List Wt) (k : Nat) : (hands0 ws k).length = ws.length := by unfold hands0; rw [List.length_mapIdx]
theorem hands0_at {ws : List Wt} {k i : Nat} {w : Wt} (h : ws[i]? = some w) : (hands0 ws k)[i]? = some (mkH (i : Int) w (decide ((i : Int) = (k : Int)))) := by unfold hands0; rw [List.getElem?_mapIdx, h] <;> rfl
theorem handAt_of {S : List HS} {k : Nat} {s : HS} (h : S[k]? = some s) : handAt S k = s := by unfold handAt; rw [List.getD_eq_getElem?_getD, h] <;> rfl
theorem hsL_mem {A : Ad} {L : List (Addr × HO)} {q : Addr × HO} (h : q ∈ L) : ∀ {rs : List HR} {ss : List HS}, q ∈ hsL A rs ss L
  | [], _ => h
  | _ :: _, [] => h
  | _ :: _, _ :: _ => List.mem_cons_of_mem _ (List.mem_cons_of_mem _ (List.mem_cons_of_mem _ (hsL_mem h)))
theorem hsL_end {A : Ad} {L : List (Addr × HO)} {r : HR} {s : HS} {rs : List HR} {ss : List HS} : (hL A r s (hsL A rs ss L)).Perm (hsL A rs ss (hL A r s L)) :=
  ((hsL_mid.trans (List.Perm.cons _ (hsL_mid.trans (List.Perm.cons _ hsL_mid)))).symm)
def pr_Net_init (K : PySem.W.Frag) (A : Ad) : V → V → V → Hp → VK → XK → Prop := fun x w a H Q _ => ∃ (F0 H0 F : Hp) (L : List (Addr × HO)) (xa dx : Addr) (ws : List Wt) (k : Nat), x = .ref xa ∧ a = .int (k : Int) ∧ Zs F0 H0 F H ((xa, .ins A.cNet dx []) :: L) ∧ WsIn F L w ws ∧ OkWs ws ∧ k < ws.length ∧
  ∀ F' H' N rv, Zs F0 H0 F' H' (nL A N (netS ws k) rv L) → Same F F' → N.x = xa → NFz F' N (netS ws k) → TdA F' rv (dLts (netS ws k).row) → Q .non H'
abbrev sp_Net_init (K : PySem.W.Frag) (A : Ad) : Sp := sp3 (pr_Net_init K A)
def t_Net_init (K : PySem.W.Frag) (A : Ad) : TS :=
    (tSeq (tDrop (tCall (sp_need K A) [] E0 (tCons (tVar 1) tNil)))
    (tSeq (sFld K (tVar 0) (tCall (sp_need_hand K A) [] E0 (tCons (tCB (qLen K) (tCons (tVar 1) tNil)) (tCons (tVar 2) tNil))) "asker")
    (tSeq (sFld K (tVar 0) (tLc (iEnum K (tCons (tVar 1) tNil)) (gTup K 2 (gCons (gName 3) (gCons (gName 4) gNil))) tYes (tMake A.cHand (sp_Hand_init K A) [] E0 (tCons (tVar 3) (tCons (tVar 4) (tCons (tOp rEq (tVar 3) (tVar 2)) tNil)))) [3, 4]) "hands")
    (tSeq (sFld K (tVar 0) (tMeth A.cHand "begin" (sp_Hand_begin K A) [] E0 (tOp (rIxL K) (tFld K (tVar 0) "hands") (tVar 2)) tNil) "row")
    (sFld K (tVar 0) (tCB (qLen K) (tCons (tFld K (tVar 0) "row") tNil)) "posted_so_far")))))
theorem rd_Net_init {K : PySem.W.Frag} {A : Ad} (O : NetOk K A) (O2 : HandOk K A) {x w a : V} {H : Hp} {Q : VK} {E : XK} (h : pr_Net_init K A x w a H Q E) : t_Net_init K A { nx := fun _ H' => Q .non H', rt := Q } [some x, some w, some a, none, none] H := by
  obtain ⟨F0, H0, F, L, xa, dx, ws, k, rfl, rfl, Z, hw, ok, hk, q⟩ := h
  have o1 := ok.pos
  have o2 := ok.most
  unfold t_Net_init
  walk_at "rd"
  refine ⟨ws, hw.td Z (fun q hq => List.mem_cons_of_mem _ hq), ok, ?_⟩
  intro H1 sm1
  replace Z := Z.ext sm1
  obtain ⟨pw, xs, rfl, c1, c2, c3⟩ := hw
  walk_at "rd"
  refine r_lenL (SqL.of (c1.at Z (fun q hq => List.mem_cons_of_mem _ hq))) ?_
  walk_at "rd"
  refine ⟨_, (k : Int), rfl, rfl, by omega, by omega, ?_⟩
  walk_at "rd"
  refine r_sfldQ O.cl O.asker 0 Z rfl (by show 0 < 1000; decide) ?_
  intro H2 Z
  replace Z : Zs F0 H0 F H2 ((xa, .ins A.cNet dx [("asker", .int (k : Int))]) :: L) := Z
  walk_at "rd"
  refine lc_enmG (SqL.of (c1.at Z (fun q hq => List.mem_cons_of_mem _ hq))) Z (fun i acc M F' => ∃ rs : List HR, rs.length = i ∧ acc = rs.map (fun r => .ref r.x) ∧ M = (xa, .ins A.cNet dx [("asker", .int (k : Int))]) :: hsL A rs ((hands0 ws k).take i) L ∧ ∀ (j : Nat) (r : HR) (s : HS), rs[j]? = some r → (hands0 ws k)[j]? = some s → F' r.o = some (.lst (s.others.map V.int))) ?_ ?_ ?_ ?_
  · exact ⟨[], rfl, rfl, rfl, fun j r s h => by simp at h⟩
  · rintro i Dl acc M F' H' Z' sm ⟨rs, _, _, rfl, _⟩
    exact SqL.of ((c1.up sm (fun q hq => List.mem_cons_of_mem _ (List.mem_cons_of_mem _ (hsL_mem hq)))).at Z' (fun q hq => hq))
  · rintro i y T Dl F' H' acc M hy Z' sm hacc ⟨rs, hrl, rfl, rfl, ho⟩
    have hilt := (List.getElem?_eq_some_iff.mp hy).1
    have ewi : ws[i]? = some (ws[i]'(by omega)) := List.getElem?_eq_getElem (by omega)
    have hwi := c3 i y _ hy ewi
    generalize ws[i]'(by omega) = wt at ewi hwi
    refine r_gt2 (SqT.of (Z'.get (i := 0) rfl)) ?_
    replace Z' := Z'.drop
    dsimp only [wipe, List.set_cons_succ, List.set_cons_zero, List.foldl_cons, List.foldl_nil]
    refine ⟨rfl, ?_⟩
    refine r_yes (ifT rfl ?_)
    walk_at "rd"
    refine r_makeQ Z' ?_
    intro xh dh H3 Z3
    walk_at "rd"
    refine ⟨F0, H0, F', _, xh, dh, (i : Int), wt, _, rfl, rfl, rfl, hwi.up sm (fun q hq => List.mem_cons_of_mem _ (List.mem_cons_of_mem _ (hsL_mem hq))), Z3, ?_⟩
    rintro F4 H4 r Z4 s4 rfl e4
    refine ⟨rfl, ?_⟩
    have eh := hands0_at (k := k) ewi
    have hl2 : ((hands0 ws k).take i).length = rs.length := by rw [List.length_take, hands0_len, hrl]; omega
    refine cyG (M := (xa, .ins A.cNet dx [("asker", .int (k : Int))]) :: hsL A (rs ++ [r]) ((hands0 ws k).take (i + 1)) L) ?_ (sm.trans s4) hacc (by omega) ?_
    · rw [take_snoc eh, hsL_snoc hl2.symm]
      refine Z4.perm ?_
      refine (List.perm_append_comm_assoc (hL A r _ []) [(Dl, _), (xa, _)] _).trans ?_
      exact List.Perm.cons _ (List.Perm.cons _ hsL_end)
    · refine ⟨rs ++ [r], by rw [List.length_append, hrl] <;> rfl, by rw [List.map_append] <;> rfl, rfl, ?_⟩
      intro j r2 s2 h1 h2
      rw [List.getElem?_append] at h1
      split at h1
      · exact s4 _ _ (ho j r2 s2 h1 h2)
      · rename_i hj
        have ej : j = i := by
          have := (List.getElem?_eq_some_iff.mp h1).1
          rw [List.length_singleton] at this
          omega
        subst ej
        rw [hrl, Nat.sub_self] at h1
        cases h1
        rw [eh] at h2
        cases h2
        exact e4
  · rintro Dl F' H' acc M Z' sm ⟨rs, hrl, rfl, rfl, ho⟩
    obtain ⟨F1, Z1, s1, e1⟩ := Z'.frzAt 0 rfl
    have htk : (hands0 ws k).take xs.length = hands0 ws k := by rw [c2, ← hands0_len ws k, List.take_length]
    rw [htk] at Z1
    replace Z1 : Zs F0 H0 F1 H' ((xa, .ins A.cNet dx [("asker", .int (k : Int))]) :: hsL A rs (hands0 ws k) L) := Z1
    walk_at "rd"
    refine r_sfldQ O.cl O.hands 0 Z1 rfl (by show 1 < 1000; decide) ?_
    intro H3 Z3
    replace Z3 : Zs F0 H0 F1 H3 ((xa, .ins A.cNet dx [("asker", .int (k : Int)), ("hands", .ref Dl)]) :: hsL A rs (hands0 ws k) L) := Z3
    walk_at "rd"
    refine r_fldQ O.cl O.hands (Z3.get (i := 0) rfl) rfl ?_
    have hkr : k < rs.length := by omega
    have er : rs[k]? = some rs[k] := List.getElem?_eq_getElem hkr
    have es : (hands0 ws k)[k]? = some (handAt (hands0 ws k) k) := by
      have hlt : k < (hands0 ws k).length := by rw [hands0_len]; exact hk
      rw [handAt_of (List.getElem?_eq_getElem hlt), List.getElem?_eq_getElem hlt]
    have hoth := ho k _ _ er es
    generalize rs[k] = r at er hoth
    walk_at "rd"
    have hix : (rs.map fun r => V.ref r.x)[k]? = some (.ref r.x) := by rw [List.getElem?_map, er] <;> rfl
    refine r_ixL (SqL.of (Z3.fix e1)) (atI_nat hix) ?_
    have Z4 : Zs F0 H0 F1 H3 (hL A r (handAt (hands0 ws k) k) ((xa, .ins A.cNet dx [("asker", .int (k : Int)), ("hands", .ref Dl)]) :: hsL A (rs.eraseIdx k) ((hands0 ws k).eraseIdx k) L)) :=
      Z3.perm ((List.Perm.cons _ (hsL_out er es)).trans (List.perm_append_comm_assoc [(xa, _)] (hL A r (handAt (hands0 ws k) k) []) _))
    refine r_methQ (Z4.get (i := 0) rfl) rfl ?_
    walk_at "rd"
    have hn : (handAt (hands0 ws k) k).others.length ≤ 10000 := by
      have ewk : ws[k]? = some ws[k] := List.getElem?_eq_getElem hk
      have := hands0_at (k := k) ewk
      rw [handAt_of this]
      have hok := ok.all _ (List.mem_of_getElem? ewk)
      generalize ws[k] = wt at hok
      cases wt with
      | none => exact Nat.zero_le _
      | some p =>
        obtain ⟨b, os⟩ := p
        have h1 := nodup_bound hok.2.1 hok.2.2
        show os.length ≤ 10000
        omega
    refine ⟨F0, H0, F1, _, r, handAt (hands0 ws k) k, rfl, Z4, s1 _ _ hoth, hn, ?_⟩
    intro F5 H5 l vs Z5 s5 hv
    walk_at "rd"
    refine r_sfldQ O.cl O.row 4 Z5 rfl (by show 2 < 1000; decide) ?_
    intro H6 Z6
    walk_at "rd"
    refine r_fldQ O.cl O.row (Z6.get (i := 4) rfl) rfl ?_
    walk_at "rd"
    refine r_lenL (SqL.of (Z6.get (i := 0) rfl)) ?_
    walk_at "rd"
    refine r_sfldQ O.cl O.sent 4 Z6 rfl (by show 3 < 1000; decide) ?_
    intro H7 Z7
    have hvl := hv.len
    rw [len_dLts] at hvl
    have e8 : nI A ⟨xa, dx, Dl, l, rs⟩ (netS ws k) = .ins A.cNet dx [("asker", .int (k : Int)), ("hands", .ref Dl), ("row", .ref l), ("posted_so_far", .int (vs.length : Int))] := by rw [hvl]; rfl
    have Z8 : Zs F0 H0 F5 H7 ((l, .lst vs) :: hL A r (begin (handAt (hands0 ws k) k)).1 ((xa, nI A ⟨xa, dx, Dl, l, rs⟩ (netS ws k)) :: hsL A (rs.eraseIdx k) ((hands0 ws k).eraseIdx k) L)) := by rw [e8]; exact Z7
    refine q F5 H7 ⟨xa, dx, Dl, l, rs⟩ vs (Z8.perm ?_) ((sm.trans s1).trans s5) rfl ?_ hv
    · refine (List.Perm.cons _ (List.perm_append_comm_assoc (hL A r _ []) [(xa, _)] _)).trans ?_
      refine (List.Perm.swap _ _ _).trans ?_
      exact List.Perm.cons _ (List.Perm.cons _ (hsL_in er es))
    · refine ⟨s5 _ _ e1, ?_, ?_⟩
      · show rs.length = ((hands0 ws k).set k _).length
        rw [List.length_set, hands0_len, hrl, c2]
      · intro j r2 s2 h1 h2
        have h2' : ((hands0 ws k).set k (begin (handAt (hands0 ws k) k)).1)[j]? = some s2 := h2
        rw [List.getElem?_set] at h2'
        split at h2'
        · rename_i e
          subst e
          split at h2'
          · cases h2'
            replace h1 : rs[k]? = some r2 := h1
            rw [er] at h1
            cases h1
            have kb : (begin (handAt (hands0 ws k) k)).1.others = (handAt (hands0 ws k) k).others := by
              unfold begin
              split <;> rfl
            rw [kb]
            exact s5 _ _ (s1 _ _ hoth)
          · cases h2'
        · exact s5 _ _ (s1 _ _ (ho j r2 s2 h1 h2'))
end SB
/-! A net, plainly: what holds from letter to letter. -/
namespace SB
open PySem L2
/-! ### what a letter does to a hand -/
def Backs (b : List Lt) : Prop := ∀ l ∈ b, l.1 = "back"
/-- by its kind: what stands of the hand then, which letters beside the backs go out -/
inductive CC (s : HS) (w : Str) (j : Int) (t : HS) : List Lt → Prop
  | c0 : w = "back" → t.free = s.free → t.has = s.has → t.askers = s.askers → t.told = s.told → CC s w j t []
  | c1 : w = "ask" → s.free = true → t.free = true → t.has = s.has → t.askers = s.askers → t.told = s.told → CC s w j t [(("freed" : Str), s.number, j)]
  | c2 : w = "ask" → s.free = false → s.has = true → t.free = false → t.has = true → t.askers = s.askers ++ [j] → t.told = s.told → CC s w j t []
  | c3 : w = "ask" → s.free = false → s.has = false → t.free = false → t.has = true → t.askers = s.askers ++ [j] → t.told = s.told → CC s w j t (s.others.map fun o => (("ask" : Str), s.number, o))
  | c4 : w ≠ "back" → w ≠ "ask" → (s.free = true ∨ (s.word = some false ∧ s.told.length + 1 < s.others.length)) → t.free = s.free → t.has = s.has → t.askers = s.askers → t.told = s.told ++ [j] → CC s w j t []
  | c5 : w ≠ "back" → w ≠ "ask" → s.free = false → ¬ (s.word = some false ∧ s.told.length + 1 < s.others.length) → t.free = true → t.has = s.has → t.askers = s.askers → t.told = s.told ++ [j] → CC s w j t (s.askers.map fun o => (("freed" : Str), s.number, o))
/-- who wakes, ahead of what the letter says -/
def Wk1 (s : HS) (j : Int) (b1 : List Lt) (wk : Option Int) : Prop := ((s.first || s.waker.isSome) = true ∧ b1 = [(("back" : Str), s.number, j)] ∧ wk = s.waker) ∨ ((s.first || s.waker.isSome) = false ∧ b1 = [] ∧ wk = some j)
/-- and behind it -/
def Wk2 (n : Int) (wk : Option Int) (ow : Int) (b2 : List Lt) (wk' : Option Int) : Prop := (∃ k, wk = some k ∧ ow = 0 ∧ wk' = none ∧ b2 = [(("back" : Str), n, k)]) ∨ ((wk = none ∨ ow ≠ 0) ∧ wk' = wk ∧ b2 = [])
/-- all that a letter does to a hand -/
def CD (s : HS) (w : Str) (j : Int) (t : HS) (b1 m b2 : List Lt) : Prop := CC s w j t m ∧ ∃ wk, ((w = "back" ∧ b1 = [] ∧ wk = s.waker ∧ t.owed = s.owed - 1) ∨ (w ≠ "back" ∧ Wk1 s j b1 wk ∧ t.owed = s.owed + (m.length : Int))) ∧ Wk2 s.number wk t.owed b2 t.waker
theorem woken_cc (s : HS) (j : Int) : (woken s j).1.free = s.free ∧ (woken s j).1.has = s.has ∧ (woken s j).1.askers = s.askers ∧ (woken s j).1.told = s.told ∧ (woken s j).1.number = s.number ∧ (woken s j).1.word = s.word ∧ (woken s j).1.others = s.others ∧ (woken s j).1.owed = s.owed ∧ Wk1 s j (woken s j).2 (woken s j).1.waker := by
  unfold woken Wk1
  cases h : (s.first || s.waker.isSome) with
  | true => exact ⟨rfl, rfl, rfl, rfl, rfl, rfl, rfl, rfl, .inl ⟨rfl, rfl, rfl⟩⟩
  | false => exact ⟨rfl, rfl, rfl, rfl, rfl, rfl, rfl, rfl, .inr ⟨rfl, rfl, rfl⟩⟩
theorem settle_cc (s : HS) : (settle s).1.free = s.free ∧ (settle s).1.has = s.has ∧ (settle s).1.askers = s.askers ∧ (settle s).1.told = s.told ∧ (settle s).1.owed = s.owed ∧ Wk2 s.number s.waker s.owed (settle s).2 (settle s).1.waker := by
  cases h : s.waker with
  | none =>
    have es : settle s = (s, []) := by unfold settle; rw [h]
    rw [es]
    exact ⟨rfl, rfl, rfl, rfl, rfl, .inr ⟨.inl rfl, h, rfl⟩⟩
  | some k =>
    by_cases e : s.owed = 0
    · have es : settle s = ({ s with waker := none }, [(("back" : Str), s.number, k)]) := by unfold settle; rw [h]; simp only [if_pos e]
      rw [es]
      exact ⟨rfl, rfl, rfl, rfl, rfl, .inl ⟨k, rfl, e, rfl, rfl⟩⟩
    · have es : settle s = (s, []) := by unfold settle; rw [h]; simp only [if_neg e]
      rw [es]
      exact ⟨rfl, rfl, rfl, rfl, rfl, .inr ⟨.inr e, h, rfl⟩⟩
theorem come_cd (s : HS) (w : Str) (j : Int) : ∃ b1 m b2, (come s w j).2 = b1 ++ m ++ b2 ∧ CD s w j (come s w j).1 b1 m b2 := by
  obtain ⟨t1, t2, t3, t4, t5, t6⟩ := settle_cc (come1 s w j).1
  by_cases hb : w = "back"
  · have e : come1 s w j = ({ s with owed := s.owed - 1 }, []) := by unfold come1; rw [if_pos hb]
    refine ⟨[], [], (settle (come1 s w j).1).2, ?_, ?_⟩
    · unfold come
      rw [e]
      rfl
    · show CD s w j (settle (come1 s w j).1).1 [] [] _
      rw [e] at t1 t2 t3 t4 t5 t6 ⊢
      refine ⟨.c0 hb t1 t2 t3 t4, s.waker, .inl ⟨hb, rfl, rfl, t5⟩, ?_⟩
      rw [t5]
      exact t6
  · obtain ⟨w1, w2, w3, w4, w5, w6, w7, w9, w8⟩ := woken_cc s j
    generalize ew : woken s j = p at *
    by_cases ha : w = "ask"
    · have e : come1 s w j = ((askedBy p.1 j).1, p.2 ++ (askedBy p.1 j).2) := by
        unfold come1
        rw [if_neg hb, ew]
        simp only [if_pos ha]
      refine ⟨p.2, (askedBy p.1 j).2, (settle (come1 s w j).1).2, ?_, ?_⟩
      · unfold come
        rw [e]
      · show CD s w j (settle (come1 s w j).1).1 _ _ _
        rw [e] at t1 t2 t3 t4 t5 t6 ⊢
        cases hf : s.free with
        | true =>
          have e2 : askedBy p.1 j = posted p.1 "freed" [j] := by unfold askedBy; rw [if_pos (by rw [w1]; exact hf)]
          rw [e2] at t1 t2 t3 t4 t5 t6 ⊢
          have e3 : (posted p.1 "freed" [j]).2 = [(("freed" : Str), s.number, j)] := by show [(("freed" : Str), p.1.number, j)] = _; rw [w5]
          rw [e3]
          refine ⟨.c1 ha hf (t1.trans (w1.trans hf)) (t2.trans w2) (t3.trans w3) (t4.trans w4), p.1.waker, .inr ⟨hb, w8, t5.trans (by show p.1.owed + (1 : Int) = _; rw [w9]; rfl)⟩, ?_⟩
          rw [t5, ← w5]
          exact t6
        | false =>
          cases hh : s.has with
          | true =>
            have e2 : askedBy p.1 j = ({ p.1 with askers := p.1.askers ++ [j] }, []) := by unfold askedBy; rw [if_neg (by rw [w1, hf]; decide), if_pos (by rw [w2]; exact hh)]
            rw [e2] at t1 t2 t3 t4 t5 t6 ⊢
            refine ⟨.c2 ha hf hh (t1.trans (w1.trans hf)) (t2.trans (w2.trans hh)) (t3.trans (by rw [w3])) (t4.trans w4), p.1.waker, .inr ⟨hb, w8, t5.trans (by show p.1.owed = s.owed + (0 : Int); rw [w9, Int.add_zero])⟩, ?_⟩
            rw [t5, ← w5]
            exact t6
          | false =>
            have e2 : askedBy p.1 j = asking { p.1 with askers := p.1.askers ++ [j] } := by unfold askedBy; rw [if_neg (by rw [w1, hf]; decide), if_neg (by rw [w2, hh]; decide)]
            rw [e2] at t1 t2 t3 t4 t5 t6 ⊢
            have e3 : (asking { p.1 with askers := p.1.askers ++ [j] }).2 = s.others.map fun o => (("ask" : Str), s.number, o) := by
              show (p.1.others.map fun o => (("ask" : Str), p.1.number, o)) = _
              rw [w5, w7]
            rw [e3]
            refine ⟨.c3 ha hf hh (t1.trans (w1.trans hf)) t2 (t3.trans (by show p.1.askers ++ [j] = _; rw [w3])) (t4.trans w4), p.1.waker, .inr ⟨hb, w8, t5.trans (by show p.1.owed + (p.1.others.length : Int) = _; rw [w9, w7, List.length_map])⟩, ?_⟩
            rw [t5, ← w5]
            exact t6
    · have e : come1 s w j = ((toldBy p.1 j).1, p.2 ++ (toldBy p.1 j).2) := by
        unfold come1
        rw [if_neg hb, ew]
        simp only [if_neg ha]
      refine ⟨p.2, (toldBy p.1 j).2, (settle (come1 s w j).1).2, ?_, ?_⟩
      · unfold come
        rw [e]
      · show CD s w j (settle (come1 s w j).1).1 _ _ _
        rw [e] at t1 t2 t3 t4 t5 t6 ⊢
        have e0 : toldBy p.1 j = if (s.free || (decide (s.word = some false) && decide (s.told.length + 1 < s.others.length))) = true then ({ p.1 with told := p.1.told ++ [j] }, []) else posted { p.1 with told := p.1.told ++ [j], free := true } "freed" p.1.askers := by
          have ec : (p.1.free || (decide (p.1.word = some false) && decide (p.1.told.length + 1 < p.1.others.length))) = (s.free || (decide (s.word = some false) && decide (s.told.length + 1 < s.others.length))) := by rw [w1, w6, w4, w7]
          unfold toldBy
          rw [ec]
        by_cases q : s.free = true ∨ (s.word = some false ∧ s.told.length + 1 < s.others.length)
        · have e2 : toldBy p.1 j = ({ p.1 with told := p.1.told ++ [j] }, []) := by
            rw [e0, if_pos]
            rcases q with q | ⟨q1, q2⟩
            · rw [q]; rfl
            · rw [decide_eq_true q1, decide_eq_true q2, Bool.and_self, Bool.or_true]
          rw [e2] at t1 t2 t3 t4 t5 t6 ⊢
          refine ⟨.c4 hb ha q (t1.trans w1) (t2.trans w2) (t3.trans w3) (t4.trans (by rw [w4])), p.1.waker, .inr ⟨hb, w8, t5.trans (by show p.1.owed = s.owed + (0 : Int); rw [w9, Int.add_zero])⟩, ?_⟩
          rw [t5, ← w5]
          exact t6
        · have hf : s.free = false := by cases h : s.free with | true => exact absurd (.inl h) q | false => rfl
          have e2 : toldBy p.1 j = posted { p.1 with told := p.1.told ++ [j], free := true } "freed" p.1.askers := by
            rw [e0, if_neg]
            rw [hf, Bool.false_or]
            intro h
            rw [Bool.and_eq_true] at h
            exact q (.inr ⟨of_decide_eq_true h.1, of_decide_eq_true h.2⟩)
          rw [e2] at t1 t2 t3 t4 t5 t6 ⊢
          have e3 : (posted { p.1 with told := p.1.told ++ [j], free := true } "freed" p.1.askers).2 = s.askers.map fun o => (("freed" : Str), s.number, o) := by
            show (p.1.askers.map fun o => (("freed" : Str), p.1.number, o)) = _
            rw [w5, w3]
          rw [e3]
          refine ⟨.c5 hb ha hf (fun h => q (.inr h)) t1 (t2.trans w2) (t3.trans w3) (t4.trans (by show p.1.told ++ [j] = _; rw [w4])), p.1.waker, .inr ⟨hb, w8, t5.trans (by show p.1.owed + (p.1.askers.length : Int) = _; rw [w9, w3, List.length_map])⟩, ?_⟩
          rw [t5, ← w5]
          exact t6
theorem CC.mono {s t : HS} {w : Str} {j : Int} {m : List Lt} (c : CC s w j t m) : t.free = false → s.free = false := by
  intro h
  cases c with
  | c0 _ a => rw [← a]; exact h
  | c1 _ _ a => rw [a] at h; cases h
  | c2 _ a => exact a
  | c3 _ a => exact a
  | c4 _ _ _ a => rw [← a]; exact h
  | c5 _ _ a => exact a
theorem CC.to {s t : HS} {w : Str} {j : Int} {m : List Lt} (c : CC s w j t m) : ∀ l ∈ m, l.2.1 = s.number ∧ (l.2.2 = j ∨ l.2.2 ∈ s.others ∨ l.2.2 ∈ s.askers) := by
  intro l hl
  cases c with
  | c0 => cases hl
  | c1 => rw [List.mem_singleton.mp hl]; exact ⟨rfl, .inl rfl⟩
  | c2 => cases hl
  | c3 => obtain ⟨o, ho, rfl⟩ := List.mem_map.mp hl; exact ⟨rfl, .inr (.inl ho)⟩
  | c4 => cases hl
  | c5 => obtain ⟨o, ho, rfl⟩ := List.mem_map.mp hl; exact ⟨rfl, .inr (.inr ho)⟩
theorem CC.askers {s t : HS} {w : Str} {j : Int} {m : List Lt} (c : CC s w j t m) : t.askers = s.askers ∨ t.askers = s.askers ++ [j] := by
  cases c with
  | c0 _ _ _ a => exact .inl a
  | c1 _ _ _ _ a => exact .inl a
  | c2 _ _ _ _ _ a => exact .inr a
  | c3 _ _ _ _ _ a => exact .inr a
  | c4 _ _ _ _ _ a => exact .inl a
  | c5 _ _ _ _ _ _ a => exact .inl a
theorem CC.told {s t : HS} {w : Str} {j : Int} {m : List Lt} (c : CC s w j t m) : t.told = s.told ∨ t.told = s.told ++ [j] := by
  cases c with
  | c0 _ _ _ _ a => exact .inl a
  | c1 _ _ _ _ _ a => exact .inl a
  | c2 _ _ _ _ _ _ a => exact .inl a
  | c3 _ _ _ _ _ _ a => exact .inl a
  | c4 _ _ _ _ _ _ a => exact .inr a
  | c5 _ _ _ _ _ _ _ a => exact .inr a
theorem CD.b1 {s t : HS} {w : Str} {j : Int} {b1 m b2 : List Lt} (c : CD s w j t b1 m b2) : ∀ l ∈ b1, l.1 = "back" ∧ l.2.1 = s.number ∧ l.2.2 = j := by
  obtain ⟨_, wk, ⟨_, h, _⟩ | ⟨_, ⟨_, h, _⟩ | ⟨_, h, _⟩, _⟩, _⟩ := c
  · rw [h]; exact fun l hl => nomatch hl
  · rw [h]; intro l hl; rw [List.mem_singleton.mp hl]; exact ⟨rfl, rfl, rfl⟩
  · rw [h]; exact fun l hl => nomatch hl
theorem CD.b2 {s t : HS} {w : Str} {j : Int} {b1 m b2 : List Lt} (c : CD s w j t b1 m b2) : ∀ l ∈ b2, l.1 = "back" ∧ l.2.1 = s.number ∧ (l.2.2 = j ∨ s.waker = some l.2.2) := by
  obtain ⟨_, wk, h1, ⟨k, hk, _, _, hb⟩ | ⟨_, _, hb⟩⟩ := c
  · rw [hb]
    intro l hl
    rw [List.mem_singleton.mp hl]
    refine ⟨rfl, rfl, ?_⟩
    rcases h1 with ⟨_, _, h, _⟩ | ⟨_, ⟨_, _, h⟩ | ⟨_, _, h⟩, _⟩
    · exact .inr (by rw [← h]; exact hk)
    · exact .inr (by rw [← h]; exact hk)
    · rw [h] at hk; exact .inl (Option.some.inj hk).symm
  · rw [hb]; exact fun l hl => nomatch hl
theorem CD.waker {s t : HS} {w : Str} {j : Int} {b1 m b2 : List Lt} (c : CD s w j t b1 m b2) {k : Int} (h : t.waker = some k) : k = j ∨ s.waker = some k := by
  obtain ⟨_, wk, h1, ⟨k2, _, _, e, _⟩ | ⟨_, e, _⟩⟩ := c
  · rw [e] at h; cases h
  · rw [e] at h
    rcases h1 with ⟨_, _, q, _⟩ | ⟨_, ⟨_, _, q⟩ | ⟨_, _, q⟩, _⟩
    · exact .inr (by rw [← q]; exact h)
    · exact .inr (by rw [← q]; exact h)
    · rw [q] at h; exact .inl (Option.some.inj h).symm
/-! ### letters counted -/
def cnt (x : Lt) (row : List Lt) : Nat := row.countP fun l => decide (l = x)
theorem cntP_erase {P : Lt → Bool} : ∀ {row : List Lt} {p : Nat} {l : Lt}, row[p]? = some l → row.countP P = (row.eraseIdx p).countP P + if P l = true then 1 else 0
  | [], _, _, h => by simp at h
  | a :: row, 0, l, h => by
    simp at h
    subst h
    rw [List.countP_cons, List.eraseIdx_cons_zero]
  | a :: row, p + 1, l, h => by
    have ih := cntP_erase (P := P) (row := row) (p := p) (l := l) (by simpa using h)
    rw [List.countP_cons, List.eraseIdx_cons_succ, List.countP_cons, ih]
    omega
theorem cnt_app (x : Lt) (a b : List Lt) : cnt x (a ++ b) = cnt x a + cnt x b := List.countP_append
theorem cnt_erase {x l : Lt} {row : List Lt} {p : Nat} (h : row[p]? = some l) : cnt x row = cnt x (row.eraseIdx p) + if l = x then 1 else 0 := by
  have := cntP_erase (P := fun l => decide (l = x)) h
  unfold cnt
  rw [this]
  by_cases e : l = x
  · rw [if_pos e, if_pos (decide_eq_true e)]
  · rw [if_neg e, if_neg (by rw [decide_eq_false e]; decide)]
theorem cnt_back {x : Lt} {b : List Lt} (h : Backs b) (hx : x.1 ≠ "back") : cnt x b = 0 := by
  unfold cnt
  rw [List.countP_eq_zero]
  intro l hl q
  have := of_decide_eq_true q
  subst this
  exact hx (h _ hl)
theorem cnt_map {w w' : Str} {i a b : Int} : ∀ {rs : List Int}, cnt (w', a, b) (rs.map fun o => (w, i, o)) = if w = w' ∧ i = a then rs.count b else 0
  | [] => by simp [cnt]
  | o :: rs => by
    have ih := cnt_map (w := w) (w' := w') (i := i) (a := a) (b := b) (rs := rs)
    unfold cnt at ih ⊢
    rw [List.map_cons, List.countP_cons, ih]
    by_cases e : w = w' ∧ i = a
    · rw [if_pos e, if_pos e, List.count_cons]
      obtain ⟨rfl, rfl⟩ := e
      by_cases q : o = b
      · subst q
        simp
      · rw [if_neg (by rw [decide_eq_false (fun h => q (Prod.mk.inj (Prod.mk.inj h).2).2)]; decide), if_neg (by simpa using q)]
    · rw [if_neg e, if_neg e, if_neg (by
        intro q
        have := of_decide_eq_true q
        exact e ⟨(Prod.mk.inj this).1, (Prod.mk.inj (Prod.mk.inj this).2).1⟩)]
theorem cnt_mem {x : Lt} {row : List Lt} (h : x ∈ row) : 1 ≤ cnt x row := by
  unfold cnt
  exact List.countP_pos_iff.mpr ⟨x, h, decide_eq_true rfl⟩
theorem mem_cnt {x : Lt} {row : List Lt} (h : 1 ≤ cnt x row) : x ∈ row := by
  unfold cnt at h
  obtain ⟨l, hl, e⟩ := List.countP_pos_iff.mp h
  have := of_decide_eq_true e
  subst this
  exact hl
/-! ### the net -/
def hd (S : NS) (i : Int) : HS := handAt S.hands i.toNat
def inr (S : NS) (i : Int) : Prop := 0 ≤ i ∧ i < (S.hands.length : Int)
/-- an ask that was sent: on the way, or waiting for the other to be freed, or answered by a letter on the way, or told -/
def J1 (S : NS) (h j : Int) : Prop := cnt ("ask", h, j) S.row + (if (hd S j).free = true then 0 else (hd S j).askers.count h) + cnt ("freed", j, h) S.row + (hd S h).told.count j = if (hd S h).has = true ∧ j ∈ (hd S h).others then 1 else 0
structure NInv (S : NS) : Prop where
  num : ∀ i, inr S i → (hd S i).number = i
  fst : ∀ i, inr S i → (hd S i).first = decide (i = S.asker)
  oth : ∀ i, inr S i → (hd S i).others.Nodup ∧ ∀ x ∈ (hd S i).others, inr S x
  wrd : ∀ i, inr S i → (hd S i).free = false → ∃ b, (hd S i).word = some b
  row : ∀ l ∈ S.row, Wd3 l.1 ∧ inr S l.2.1 ∧ inr S l.2.2
  ask : ∀ i, inr S i → ∀ x ∈ (hd S i).askers, inr S x
  tol : ∀ i, inr S i → ∀ x ∈ (hd S i).told, inr S x
  wak : ∀ i k, inr S i → (hd S i).waker = some k → inr S k
  ask1 : inr S S.asker
  j1 : ∀ h j, inr S h → inr S j → J1 S h j
  akn : ∀ i, inr S i → (hd S i).askers.Nodup
theorem hd_of {S : NS} {i : Nat} {s : HS} (h : S.hands[i]? = some s) : hd S (i : Int) = s := by
  unfold hd
  rw [Int.toNat_natCast]
  exact handAt_of h
theorem hd_get {S : NS} {i : Int} (h : inr S i) : S.hands[i.toNat]? = some (hd S i) := by
  have hl : i.toNat < S.hands.length := by have := h.1; have := h.2; omega
  unfold hd handAt
  rw [List.getD_eq_getElem?_getD, List.getElem?_eq_getElem hl] <;> rfl
theorem inr_nat {S : NS} {i : Int} (h : inr S i) : i = (i.toNat : Int) := by have := h.1; omega
section
variable {S : NS} {p : Nat} {l : Lt}
theorem inr_bring {s : HS} {x : Int} : inr (bringS S p l s) x ↔ inr S x := by
  unfold inr
  show 0 ≤ x ∧ x < ((S.hands.set l.2.2.toNat _).length : Int) ↔ _
  rw [List.length_set]
theorem hd_bring {s : HS} {x : Int} (hi : inr S l.2.2) (hx : inr S x) : hd (bringS S p l s) x = if x = l.2.2 then (come s l.1 l.2.1).1 else hd S x := by
  unfold hd handAt
  show ((S.hands.set l.2.2.toNat (come s l.1 l.2.1).1).getD x.toNat _) = _
  have h1 := hi.1
  have h2 := hi.2
  have h3 := hx.1
  rw [List.getD_eq_getElem?_getD, List.getElem?_set]
  by_cases e : x = l.2.2
  · rw [if_pos e, if_pos (by rw [e]), if_pos (by omega)] <;> rfl
  · rw [if_neg e, if_neg (by omega), List.getD_eq_getElem?_getD]
end
theorem count_nodup : ∀ {l : List Int}, l.Nodup → ∀ x : Int, l.count x = if x ∈ l then 1 else 0
  | [], _, x => by simp
  | a :: l, h, x => by
    have h2 := List.nodup_cons.mp h
    rw [List.count_cons, count_nodup h2.2 x]
    by_cases e : a = x
    · subst e
      rw [if_neg h2.1, if_pos (beq_self_eq_true a), if_pos List.mem_cons_self]
    · rw [if_neg (show ¬ (a == x) = true by rw [beq_eq_false_iff_ne.mpr e]; decide)]
      by_cases m : x ∈ l
      · rw [if_pos m, if_pos (List.mem_cons_of_mem _ m)]
      · rw [if_neg m, if_neg (fun q => by rcases List.mem_cons.mp q with q | q; exact e q.symm; exact m q)]
end SB
/-! A net, plainly: the first state and each step keep what holds. -/
namespace SB
open PySem L2
theorem sub_lenN : ∀ {l m : List Int}, l.Nodup → (∀ x ∈ l, x ∈ m) → l.length ≤ m.length
  | [], _, _, _ => Nat.zero_le _
  | a :: l, m, nd, h => by
    have h1 := h a List.mem_cons_self
    have nd2 := (List.nodup_cons.mp nd)
    have ih := sub_lenN (l := l) (m := m.erase a) nd2.2 fun x hx => (List.mem_erase_of_ne (fun e => nd2.1 (by rw [← e]; exact hx))).mpr (h x (List.mem_cons_of_mem _ hx))
    rw [List.length_erase_of_mem h1] at ih
    have := List.length_pos_of_mem h1
    rw [List.length_cons]
    omega
theorem mem_bring {S : NS} {p : Nat} {l : Lt} {s : HS} {x : Lt} (h : x ∈ (bringS S p l s).row) : x ∈ S.row ∨ x ∈ (come s l.1 l.2.1).2 := by
  rcases List.mem_append.mp h with h | h
  · exact .inl (List.eraseIdx_subset h)
  · exact .inr h
theorem NInv.bring {S : NS} (h : NInv S) {p : Nat} {l : Lt} (hp : S.row[p]? = some l) : NInv (bringS S p l (hd S l.2.2)) := by
  obtain ⟨hwd, hj, hi⟩ := h.row l (List.mem_of_getElem? hp)
  obtain ⟨w, j, i⟩ := l
  replace hj : inr S j := hj
  replace hi : inr S i := hi
  replace hwd : Wd3 w := hwd
  show NInv (bringS S p (w, j, i) (hd S i))
  have kp := keep_come (s := hd S i) (w := w) (j := j)
  obtain ⟨b1, m, b2, els, cd⟩ := come_cd (hd S i) w j
  have hb1 := cd.b1
  have hb2 := cd.b2
  have hwk := fun k => cd.waker (k := k)
  have cc := cd.1
  have hnum := h.num i hi
  have hoth := h.oth i hi
  have hask := h.ask i hi
  have htol := h.tol i hi
  have hwak := h.wak i
  have hg : ∀ x, inr S x → hd (bringS S p (w, j, i) (hd S i)) x = if x = i then (come (hd S i) w j).1 else hd S x := fun x hx => hd_bring (l := (w, j, i)) hi hx
  have hin : ∀ x, inr (bringS S p (w, j, i) (hd S i)) x ↔ inr S x := fun x => inr_bring
  have hrow : (bringS S p (w, j, i) (hd S i)).row = S.row.eraseIdx p ++ (b1 ++ m ++ b2) := by rw [← els]; rfl
  have hw3 := come_w (s := hd S i) (w := w) (j := j)
  rw [els] at hw3
  generalize (come (hd S i) w j).1 = t at *
  have hto : ∀ x ∈ b1 ++ m ++ b2, x.2.1 = i ∧ inr S x.2.2 := by
    intro x hx
    rcases List.mem_append.mp hx with hx | hx
    · rcases List.mem_append.mp hx with hx | hx
      · obtain ⟨_, a, b⟩ := hb1 x hx
        exact ⟨a.trans hnum, by rw [b]; exact hj⟩
      · obtain ⟨a, b⟩ := cc.to x hx
        refine ⟨a.trans hnum, ?_⟩
        rcases b with b | b | b
        · rw [b]; exact hj
        · exact hoth.2 _ b
        · exact hask _ b
    · obtain ⟨_, a, b⟩ := hb2 x hx
      refine ⟨a.trans hnum, ?_⟩
      rcases b with b | b
      · rw [b]; exact hj
      · exact hwak _ hi b
  constructor
  · intro x hx
    rw [hin] at hx
    rw [hg x hx]
    split
    · rename_i e; rw [kp.number, hnum, e]
    · exact h.num x hx
  · intro x hx
    rw [hin] at hx
    rw [hg x hx]
    split
    · rename_i e; rw [kp.first, e]; exact h.fst i hi
    · exact h.fst x hx
  · intro x hx
    rw [hin] at hx
    rw [hg x hx]
    split
    · rw [kp.others]; exact ⟨hoth.1, fun y hy => (hin y).mpr (hoth.2 y hy)⟩
    · exact ⟨(h.oth x hx).1, fun y hy => (hin y).mpr ((h.oth x hx).2 y hy)⟩
  · intro x hx
    rw [hin] at hx
    rw [hg x hx]
    split
    · intro hf
      rw [kp.word]
      exact h.wrd i hi (cc.mono hf)
    · exact h.wrd x hx
  · intro x hx
    rw [hrow] at hx
    rcases List.mem_append.mp hx with hx | hx
    · obtain ⟨a, b, c⟩ := h.row x (List.eraseIdx_subset hx)
      exact ⟨a, (hin _).mpr b, (hin _).mpr c⟩
    · obtain ⟨a, b⟩ := hto x hx
      exact ⟨hw3 x hx, (hin _).mpr (by rw [a]; exact hi), (hin _).mpr b⟩
  · intro x hx y hy
    rw [hin] at hx ⊢
    rw [hg x hx] at hy
    split at hy
    · rcases cc.askers with e | e
      · rw [e] at hy; exact hask y hy
      · rw [e] at hy
        rcases List.mem_append.mp hy with hy | hy
        · exact hask y hy
        · rw [List.mem_singleton.mp hy]; exact hj
    · exact h.ask x hx y hy
  · intro x hx y hy
    rw [hin] at hx ⊢
    rw [hg x hx] at hy
    split at hy
    · rcases cc.told with e | e
      · rw [e] at hy; exact htol y hy
      · rw [e] at hy
        rcases List.mem_append.mp hy with hy | hy
        · exact htol y hy
        · rw [List.mem_singleton.mp hy]; exact hj
    · exact h.tol x hx y hy
  · intro x k hx hk
    rw [hin] at hx ⊢
    rw [hg x hx] at hk
    split at hk
    · rcases hwk k hk with e | e
      · rw [e]; exact hj
      · exact hwak k hi e
    · exact h.wak x k hx hk
  · rw [hin]; exact h.ask1
  · -- the asks that were sent
    intro x y hx hy
    rw [hin] at hx hy
    have hj1 := h.j1 x y hx hy
    unfold J1 at hj1 ⊢
    rw [hg x hx, hg y hy, hrow]
    have hB : ∀ z : Lt, z.1 ≠ "back" → cnt z (S.row.eraseIdx p ++ (b1 ++ m ++ b2)) + (if (w, j, i) = z then 1 else 0) = cnt z S.row + cnt z m := by
      intro z hz
      rw [cnt_app, cnt_app, cnt_app, cnt_back (fun l hl => (hb1 l hl).1) hz, cnt_back (fun l hl => (hb2 l hl).1) hz, cnt_erase (x := z) hp]
      omega
    have hA := hB ("ask", x, y) (by show ("ask" : Str) ≠ "back"; decide)
    have hF := hB ("freed", y, x) (by show ("freed" : Str) ≠ "back"; decide)
    have eA : ((w, j, i) = (("ask" : Str), x, y)) ↔ (w = "ask" ∧ j = x ∧ i = y) := by rw [Prod.mk.injEq, Prod.mk.injEq]
    have eF : ((w, j, i) = (("freed" : Str), y, x)) ↔ (w = "freed" ∧ j = y ∧ i = x) := by rw [Prod.mk.injEq, Prod.mk.injEq]
    simp only [eA] at hA
    simp only [eF] at hF
    generalize cnt (("ask" : Str), x, y) (S.row.eraseIdx p ++ (b1 ++ m ++ b2)) = a' at *
    generalize cnt (("freed" : Str), y, x) (S.row.eraseIdx p ++ (b1 ++ m ++ b2)) = f' at *
    have nb : ¬ ("back" : Str) = "ask" := by decide
    have nb2 : ¬ ("back" : Str) = "freed" := by decide
    have na : ¬ ("ask" : Str) = "freed" := by decide
    have nf : ¬ ("freed" : Str) = "ask" := by decide
    have zA : cnt (("ask" : Str), x, y) [] = 0 := rfl
    have zF : cnt (("freed" : Str), y, x) [] = 0 := rfl
    -- the hand's own lists
    have ct : ∀ (l : List Int) (u v : Int), (l ++ [u]).count v = l.count v + if u = v then 1 else 0 := by
      intro l u v
      rw [List.count_append, List.count_cons, List.count_nil, Nat.zero_add]
      by_cases e : u = v
      · rw [if_pos e, if_pos (by rw [e]; exact beq_self_eq_true v)]
      · rw [if_neg e, if_neg (by rw [beq_eq_false_iff_ne.mpr e]; decide)]
    cases cc with
    | c0 hw a1 a2 a3 a4 =>
      subst hw
      rw [zA, if_neg (fun q => nb q.1)] at hA
      rw [zF, if_neg (fun q => nb2 q.1)] at hF
      have e1 : (if y = i then t else hd S y).free = (hd S y).free := by split; rename_i e; rw [e, a1]; rfl
      have e2 : (if y = i then t else hd S y).askers = (hd S y).askers := by split; rename_i e; rw [e, a3]; rfl
      have e3 : (if x = i then t else hd S x).told = (hd S x).told := by split; rename_i e; rw [e, a4]; rfl
      have e4 : (if x = i then t else hd S x).has = (hd S x).has := by split; rename_i e; rw [e, a2]; rfl
      have e5 : (if x = i then t else hd S x).others = (hd S x).others := by split; rename_i e; rw [e, kp.others]; rfl
      rw [e1, e2, e3, e4, e5]
      omega
    | c1 hw hf a1 a2 a3 a4 =>
      subst hw
      rw [hnum] at hA hF
      have e1 : (if y = i then t else hd S y).free = (hd S y).free := by split; rename_i e; rw [e, a1, hf]; rfl
      have e2 : (if y = i then t else hd S y).askers = (hd S y).askers := by split; rename_i e; rw [e, a3]; rfl
      have e3 : (if x = i then t else hd S x).told = (hd S x).told := by split; rename_i e; rw [e, a4]; rfl
      have e4 : (if x = i then t else hd S x).has = (hd S x).has := by split; rename_i e; rw [e, a2]; rfl
      have e5 : (if x = i then t else hd S x).others = (hd S x).others := by split; rename_i e; rw [e, kp.others]; rfl
      rw [e1, e2, e3, e4, e5]
      have c1 : cnt (("ask" : Str), x, y) [(("freed" : Str), i, j)] = 0 := by
        have := cnt_map (w := "freed") (w' := "ask") (i := i) (a := x) (b := y) (rs := [j])
        rw [if_neg (fun q => nf q.1)] at this
        exact this
      have c2 : cnt (("freed" : Str), y, x) [(("freed" : Str), i, j)] = if j = x ∧ i = y then 1 else 0 := by
        have := cnt_map (w := "freed") (w' := "freed") (i := i) (a := y) (b := x) (rs := [j])
        rw [show [j].count x = if j = x then 1 else 0 by rw [List.count_cons, List.count_nil, Nat.zero_add]; by_cases e : j = x; rw [if_pos e, if_pos (by rw [e]; exact beq_self_eq_true x)]; rw [if_neg e, if_neg (by rw [beq_eq_false_iff_ne.mpr e]; decide)]] at this
        refine this.trans ?_
        by_cases q1 : i = y
        · by_cases q2 : j = x
          · rw [if_pos ⟨rfl, q1⟩, if_pos q2, if_pos ⟨q2, q1⟩]
          · rw [if_pos ⟨rfl, q1⟩, if_neg q2, if_neg (fun q => q2 q.1)]
        · rw [if_neg (fun q => q1 q.2), if_neg (fun q => q1 q.2)]
      rw [c1] at hA
      rw [c2, if_neg (fun q => na q.1)] at hF
      by_cases q : j = x ∧ i = y
      · rw [if_pos ⟨rfl, q⟩] at hA
        rw [if_pos q] at hF
        have ef : (hd S y).free = true := by rw [← q.2]; exact hf
        rw [ef, if_pos rfl] at hj1 ⊢
        omega
      · rw [if_neg (fun z => q z.2)] at hA
        rw [if_neg q] at hF
        omega
    | c2 hw hf hh a1 a2 a3 a4 =>
      subst hw
      rw [zA] at hA
      rw [zF, if_neg (fun q => na q.1)] at hF
      have e1 : (if y = i then t else hd S y).free = (hd S y).free := by split; rename_i e; rw [e, a1, hf]; rfl
      have e3 : (if x = i then t else hd S x).told = (hd S x).told := by split; rename_i e; rw [e, a4]; rfl
      have e4 : (if x = i then t else hd S x).has = (hd S x).has := by split; rename_i e; rw [e, a2, hh]; rfl
      have e5 : (if x = i then t else hd S x).others = (hd S x).others := by split; rename_i e; rw [e, kp.others]; rfl
      rw [e1, e3, e4, e5]
      by_cases qy : y = i
      · subst qy
        rw [if_pos rfl, a3, ct]
        rw [hf] at hj1 ⊢
        simp only [Bool.false_eq_true, if_false] at hj1 ⊢
        by_cases qx : j = x
        · rw [if_pos ⟨rfl, qx, rfl⟩] at hA
          rw [if_pos qx]
          omega
        · rw [if_neg (fun z => qx z.2.1)] at hA
          rw [if_neg qx]
          omega
      · rw [if_neg qy]
        rw [if_neg (fun z => qy z.2.2.symm)] at hA
        omega
    | c3 hw hf hh a1 a2 a3 a4 =>
      subst hw
      rw [hnum] at hA hF
      have cA := cnt_map (w := "ask") (w' := "ask") (i := i) (a := x) (b := y) (rs := (hd S i).others)
      have cF := cnt_map (w := "ask") (w' := "freed") (i := i) (a := y) (b := x) (rs := (hd S i).others)
      rw [if_neg (fun q => na q.1)] at cF
      rw [cF, if_neg (fun q => na q.1)] at hF
      have e1 : (if y = i then t else hd S y).free = (hd S y).free := by split; rename_i e; rw [e, a1, hf]; rfl
      have e3 : (if x = i then t else hd S x).told = (hd S x).told := by split; rename_i e; rw [e, a4]; rfl
      have e5 : (if x = i then t else hd S x).others = (hd S x).others := by split; rename_i e; rw [e, kp.others]; rfl
      rw [e1, e3, e5]
      -- the askers of y
      have ey : (if (hd S y).free = true then 0 else (if y = i then t else hd S y).askers.count x) = (if (hd S y).free = true then 0 else (hd S y).askers.count x) + if j = x ∧ i = y then 1 else 0 := by
        by_cases qy : y = i
        · subst qy
          rw [if_pos rfl, a3, ct, hf, if_neg Bool.false_ne_true, if_neg Bool.false_ne_true]
          by_cases qx : j = x
          · rw [if_pos qx, if_pos ⟨qx, rfl⟩]
          · rw [if_neg qx, if_neg (fun z => qx z.1)]
        · rw [if_neg qy, if_neg (show ¬ (j = x ∧ i = y) from fun z => qy z.2.symm)]
          omega
      rw [ey]
      have ejx : (if ("ask" : Str) = "ask" ∧ j = x ∧ i = y then 1 else 0) = if j = x ∧ i = y then 1 else 0 := by
        by_cases q : j = x ∧ i = y
        · rw [if_pos ⟨rfl, q⟩, if_pos q]
        · rw [if_neg (fun z => q z.2), if_neg q]
      rw [ejx] at hA
      by_cases qx : x = i
      · subst qx
        rw [if_pos ⟨rfl, rfl⟩, count_nodup hoth.1] at cA
        rw [cA] at hA
        rw [if_neg (show ¬ ((hd S x).has = true ∧ y ∈ (hd S x).others) from fun z => by rw [hh] at z; cases z.1)] at hj1
        rw [if_pos rfl, a2]
        by_cases qm : y ∈ (hd S x).others
        · rw [if_pos qm] at hA
          rw [if_pos (show true = true ∧ y ∈ (hd S x).others from ⟨rfl, qm⟩)]
          omega
        · rw [if_neg qm] at hA
          rw [if_neg (show ¬ (true = true ∧ y ∈ (hd S x).others) from fun z => qm z.2)]
          omega
      · rw [if_neg (fun z => qx z.2.symm)] at cA
        rw [cA] at hA
        rw [if_neg qx]
        omega
    | c4 hw1 hw2 hq a1 a2 a3 a4 =>
      have ew : w = "freed" := by rcases hwd with q | q | q; exact absurd q hw2; exact q; exact absurd q hw1
      subst ew
      rw [zA, if_neg (fun q => nf q.1)] at hA
      rw [zF] at hF
      have e1 : (if y = i then t else hd S y).free = (hd S y).free := by split; rename_i e; rw [e, a1]; rfl
      have e2 : (if y = i then t else hd S y).askers = (hd S y).askers := by split; rename_i e; rw [e, a3]; rfl
      have e4 : (if x = i then t else hd S x).has = (hd S x).has := by split; rename_i e; rw [e, a2]; rfl
      have e5 : (if x = i then t else hd S x).others = (hd S x).others := by split; rename_i e; rw [e, kp.others]; rfl
      rw [e1, e2, e4, e5]
      by_cases qx : x = i
      · subst qx
        rw [if_pos rfl, a4, ct]
        by_cases qy : j = y
        · rw [if_pos ⟨rfl, qy, rfl⟩] at hF
          rw [if_pos qy]
          omega
        · rw [if_neg (fun z => qy z.2.1)] at hF
          rw [if_neg qy]
          omega
      · rw [if_neg qx]
        rw [if_neg (fun z => qx z.2.2.symm)] at hF
        omega
    | c5 hw1 hw2 hf hq a1 a2 a3 a4 =>
      have ew : w = "freed" := by rcases hwd with q | q | q; exact absurd q hw2; exact q; exact absurd q hw1
      subst ew
      rw [hnum] at hA hF
      have cA := cnt_map (w := "freed") (w' := "ask") (i := i) (a := x) (b := y) (rs := (hd S i).askers)
      have cF := cnt_map (w := "freed") (w' := "freed") (i := i) (a := y) (b := x) (rs := (hd S i).askers)
      rw [if_neg (fun q => nf q.1)] at cA
      rw [cA, if_neg (fun q => nf q.1)] at hA
      have e4 : (if x = i then t else hd S x).has = (hd S x).has := by split; rename_i e; rw [e, a2]; rfl
      have e5 : (if x = i then t else hd S x).others = (hd S x).others := by split; rename_i e; rw [e, kp.others]; rfl
      rw [e4, e5]
      have ex : (if x = i then t else hd S x).told.count y = (hd S x).told.count y + if j = y ∧ i = x then 1 else 0 := by
        by_cases qx : x = i
        · subst qx
          rw [if_pos rfl, a4, ct]
          by_cases qy : j = y
          · rw [if_pos qy, if_pos ⟨qy, rfl⟩]
          · rw [if_neg qy, if_neg (fun z => qy z.1)]
        · rw [if_neg qx, if_neg (fun z => qx z.2.symm)]
          omega
      rw [ex]
      have ejx : (if ("freed" : Str) = "freed" ∧ j = y ∧ i = x then 1 else 0) = if j = y ∧ i = x then 1 else 0 := by
        by_cases q : j = y ∧ i = x
        · rw [if_pos ⟨rfl, q⟩, if_pos q]
        · rw [if_neg (fun z => q z.2), if_neg q]
      rw [ejx] at hF
      by_cases qy : y = i
      · subst qy
        rw [if_pos ⟨rfl, rfl⟩] at cF
        rw [cF] at hF
        rw [hf] at hj1
        simp only [Bool.false_eq_true, if_false] at hj1
        simp only [if_true, a1]
        omega
      · rw [if_neg (fun z => qy z.2.symm)] at cF
        rw [cF] at hF
        rw [if_neg qy]
        omega
  · intro x hx
    rw [hin] at hx
    rw [hg x hx]
    split
    · have hno : w = "ask" → (hd S i).free = false → j ∉ (hd S i).askers := fun ew ef => by
        have h1 := h.j1 j i hj hi
        unfold J1 at h1
        rw [ef, if_neg Bool.false_ne_true] at h1
        have h2 : 1 ≤ cnt (("ask" : Str), j, i) S.row := by rw [← ew]; exact cnt_mem (List.mem_of_getElem? hp)
        have h3 : (if (hd S j).has = true ∧ i ∈ (hd S j).others then 1 else 0) ≤ 1 := by split; exact Nat.le_refl 1; exact Nat.zero_le 1
        exact List.count_eq_zero.mp (by omega)
      have hsn : ∀ q : w = "ask" ∧ (hd S i).free = false, t.askers = (hd S i).askers ++ [j] → t.askers.Nodup := fun q e => by
        rw [e, List.nodup_append]
        exact ⟨h.akn i hi, List.nodup_cons.mpr ⟨List.not_mem_nil, List.nodup_nil⟩, fun a ha b hb e2 => hno q.1 q.2 (by rw [← List.mem_singleton.mp hb, ← e2]; exact ha)⟩
      cases cc with
      | c0 _ _ _ a => rw [a]; exact h.akn i hi
      | c1 _ _ _ _ a => rw [a]; exact h.akn i hi
      | c2 q1 q2 _ _ _ a => exact hsn ⟨q1, q2⟩ a
      | c3 q1 q2 _ _ _ a => exact hsn ⟨q1, q2⟩ a
      | c4 _ _ _ _ _ a => rw [a]; exact h.akn i hi
      | c5 _ _ _ _ _ _ a => rw [a]; exact h.akn i hi
    · exact h.akn x hx
/-- a freed letter that comes to a hand that waits: its sender has not told yet, and is waited for -/
theorem NInv.told {S : NS} (h : NInv S) {j i : Int} (hl : (("freed" : Str), j, i) ∈ S.row) : j ∈ (hd S i).others ∧ j ∉ (hd S i).told ∧ (hd S i).told.length + 1 ≤ (hd S i).others.length := by
  obtain ⟨_, hj, hi⟩ := h.row _ hl
  replace hj : inr S j := hj
  replace hi : inr S i := hi
  have h1 := h.j1 i j hi hj
  unfold J1 at h1
  have h2 := cnt_mem hl
  have hr : (hd S i).has = true ∧ j ∈ (hd S i).others := by
    by_cases q : (hd S i).has = true ∧ j ∈ (hd S i).others
    · exact q
    · rw [if_neg q] at h1; omega
  rw [if_pos hr] at h1
  have h3 : (hd S i).told.count j = 0 := by omega
  have hnj : j ∉ (hd S i).told := List.count_eq_zero.mp h3
  have hc : ∀ x ∈ (hd S i).told, (hd S i).told.count x = 1 ∧ x ∈ (hd S i).others := by
    intro x hx
    have h4 := h.j1 i x hi (h.tol i hi x hx)
    unfold J1 at h4
    have h5 := List.count_pos_iff.mpr hx
    by_cases q : (hd S i).has = true ∧ x ∈ (hd S i).others
    · rw [if_pos q] at h4
      exact ⟨by omega, q.2⟩
    · rw [if_neg q] at h4; omega
  have hnd : (hd S i).told.Nodup := by
    rw [List.nodup_iff_count]
    intro x
    by_cases hx : x ∈ (hd S i).told
    · rw [(hc x hx).1]; exact Nat.le_refl 1
    · rw [List.count_eq_zero.mpr hx]; exact Nat.zero_le 1
  refine ⟨hr.2, hnj, ?_⟩
  have := sub_lenN (l := j :: (hd S i).told) (m := (hd S i).others) (List.nodup_cons.mpr ⟨hnj, hnd⟩) (fun x hx => by
    rcases List.mem_cons.mp hx with rfl | hx
    · exact hr.2
    · exact (hc x hx).2)
  exact this
theorem NInv.told_nd {S : NS} (h : NInv S) {i : Int} (hi : inr S i) : (hd S i).told.Nodup := by
  rw [List.nodup_iff_count]
  intro x
  by_cases hx : x ∈ (hd S i).told
  · have h4 := h.j1 i x hi (h.tol i hi x hx)
    unfold J1 at h4
    have h3 : (if (hd S i).has = true ∧ x ∈ (hd S i).others then 1 else 0) ≤ 1 := by split; exact Nat.le_refl 1; exact Nat.zero_le 1
    omega
  · rw [List.count_eq_zero.mpr hx]; exact Nat.zero_le 1
theorem NInv.lens {S : NS} (h : NInv S) {i : Int} (hi : inr S i) : (hd S i).others.length ≤ S.hands.length ∧ (hd S i).askers.length ≤ S.hands.length ∧ (hd S i).told.length ≤ S.hands.length :=
  ⟨nodup_bound (h.oth i hi).1 (h.oth i hi).2, nodup_bound (h.akn i hi) (h.ask i hi), nodup_bound (h.told_nd hi) (h.tol i hi)⟩
theorem NInv.nbd {S : NS} (h : NInv S) (hn : S.hands.length ≤ 1000) (hr : S.row.length ≤ 50000) : NBd S := by
  refine ⟨fun s hs => ?_, hr⟩
  obtain ⟨i, hi⟩ := List.mem_iff_getElem?.mp hs
  have hlt := (List.getElem?_eq_some_iff.mp hi).1
  have hin : inr S (i : Int) := ⟨by omega, by omega⟩
  have := h.lens hin
  rw [hd_of hi] at this
  omega
theorem CC.len {s t : HS} {w : Str} {j : Int} {m : List Lt} (c : CC s w j t m) {n : Nat} (h1 : 1 ≤ n) (h2 : s.others.length ≤ n) (h3 : s.askers.length ≤ n) : m.length ≤ n := by
  cases c with
  | c0 => exact Nat.zero_le _
  | c1 => exact h1
  | c2 => exact Nat.zero_le _
  | c3 => rw [List.length_map]; exact h2
  | c4 => exact Nat.zero_le _
  | c5 => rw [List.length_map]; exact h3
theorem NInv.come_len {S : NS} (h : NInv S) {i : Int} (hi : inr S i) (w : Str) (j : Int) : (come (hd S i) w j).2.length ≤ S.hands.length + 2 := by
  obtain ⟨b1, m, b2, els, cd⟩ := come_cd (hd S i) w j
  obtain ⟨l1, l2, l3⟩ := h.lens hi
  have hpos : 1 ≤ S.hands.length := by have := hi.1; have := hi.2; omega
  have hm := cd.1.len hpos l1 l2
  have h1 : b1.length ≤ 1 := by
    obtain ⟨_, wk, ⟨_, e, _⟩ | ⟨_, ⟨_, e, _⟩ | ⟨_, e, _⟩, _⟩, _⟩ := cd
    · rw [e]; exact Nat.zero_le 1
    · rw [e]; exact Nat.le_refl 1
    · rw [e]; exact Nat.zero_le 1
  have h2 : b2.length ≤ 1 := by
    obtain ⟨_, wk, _, ⟨k, _, _, _, e⟩ | ⟨_, _, e⟩⟩ := cd
    · rw [e]; exact Nat.le_refl 1
    · rw [e]; exact Nat.zero_le 1
  rw [els, List.length_append, List.length_append]
  omega
theorem stepN {S : NS} (inv : NInv S) {p : Nat} {l : Lt} (hp : S.row[p]? = some l) : (bringS S p l (hd S l.2.2)).hands.length = S.hands.length ∧ (bringS S p l (hd S l.2.2)).row.length ≤ S.row.length + (S.hands.length + 2) ∧ (bringS S p l (hd S l.2.2)).asker = S.asker := by
  refine ⟨?_, ?_, rfl⟩
  · show (S.hands.set _ _).length = _
    rw [List.length_set]
  · obtain ⟨_, _, hi⟩ := inv.row l (List.mem_of_getElem? hp)
    have h1 := inv.come_len hi l.1 l.2.1
    show (S.row.eraseIdx p ++ _).length ≤ _
    rw [List.length_append]
    have h2 := List.length_eraseIdx_le S.row p
    omega
end SB
/-! A net, plainly: what holds at first. -/
namespace SB
open PySem L2
theorem mkH_oth {n : Nat} {i : Int} {w : Wt} {f : Bool} (h : okW n w) : (mkH i w f).others.Nodup ∧ ∀ x ∈ (mkH i w f).others, 0 ≤ x ∧ x < (n : Int) := by
  cases w with
  | none => exact ⟨List.nodup_nil, fun x hx => nomatch hx⟩
  | some p =>
    obtain ⟨b, os⟩ := p
    exact ⟨h.2.1, h.2.2⟩
theorem begin_keep (s : HS) : (begin s).1.number = s.number ∧ (begin s).1.first = s.first ∧ (begin s).1.others = s.others ∧ (begin s).1.free = s.free ∧ (begin s).1.word = s.word ∧ (begin s).1.askers = s.askers ∧ (begin s).1.told = s.told ∧ (begin s).1.waker = s.waker := by
  unfold begin
  split <;> exact ⟨rfl, rfl, rfl, rfl, rfl, rfl, rfl, rfl⟩
section
variable {ws : List Wt} {k : Nat}
theorem netS_len : (netS ws k).hands.length = ws.length := by
  show ((hands0 ws k).set k _).length = _
  rw [List.length_set, hands0_len]
theorem netS_inr {x : Int} : inr (netS ws k) x ↔ 0 ≤ x ∧ x < (ws.length : Int) := by unfold inr; rw [netS_len]
theorem hands0_hd {x : Int} (h0 : 0 ≤ x) {w : Wt} (h : ws[x.toNat]? = some w) : handAt (hands0 ws k) x.toNat = mkH x w (decide (x = (k : Int))) := by
  have h1 := hands0_at (k := k) h
  rw [handAt_of h1, show ((x.toNat : Nat) : Int) = x by omega]
theorem netS_hd {x : Int} (hx : inr (netS ws k) x) {w : Wt} (h : ws[x.toNat]? = some w) : hd (netS ws k) x = if x = (k : Int) then (begin (mkH x w true)).1 else mkH x w false := by
  have hx2 := netS_inr.mp hx
  have hlt := (List.getElem?_eq_some_iff.mp h).1
  have e0 := hands0_hd (k := k) hx2.1 h
  unfold hd
  show handAt ((hands0 ws k).set k (begin (handAt (hands0 ws k) k)).1) x.toNat = _
  by_cases e : x = (k : Int)
  · have ek : x.toNat = k := by omega
    rw [if_pos e]
    rw [ek] at e0 ⊢
    have : ((hands0 ws k).set k (begin (handAt (hands0 ws k) k)).1)[k]? = some (begin (handAt (hands0 ws k) k)).1 := List.getElem?_set_self (by rw [hands0_len]; omega)
    rw [handAt_of this, e0, decide_eq_true e]
  · rw [if_neg e]
    have : ((hands0 ws k).set k (begin (handAt (hands0 ws k) k)).1)[x.toNat]? = (hands0 ws k)[x.toNat]? := List.getElem?_set_ne (by omega)
    have e2 : ∀ l : List HS, handAt l x.toNat = (l[x.toNat]?).getD (mkH 0 none false) := fun l => by unfold handAt; exact List.getD_eq_getElem?_getD
    rw [e2, this, ← e2, e0, decide_eq_false e]
theorem at_ws {x : Int} (h0 : 0 ≤ x) (h : x < (ws.length : Int)) : ∃ w, ws[x.toNat]? = some w := ⟨ws[x.toNat]'(by omega), List.getElem?_eq_getElem (by omega)⟩
theorem NInv.start (ok : OkWs ws) (hk : k < ws.length) : NInv (netS ws k) := by
  have hki : inr (netS ws k) (k : Int) := netS_inr.mpr ⟨by omega, by omega⟩
  have key : ∀ x, inr (netS ws k) x → ∃ w, okW ws.length w ∧ hd (netS ws k) x = if x = (k : Int) then (begin (mkH x w true)).1 else mkH x w false := fun x hx => by
    have hx2 := netS_inr.mp hx
    obtain ⟨w, hw⟩ := at_ws hx2.1 hx2.2
    exact ⟨w, ok.all w (List.mem_of_getElem? hw), netS_hd hx hw⟩
  have hrow : ∃ w, okW ws.length w ∧ hd (netS ws k) (k : Int) = (begin (mkH (k : Int) w true)).1 ∧ (netS ws k).row = (begin (mkH (k : Int) w true)).2 := by
    obtain ⟨w, hw⟩ := at_ws (ws := ws) (x := (k : Int)) (by omega) (by omega)
    refine ⟨w, ok.all w (List.mem_of_getElem? hw), ?_, ?_⟩
    · have := netS_hd hki hw
      rw [if_pos rfl] at this
      exact this
    · have e := hands0_hd (k := k) (x := (k : Int)) (by omega) hw
      rw [decide_eq_true rfl] at e
      show (begin (handAt (hands0 ws k) k)).2 = _
      rw [Int.toNat_natCast] at e
      rw [e]
  constructor
  · intro x hx
    obtain ⟨w, _, e⟩ := key x hx
    rw [e]
    split
    · exact (begin_keep _).1
    · rfl
  · intro x hx
    obtain ⟨w, _, e⟩ := key x hx
    rw [e]
    show _ = decide (x = (k : Int))
    split
    · rename_i q; rw [(begin_keep _).2.1, decide_eq_true q]; rfl
    · rename_i q; rw [decide_eq_false q]; rfl
  · intro x hx
    obtain ⟨w, hw, e⟩ := key x hx
    rw [e]
    have h1 := mkH_oth (i := x) (f := true) hw
    have h2 := mkH_oth (i := x) (f := false) hw
    split
    · rw [(begin_keep _).2.2.1]
      exact ⟨h1.1, fun y hy => netS_inr.mpr (h1.2 y hy)⟩
    · exact ⟨h2.1, fun y hy => netS_inr.mpr (h2.2 y hy)⟩
  · intro x hx
    obtain ⟨w, hw, e⟩ := key x hx
    rw [e]
    have h1 : ∀ f, (mkH x w f).free = false → ∃ b, (mkH x w f).word = some b := fun f hf => by
      cases w with
      | none => cases hf
      | some p => exact ⟨p.1, rfl⟩
    split
    · rw [(begin_keep _).2.2.2.1, (begin_keep _).2.2.2.2.1]
      exact h1 true
    · exact h1 false
  · intro l hl
    obtain ⟨w, hw, _, er⟩ := hrow
    rw [er] at hl
    unfold begin at hl
    split at hl
    · cases hl
    · obtain ⟨o, ho, rfl⟩ := List.mem_map.mp hl
      have h1 := mkH_oth (i := (k : Int)) (f := true) hw
      exact ⟨.inl rfl, hki, netS_inr.mpr (h1.2 o ho)⟩
  · intro x hx y hy
    obtain ⟨w, hw, e⟩ := key x hx
    rw [e] at hy
    split at hy
    · rw [(begin_keep _).2.2.2.2.2.1] at hy; cases hy
    · cases hy
  · intro x hx y hy
    obtain ⟨w, hw, e⟩ := key x hx
    rw [e] at hy
    split at hy
    · rw [(begin_keep _).2.2.2.2.2.2.1] at hy; cases hy
    · cases hy
  · intro x y hx hy
    obtain ⟨w, hw, e⟩ := key x hx
    rw [e] at hy
    split at hy
    · rw [(begin_keep _).2.2.2.2.2.2.2] at hy; cases hy
    · cases hy
  · exact hki
  · intro x y hx hy
    unfold J1
    have e1 : (hd (netS ws k) y).askers = [] := by
      obtain ⟨w, hw, e⟩ := key y hy
      rw [e]
      split
      · rw [(begin_keep _).2.2.2.2.2.1]; rfl
      · rfl
    have e2 : (hd (netS ws k) x).told = [] := by
      obtain ⟨w, hw, e⟩ := key x hx
      rw [e]
      split
      · rw [(begin_keep _).2.2.2.2.2.2.1]; rfl
      · rfl
    rw [e1, e2]
    simp only [List.count_nil, ite_self, Nat.add_zero]
    obtain ⟨w0, hw0, eh, er⟩ := hrow
    have h1 := mkH_oth (i := (k : Int)) (f := true) hw0
    by_cases q : x = (k : Int)
    · subst q
      rw [eh, er]
      unfold begin
      cases hf : (mkH (k : Int) w0 true).free with
      | true =>
        rw [if_pos rfl]
        rw [if_neg (show ¬ ((mkH (k : Int) w0 true).has = true ∧ y ∈ (mkH (k : Int) w0 true).others) from fun z => by cases z.1)]
        rfl
      | false =>
        rw [if_neg Bool.false_ne_true]
        show cnt ("ask", (k : Int), y) ((mkH (k : Int) w0 true).others.map fun o => (("ask" : Str), (k : Int), o)) + cnt ("freed", y, (k : Int)) ((mkH (k : Int) w0 true).others.map fun o => (("ask" : Str), (k : Int), o)) = if true = true ∧ y ∈ (mkH (k : Int) w0 true).others then 1 else 0
        rw [cnt_map, cnt_map, if_pos ⟨rfl, rfl⟩, if_neg (show ¬ (("ask" : Str) = "freed" ∧ (k : Int) = y) from fun z => absurd z.1 (by decide)), count_nodup h1.1, Nat.add_zero]
        by_cases m : y ∈ (mkH (k : Int) w0 true).others
        · rw [if_pos m, if_pos ⟨rfl, m⟩]
        · rw [if_neg m, if_neg (fun z => m z.2)]
    · obtain ⟨w, hw, e⟩ := key x hx
      rw [e, if_neg q, er]
      rw [if_neg (show ¬ ((mkH x w false).has = true ∧ y ∈ (mkH x w false).others) from fun z => by cases z.1)]
      unfold begin
      split
      · rfl
      · show cnt ("ask", x, y) ((mkH (k : Int) w0 true).others.map fun o => (("ask" : Str), (k : Int), o)) + cnt ("freed", y, x) ((mkH (k : Int) w0 true).others.map fun o => (("ask" : Str), (k : Int), o)) = 0
        rw [cnt_map, cnt_map, if_neg (show ¬ (("ask" : Str) = "ask" ∧ (k : Int) = x) from fun z => q z.2.symm), if_neg (show ¬ (("ask" : Str) = "freed" ∧ (k : Int) = y) from fun z => absurd z.1 (by decide))]
  · intro x hx
    obtain ⟨w, hw, e⟩ := key x hx
    rw [e]
    split
    · rw [(begin_keep _).2.2.2.2.2.1]; exact List.nodup_nil
    · exact List.nodup_nil
end
end SB
/-! A net, plainly: what was sent and what was brought. -/
namespace SB
open PySem L2
/-- letters from h to i that are no backs -/
def cNB (h i : Int) (row : List Lt) : Nat := row.countP fun l => decide (l.1 ≠ ("back" : Str) ∧ l.2.1 = h ∧ l.2.2 = i)
theorem cNB_app (h i : Int) (a b : List Lt) : cNB h i (a ++ b) = cNB h i a + cNB h i b := List.countP_append
theorem cNB_one (h i : Int) (l : Lt) : cNB h i [l] = if l.1 ≠ ("back" : Str) ∧ l.2.1 = h ∧ l.2.2 = i then 1 else 0 := by
  unfold cNB
  rw [List.countP_cons, List.countP_nil, Nat.zero_add]
  by_cases e : l.1 ≠ ("back" : Str) ∧ l.2.1 = h ∧ l.2.2 = i
  · rw [if_pos e, if_pos (decide_eq_true e)]
  · rw [if_neg e, if_neg (by rw [decide_eq_false e]; decide)]
theorem cnt_one (x l : Lt) : cnt x [l] = if l = x then 1 else 0 := by
  unfold cnt
  rw [List.countP_cons, List.countP_nil, Nat.zero_add]
  by_cases e : l = x
  · rw [if_pos e, if_pos (decide_eq_true e)]
  · rw [if_neg e, if_neg (by rw [decide_eq_false e]; decide)]
structure KInv (S : NS) (sent come : List Lt) : Prop where
  cons : ∀ x, cnt x sent = cnt x S.row + cnt x come
  j2 : ∀ h j, inr S h → inr S j → cnt ("ask", h, j) sent = if (hd S h).has = true ∧ j ∈ (hd S h).others then 1 else 0
  j3 : ∀ h j, inr S h → inr S j → cnt ("freed", j, h) sent + (if (hd S j).free = true then 0 else (hd S j).askers.count h) = cnt ("ask", h, j) come
  j4 : ∀ h i, inr S h → inr S i → cnt ("back", i, h) sent + (if (hd S i).waker = some h then 1 else 0) = cNB h i come
/-- how many asks, freed, backs a letter sends -/
theorem CD.asks {s t : HS} {w : Str} {j : Int} {b1 m b2 : List Lt} (c : CD s w j t b1 m b2) (x y : Int) : cnt ("ask", x, y) m = if w = "ask" ∧ s.free = false ∧ s.has = false ∧ s.number = x then s.others.count y else 0 := by
  have nf : ¬ ("freed" : Str) = "ask" := by decide
  cases c.1 with
  | c0 h => rw [if_neg (fun z => by rw [h] at z; exact absurd z.1 (by decide))]; rfl
  | c1 h1 h2 =>
    rw [if_neg (fun z => by rw [h2] at z; cases z.2.1)]
    have := cnt_map (w := "freed") (w' := "ask") (i := s.number) (a := x) (b := y) (rs := [j])
    rw [if_neg (fun q => nf q.1)] at this
    exact this
  | c2 h1 h2 h3 => rw [if_neg (fun z => by rw [h3] at z; cases z.2.2.1)]; rfl
  | c3 h1 h2 h3 =>
    rw [cnt_map]
    by_cases e : s.number = x
    · rw [if_pos ⟨rfl, e⟩, if_pos ⟨h1, h2, h3, e⟩]
    · rw [if_neg (fun z => e z.2), if_neg (fun z => e z.2.2.2)]
  | c4 h1 h2 => rw [if_neg (fun z => h2 z.1)]; rfl
  | c5 h1 h2 =>
    rw [if_neg (fun z => h2 z.1), cnt_map, if_neg (fun z => nf z.1)]
theorem CC.nb {s t : HS} {w : Str} {j : Int} {m : List Lt} (c : CC s w j t m) : ∀ l ∈ m, l.1 ≠ "back" := by
  intro l hl
  cases c with
  | c0 => cases hl
  | c1 => rw [List.mem_singleton.mp hl]; show ("freed" : Str) ≠ "back"; decide
  | c2 => cases hl
  | c3 => obtain ⟨o, _, rfl⟩ := List.mem_map.mp hl; show ("ask" : Str) ≠ "back"; decide
  | c4 => cases hl
  | c5 => obtain ⟨o, _, rfl⟩ := List.mem_map.mp hl; show ("freed" : Str) ≠ "back"; decide
theorem cnt_nb {m : List Lt} (h : ∀ l ∈ m, l.1 ≠ "back") (i x : Int) : cnt ("back", i, x) m = 0 := by
  unfold cnt
  rw [List.countP_eq_zero]
  intro l hl q
  have := of_decide_eq_true q
  exact h l hl (by rw [this])
theorem KInv.bring {S : NS} {sent come : List Lt} (n : NInv S) (h : KInv S sent come) {p : Nat} {l : Lt} (hp : S.row[p]? = some l) : KInv (bringS S p l (hd S l.2.2)) (sent ++ (SB.come (hd S l.2.2) l.1 l.2.1).2) (come ++ [l]) := by
  obtain ⟨hwd, hj, hi⟩ := n.row l (List.mem_of_getElem? hp)
  obtain ⟨w, j, i⟩ := l
  replace hj : inr S j := hj
  replace hi : inr S i := hi
  replace hwd : Wd3 w := hwd
  show KInv (bringS S p (w, j, i) (hd S i)) (sent ++ (SB.come (hd S i) w j).2) (come ++ [(w, j, i)])
  have kp := keep_come (s := hd S i) (w := w) (j := j)
  obtain ⟨b1, m, b2, els, cd⟩ := come_cd (hd S i) w j
  have hb1 := cd.b1
  have hb2 := cd.b2
  have cc := cd.1
  have hnum := n.num i hi
  have hg : ∀ x, inr S x → hd (bringS S p (w, j, i) (hd S i)) x = if x = i then (SB.come (hd S i) w j).1 else hd S x := fun x hx => hd_bring (l := (w, j, i)) hi hx
  have hin : ∀ x, inr (bringS S p (w, j, i) (hd S i)) x ↔ inr S x := fun x => inr_bring
  have hrow : (bringS S p (w, j, i) (hd S i)).row = S.row.eraseIdx p ++ (b1 ++ m ++ b2) := by rw [← els]; rfl
  rw [els]
  generalize (SB.come (hd S i) w j).1 = t at *
  have nb : ¬ ("back" : Str) = "ask" := by decide
  have nb2 : ¬ ("back" : Str) = "freed" := by decide
  have na : ¬ ("ask" : Str) = "freed" := by decide
  have nf : ¬ ("freed" : Str) = "ask" := by decide
  have hback : ∀ z : Lt, z.1 ≠ "back" → cnt z (b1 ++ m ++ b2) = cnt z m := fun z hz => by
    rw [cnt_app, cnt_app, cnt_back (fun l hl => (hb1 l hl).1) hz, cnt_back (fun l hl => (hb2 l hl).1) hz]
    omega
  constructor
  · intro x
    rw [cnt_app, hrow, cnt_app (a := S.row.eraseIdx p), cnt_app (a := come), cnt_one]
    have h1 := h.cons x
    have h2 := cnt_erase (x := x) hp
    omega
  · intro x y hx hy
    rw [hin] at hx hy
    rw [hg x hx, cnt_app, hback _ (by show ("ask" : Str) ≠ "back"; decide), h.j2 x y hx hy, cd.asks x y, hnum]
    by_cases qx : x = i
    · subst qx
      rw [if_pos rfl, kp.others]
      cases cc with
      | c0 hw a1 a2 => rw [a2, if_neg (show ¬ (w = "ask" ∧ (hd S x).free = false ∧ (hd S x).has = false ∧ x = x) from fun z => by rw [hw] at z; exact nb z.1), Nat.add_zero]
      | c1 hw hf a1 a2 => rw [a2, if_neg (show ¬ (w = "ask" ∧ (hd S x).free = false ∧ (hd S x).has = false ∧ x = x) from fun z => by rw [hf] at z; cases z.2.1), Nat.add_zero]
      | c2 hw hf hh a1 a2 =>
        rw [a2, if_neg (fun z : w = "ask" ∧ (hd S x).free = false ∧ (hd S x).has = false ∧ x = x => by rw [hh] at z; cases z.2.2.1), hh, Nat.add_zero]
      | c3 hw hf hh a1 a2 =>
        rw [a2, if_neg (show ¬ ((hd S x).has = true ∧ y ∈ (hd S x).others) from fun z => by rw [hh] at z; cases z.1), if_pos ⟨hw, hf, hh, rfl⟩, count_nodup (n.oth x hi).1, Nat.zero_add]
        by_cases qm : y ∈ (hd S x).others
        · rw [if_pos qm, if_pos ⟨rfl, qm⟩]
        · rw [if_neg qm, if_neg (fun z => qm z.2)]
      | c4 h1 h2 _ a1 a2 => rw [a2, if_neg (fun z : w = "ask" ∧ (hd S x).free = false ∧ (hd S x).has = false ∧ x = x => h2 z.1), Nat.add_zero]
      | c5 h1 h2 _ _ a1 a2 => rw [a2, if_neg (fun z : w = "ask" ∧ (hd S x).free = false ∧ (hd S x).has = false ∧ x = x => h2 z.1), Nat.add_zero]
    · rw [if_neg qx, if_neg (fun z : w = "ask" ∧ (hd S i).free = false ∧ (hd S i).has = false ∧ i = x => qx z.2.2.2.symm), Nat.add_zero]
  · intro x y hx hy
    rw [hin] at hx hy
    have h3 := h.j3 x y hx hy
    rw [hg y hy, cnt_app, hback _ (by show ("freed" : Str) ≠ "back"; decide), cnt_app (a := come), cnt_one]
    have eA : ((w, j, i) = (("ask" : Str), x, y)) ↔ (w = "ask" ∧ j = x ∧ i = y) := by rw [Prod.mk.injEq, Prod.mk.injEq]
    simp only [eA]
    have ct : ∀ (l : List Int) (u v : Int), (l ++ [u]).count v = l.count v + if u = v then 1 else 0 := by
      intro l u v
      rw [List.count_append, List.count_cons, List.count_nil, Nat.zero_add]
      by_cases e : u = v
      · rw [if_pos e, if_pos (by rw [e]; exact beq_self_eq_true v)]
      · rw [if_neg e, if_neg (by rw [beq_eq_false_iff_ne.mpr e]; decide)]
    have z0 : cnt (("freed" : Str), y, x) [] = 0 := rfl
    by_cases qy : y = i
    · subst qy
      rw [if_pos rfl]
      cases cc with
      | c0 hw a1 a2 a3 =>
        rw [a1, a3, z0, if_neg (show ¬ (w = "ask" ∧ j = x ∧ y = y) from fun z => by rw [hw] at z; exact nb z.1)]
        omega
      | c1 hw hf a1 a2 a3 =>
        rw [hf, if_pos rfl] at h3
        rw [a1, if_pos rfl]
        have c2 : cnt (("freed" : Str), y, x) [(("freed" : Str), (hd S y).number, j)] = if j = x then 1 else 0 := by
          rw [cnt_one, hnum]
          by_cases q : j = x
          · rw [if_pos q, if_pos (by rw [q])]
          · rw [if_neg q, if_neg (fun z => q (Prod.mk.inj (Prod.mk.inj z).2).2)]
        rw [c2]
        by_cases q : j = x
        · rw [if_pos q, if_pos ⟨hw, q, rfl⟩]; omega
        · rw [if_neg q, if_neg (show ¬ (w = "ask" ∧ j = x ∧ y = y) from fun z => q z.2.1)]; omega
      | c2 hw hf hh a1 a2 a3 =>
        rw [hf, if_neg Bool.false_ne_true] at h3
        rw [a1, if_neg Bool.false_ne_true, a3, ct, z0]
        by_cases q : j = x
        · rw [if_pos q, if_pos ⟨hw, q, rfl⟩]; omega
        · rw [if_neg q, if_neg (show ¬ (w = "ask" ∧ j = x ∧ y = y) from fun z => q z.2.1)]; omega
      | c3 hw hf hh a1 a2 a3 =>
        rw [hf, if_neg Bool.false_ne_true] at h3
        rw [a1, if_neg Bool.false_ne_true, a3, ct, cnt_map, if_neg (show ¬ (("ask" : Str) = "freed" ∧ (hd S y).number = y) from fun z => na z.1)]
        by_cases q : j = x
        · rw [if_pos q, if_pos ⟨hw, q, rfl⟩]; omega
        · rw [if_neg q, if_neg (show ¬ (w = "ask" ∧ j = x ∧ y = y) from fun z => q z.2.1)]; omega
      | c4 h1 h2 _ a1 a2 a3 =>
        rw [a1, a3, z0, if_neg (show ¬ (w = "ask" ∧ j = x ∧ y = y) from fun z => h2 z.1)]
        omega
      | c5 h1 h2 hf _ a1 a2 a3 =>
        rw [hf, if_neg Bool.false_ne_true] at h3
        rw [a1, if_pos rfl, cnt_map, if_pos ⟨rfl, hnum⟩, if_neg (show ¬ (w = "ask" ∧ j = x ∧ y = y) from fun z => h2 z.1)]
        omega
    · rw [if_neg qy, if_neg (show ¬ (w = "ask" ∧ j = x ∧ i = y) from fun z => qy z.2.2.symm)]
      have : cnt (("freed" : Str), y, x) m = 0 := by
        unfold cnt
        rw [List.countP_eq_zero]
        intro l hl q
        have e := of_decide_eq_true q
        have e2 := (cc.to l hl).1
        rw [e] at e2
        exact qy (e2.trans hnum)
      rw [this]
      omega
  · intro x y hx hy
    rw [hin] at hx hy
    have h4 := h.j4 x y hx hy
    rw [hg y hy, cnt_app, cNB_app, cNB_one]
    show cnt ("back", y, x) sent + cnt ("back", y, x) (b1 ++ m ++ b2) + (if (if y = i then t else hd S y).waker = some x then 1 else 0) = cNB x y come + if w ≠ "back" ∧ j = x ∧ i = y then 1 else 0
    rw [cnt_app, cnt_app, cnt_nb cc.nb]
    have hc1 : ∀ (k : Int), cnt ("back", y, x) [(("back" : Str), i, k)] = if i = y ∧ k = x then 1 else 0 := fun k => by
      rw [cnt_one]
      by_cases q : i = y ∧ k = x
      · rw [if_pos q, if_pos (by rw [q.1, q.2])]
      · rw [if_neg q, if_neg (fun z => q ⟨(Prod.mk.inj (Prod.mk.inj z).2).1, (Prod.mk.inj (Prod.mk.inj z).2).2⟩)]
    have z0 : cnt (("back" : Str), y, x) [] = 0 := rfl
    obtain ⟨_, wk, h1, h2⟩ := cd
    rw [hnum] at h2
    -- ahead of the settling
    have hmid : cnt ("back", y, x) b1 + (if (if y = i then wk else (hd S y).waker) = some x then 1 else 0) = (if (hd S y).waker = some x then 1 else 0) + if w ≠ "back" ∧ j = x ∧ i = y then 1 else 0 := by
      by_cases qy : y = i
      · subst qy
        rw [if_pos rfl]
        rcases h1 with ⟨hw, e1, e2, _⟩ | ⟨hw, ⟨_, e1, e2⟩ | ⟨hwk, e1, e2⟩, _⟩
        · rw [e1, e2, z0, if_neg (show ¬ (w ≠ "back" ∧ j = x ∧ y = y) from fun z => z.1 hw)]
          omega
        · rw [e1, e2, hnum, hc1]
          by_cases q : j = x
          · rw [if_pos ⟨rfl, q⟩, if_pos (show w ≠ "back" ∧ j = x ∧ y = y from ⟨hw, q, rfl⟩)]; omega
          · rw [if_neg (show ¬ (y = y ∧ j = x) from fun z => q z.2), if_neg (show ¬ (w ≠ "back" ∧ j = x ∧ y = y) from fun z => q z.2.1)]; omega
        · have e3 : (hd S y).waker = none := by
            cases hk : (hd S y).waker with
            | none => rfl
            | some k => rw [hk] at hwk; simp at hwk
          rw [e1, e2, e3, z0]
          rw [if_neg (show ¬ ((none : Option Int) = some x) from fun z => by cases z)]
          by_cases q : j = x
          · rw [if_pos (show some j = some x by rw [q]), if_pos (show w ≠ "back" ∧ j = x ∧ y = y from ⟨hw, q, rfl⟩)]
          · rw [if_neg (show ¬ (some j = some x) from fun z => q (Option.some.inj z)), if_neg (show ¬ (w ≠ "back" ∧ j = x ∧ y = y) from fun z => q z.2.1)]
      · rw [if_neg qy, if_neg (show ¬ (w ≠ "back" ∧ j = x ∧ i = y) from fun z => qy z.2.2.symm)]
        have : cnt (("back" : Str), y, x) b1 = 0 := by
          unfold cnt
          rw [List.countP_eq_zero]
          intro l hl q
          have e := of_decide_eq_true q
          have e2 := (hb1 l hl).2.1
          rw [e] at e2
          exact qy (e2.trans hnum)
        rw [this]
        omega
    -- the settling
    have hset : cnt ("back", y, x) b2 + (if (if y = i then t else hd S y).waker = some x then 1 else 0) = if (if y = i then wk else (hd S y).waker) = some x then 1 else 0 := by
      by_cases qy : y = i
      · subst qy
        rw [if_pos rfl, if_pos rfl]
        rcases h2 with ⟨k, e1, _, e2, e3⟩ | ⟨_, e2, e3⟩
        · rw [e1, e2, e3, hc1, if_neg (show ¬ ((none : Option Int) = some x) from fun z => by cases z)]
          by_cases q : k = x
          · rw [if_pos ⟨rfl, q⟩, if_pos (show some k = some x by rw [q])]
          · rw [if_neg (show ¬ (y = y ∧ k = x) from fun z => q z.2), if_neg (show ¬ (some k = some x) from fun z => q (Option.some.inj z))]
        · rw [e2, e3, z0, Nat.zero_add]
      · rw [if_neg qy, if_neg qy]
        have : cnt (("back" : Str), y, x) b2 = 0 := by
          unfold cnt
          rw [List.countP_eq_zero]
          intro l hl q
          have e := of_decide_eq_true q
          have e2 := (hb2 l hl).2.1
          rw [e] at e2
          exact qy (e2.trans hnum)
        rw [this, Nat.zero_add]
    omega
section
variable {ws : List Wt} {k : Nat}
theorem start_hd (hk : k < ws.length) {x : Int} (hx : inr (netS ws k) x) : (hd (netS ws k) x).askers = [] ∧ (hd (netS ws k) x).told = [] ∧ (hd (netS ws k) x).waker = none := by
  have hx2 := netS_inr.mp hx
  obtain ⟨w, hw⟩ := at_ws hx2.1 hx2.2
  rw [netS_hd hx hw]
  split
  · obtain ⟨_, _, _, _, _, a, b, c⟩ := begin_keep (mkH x w true)
    exact ⟨a, b, c⟩
  · exact ⟨rfl, rfl, rfl⟩
theorem start_row {l : Lt} (hl : l ∈ (netS ws k).row) : l.1 = "ask" := by
  have hl' : l ∈ (begin (handAt (hands0 ws k) k)).2 := hl
  unfold begin at hl'
  split at hl'
  · cases hl'
  · obtain ⟨o, _, rfl⟩ := List.mem_map.mp hl'
    rfl
theorem start_cnt {w : Str} (hw : w ≠ "ask") (x y : Int) : cnt (w, x, y) (netS ws k).row = 0 := by
  unfold cnt
  rw [List.countP_eq_zero]
  intro l hl q
  have e := of_decide_eq_true q
  have e2 := start_row hl
  rw [e] at e2
  exact hw e2
theorem KInv.start (ok : OkWs ws) (hk : k < ws.length) : KInv (netS ws k) (netS ws k).row [] := by
  have n := NInv.start ok hk
  have c0 : ∀ x, cnt x [] = 0 := fun _ => rfl
  constructor
  · intro x; rw [c0, Nat.add_zero]
  · intro h j hh hj
    have h1 := n.j1 h j hh hj
    unfold J1 at h1
    rw [(start_hd hk hj).1, (start_hd hk hh).2.1, start_cnt (w := "freed") (by decide)] at h1
    simp only [List.count_nil, ite_self, Nat.add_zero] at h1
    exact h1
  · intro h j hh hj
    rw [(start_hd hk hj).1, start_cnt (by decide), c0]
    simp only [List.count_nil, ite_self, Nat.add_zero]
  · intro h i hh hi
    rw [(start_hd hk hi).2.2, start_cnt (by decide), if_neg (fun z => by cases z)]
    rfl
end
/-- the waits of a net's hands -/
def WsI (ws : List Wt) (S : NS) : Prop := S.hands.length = ws.length ∧ ∀ x, inr S x → ∃ w, ws[x.toNat]? = some w ∧ (hd S x).word = w.map (·.1) ∧ (hd S x).others = (w.map (·.2)).getD []
theorem WsI.start {ws : List Wt} {k : Nat} : WsI ws (netS ws k) := by
  refine ⟨netS_len, fun x hx => ?_⟩
  have hx2 := netS_inr.mp hx
  obtain ⟨w, hw⟩ := at_ws hx2.1 hx2.2
  refine ⟨w, hw, ?_⟩
  rw [netS_hd hx hw]
  split
  · rw [(begin_keep _).2.2.2.2.1, (begin_keep _).2.2.1]
    exact ⟨rfl, rfl⟩
  · exact ⟨rfl, rfl⟩
theorem WsI.bring {ws : List Wt} {S : NS} (h : WsI ws S) {p : Nat} {l : Lt} (hi : inr S l.2.2) : WsI ws (bringS S p l (hd S l.2.2)) := by
  refine ⟨?_, fun x hx => ?_⟩
  · show (S.hands.set _ _).length = _
    rw [List.length_set]; exact h.1
  · have hx2 := inr_bring.mp hx
    rw [hd_bring hi hx2]
    split
    · rename_i e
      subst e
      have kp := keep_come (s := hd S l.2.2) (w := l.1) (j := l.2.1)
      rw [kp.word, kp.others]
      exact h.2 _ hi
    · exact h.2 x hx2
/-- does a letter fit -/
def Fits (ws : List Wt) (x : Lt) (pre come : List Lt) : Prop :=
  (x.1 = "ask" ∧ (∃ b os, ws[x.2.1.toNat]? = some (some (b, os)) ∧ x.2.2 ∈ os) ∧ x ∉ pre) ∨
  (x.1 = "freed" ∧ (("ask" : Str), x.2.2, x.2.1) ∈ come ∧ x ∉ pre) ∨
  (x.1 = "back" ∧ cnt x pre < cNB x.2.2 x.2.1 come)
theorem notin_of_cnt {x : Lt} {pre : List Lt} (h : cnt x pre = 0) : x ∉ pre := fun m => by
  have := cnt_mem m
  omega
theorem KInv.fits {ws : List Wt} {S : NS} {sent come pre post : List Lt} {x : Lt} (n : NInv S) (h : KInv S sent come) (wi : WsI ws S) (e : sent = pre ++ x :: post) (hw : Wd3 x.1) (h1 : inr S x.2.1) (h2 : inr S x.2.2) : Fits ws x pre come := by
  have ec : cnt x sent = cnt x pre + 1 + cnt x post := by
    rw [e, cnt_app, ← List.singleton_append, cnt_app, cnt_one, if_pos rfl]
    omega
  obtain ⟨w, a, b⟩ := x
  replace h1 : inr S a := h1
  replace h2 : inr S b := h2
  rcases hw with rfl | rfl | rfl
  · have j2 := h.j2 a b h1 h2
    have hc : (hd S a).has = true ∧ b ∈ (hd S a).others := by
      by_cases q : (hd S a).has = true ∧ b ∈ (hd S a).others
      · exact q
      · rw [if_neg q] at j2; omega
    rw [if_pos hc] at j2
    refine .inl ⟨rfl, ?_, notin_of_cnt (by omega)⟩
    obtain ⟨w, hw, _, eo⟩ := wi.2 a h1
    cases w with
    | none => rw [eo] at hc; cases hc.2
    | some p =>
      obtain ⟨c, os⟩ := p
      rw [eo] at hc
      exact ⟨c, os, hw, hc.2⟩
  · have j3 := h.j3 b a h2 h1
    have j2 := h.j2 b a h2 h1
    have hcons := h.cons (("ask" : Str), b, a)
    have hle : (if (hd S b).has = true ∧ a ∈ (hd S b).others then 1 else 0) ≤ 1 := by split; exact Nat.le_refl 1; exact Nat.zero_le 1
    refine .inr (.inl ⟨rfl, (show ((("ask" : Str), b, a) : Lt) ∈ come from mem_cnt (by omega)), notin_of_cnt (by omega)⟩)
  · have j4 := h.j4 b a h2 h1
    refine .inr (.inr ⟨rfl, ?_⟩)
    show cnt (("back" : Str), a, b) pre < cNB b a come
    omega
end SB
/-! ## rounds: who is freed when; plain Lean -/
namespace SB
/-- whether a hand is freed in a round below t -/
def fr (ws : List Wt) : Nat → Nat → Bool
  | 0, _ => false
  | t + 1, h => match ws[h]? with
    | some (some (b, os)) => if b then os.any (fun o => fr ws t o.toNat) else os.all (fun o => fr ws t o.toNat)
    | some none => true
    | none => false
/-- the round of a hand, if it is below t -/
def rnd (ws : List Wt) : Nat → Nat → Option Nat
  | 0, _ => none
  | t + 1, h => match rnd ws t h with
    | some r => some r
    | none => if fr ws (t + 1) h then some t else none
section
variable {ws : List Wt} {t h : Nat}
theorem fr_none (e : ws[h]? = some none) : fr ws (t + 1) h = true := by
  show (match ws[h]? with | some (some (b, os)) => _ | some none => true | none => false) = true
  rw [e]
theorem fr_some {b : Bool} {os : List Int} (e : ws[h]? = some (some (b, os))) : fr ws (t + 1) h = if b then os.any (fun o => fr ws t o.toNat) else os.all (fun o => fr ws t o.toNat) := by
  show (match ws[h]? with | some (some (b, os)) => _ | some none => true | none => false) = _
  rw [e]
theorem fr_out (e : ws[h]? = none) : ∀ t, fr ws t h = false
  | 0 => rfl
  | t + 1 => by
    show (match ws[h]? with | some (some (b, os)) => _ | some none => true | none => false) = false
    rw [e]
theorem fr_up : ∀ t h, fr ws t h = true → fr ws (t + 1) h = true
  | 0, h, q => by cases q
  | t + 1, h, q => by
    cases e : ws[h]? with
    | none => rw [fr_out e] at q; cases q
    | some w =>
      cases w with
      | none => exact fr_none e
      | some p =>
        obtain ⟨b, os⟩ := p
        rw [fr_some e] at q ⊢
        cases b with
        | true =>
          rw [if_pos rfl] at q ⊢
          rw [List.any_eq_true] at q ⊢
          obtain ⟨o, m, z⟩ := q
          exact ⟨o, m, fr_up t _ z⟩
        | false =>
          rw [if_neg Bool.false_ne_true] at q ⊢
          rw [List.all_eq_true] at q ⊢
          exact fun o m => fr_up t _ (q o m)
theorem fr_mono {s : Nat} : ∀ {t : Nat}, s ≤ t → fr ws s h = true → fr ws t h = true
  | 0, l, q => by
    obtain rfl : s = 0 := Nat.le_zero.mp l
    exact q
  | t + 1, l, q => by
    by_cases e : s = t + 1
    · subst e; exact q
    · exact fr_up t h (fr_mono (by omega) q)
theorem rnd_succ_some {r : Nat} (e : rnd ws t h = some r) : rnd ws (t + 1) h = some r := by
  show (match rnd ws t h with | some r => some r | none => _) = _
  rw [e]
theorem rnd_succ_none (e : rnd ws t h = none) : rnd ws (t + 1) h = if fr ws (t + 1) h then some t else none := by
  show (match rnd ws t h with | some r => some r | none => _) = _
  rw [e]
theorem rnd_some : ∀ {t r : Nat}, rnd ws t h = some r → r < t ∧ fr ws (r + 1) h = true ∧ fr ws r h = false
  | 0, r, e => by cases e
  | t + 1, r, e => by
    cases q : rnd ws t h with
    | some x =>
      rw [rnd_succ_some q] at e
      cases e
      obtain ⟨a, b⟩ := rnd_some q
      exact ⟨by omega, b⟩
    | none =>
      rw [rnd_succ_none q] at e
      split at e
      · rename_i z
        cases e
        refine ⟨by omega, z, ?_⟩
        cases c : fr ws t h with
        | false => rfl
        | true =>
          have := rnd_has t c
          rw [q] at this
          cases this
      · cases e
where
  rnd_has : ∀ t, fr ws t h = true → (rnd ws t h).isSome = true
    | 0, q => by cases q
    | t + 1, q => by
      cases e : rnd ws t h with
      | some x => rw [rnd_succ_some e] <;> rfl
      | none => rw [rnd_succ_none e, if_pos q] <;> rfl
theorem rnd_iff (t : Nat) : rnd ws t h = none ↔ fr ws t h = false := by
  constructor
  · intro e
    cases c : fr ws t h with
    | false => rfl
    | true =>
      have := rnd_some.rnd_has (ws := ws) (h := h) t c
      rw [e] at this
      cases this
  · intro q
    cases e : rnd ws t h with
    | none => rfl
    | some r =>
      obtain ⟨a, b, _⟩ := rnd_some e
      rw [fr_mono (by omega : r + 1 ≤ t) b] at q
      cases q
theorem rnd_of {r : Nat} (l : r < t) (a : fr ws (r + 1) h = true) (b : fr ws r h = false) : rnd ws t h = some r := by
  cases e : rnd ws t h with
  | none =>
    have := (rnd_iff t).mp e
    rw [fr_mono (by omega : r + 1 ≤ t) a] at this
    cases this
  | some x =>
    obtain ⟨c, d, f⟩ := rnd_some e
    by_cases q1 : x < r
    · rw [fr_mono (by omega : x + 1 ≤ r) d] at b; cases b
    · by_cases q2 : r < x
      · rw [fr_mono (by omega : r + 1 ≤ x) a] at f; cases f
      · rw [show x = r by omega]
/-- nothing new at t: nothing new ever -/
theorem fr_still (q : ∀ h, h < ws.length → fr ws (t + 1) h = true → fr ws t h = true) : ∀ s h, t ≤ s → fr ws s h = true → fr ws t h = true
  | 0, h, l, z => by
    obtain rfl : t = 0 := Nat.le_zero.mp l
    exact z
  | s + 1, h, l, z => by
    by_cases e : t = s + 1
    · subst e; exact z
    have ih := fr_still q s
    cases e1 : ws[h]? with
    | none => rw [fr_out e1] at z; cases z
    | some w =>
      have hl : h < ws.length := (List.getElem?_eq_some_iff.mp e1).1
      refine q h hl ?_
      cases w with
      | none => exact fr_none e1
      | some p =>
        obtain ⟨b, os⟩ := p
        rw [fr_some e1] at z ⊢
        cases b with
        | true =>
          rw [if_pos rfl] at z ⊢
          rw [List.any_eq_true] at z ⊢
          obtain ⟨o, m, c⟩ := z
          exact ⟨o, m, ih _ (by omega) c⟩
        | false =>
          rw [if_neg Bool.false_ne_true] at z ⊢
          rw [List.all_eq_true] at z ⊢
          exact fun o m => ih _ (by omega) (z o m)
def cntR (ws : List Wt) (t : Nat) : Nat := ((List.range ws.length).filter (fr ws t)).length
theorem filter_le {p q : Nat → Bool} : ∀ l : List Nat, (∀ x ∈ l, p x = true → q x = true) → (l.filter p).length ≤ (l.filter q).length
  | [], _ => Nat.le_refl _
  | a :: l, h => by
    have ih := filter_le l fun x m => h x (List.mem_cons_of_mem _ m)
    rw [List.filter_cons, List.filter_cons]
    cases e : p a with
    | true => rw [h a List.mem_cons_self e]; simp; exact ih
    | false =>
      cases q a with
      | true => simp; omega
      | false => simpa using ih
theorem filter_lt {p q : Nat → Bool} : ∀ l : List Nat, (∀ x ∈ l, p x = true → q x = true) → (∃ x ∈ l, q x = true ∧ p x = false) → (l.filter p).length < (l.filter q).length
  | [], _, ⟨_, m, _⟩ => (nomatch m)
  | a :: l, h, ⟨x, m, z1, z2⟩ => by
    have h' : ∀ x ∈ l, p x = true → q x = true := fun x m => h x (List.mem_cons_of_mem _ m)
    rw [List.filter_cons, List.filter_cons]
    rcases List.mem_cons.mp m with rfl | m
    · rw [z1, z2]
      have := filter_le l h'
      simp
      omega
    · have ih := filter_lt l h' ⟨x, m, z1, z2⟩
      cases e : p a with
      | true => rw [h a List.mem_cons_self e]; simp; exact ih
      | false =>
        cases q a with
        | true => simp; omega
        | false => simpa using ih
/-- all is settled after as many turns as there are hands -/
theorem fr_end (s h : Nat) (z : fr ws s h = true) : fr ws ws.length h = true := by
  have main : ∃ t, t ≤ ws.length ∧ ∀ h, h < ws.length → fr ws (t + 1) h = true → fr ws t h = true := by
    refine Classical.byContradiction fun no => ?_
    have grow : ∀ t, t ≤ ws.length + 1 → t ≤ cntR ws t := by
      intro t
      induction t with
      | zero => intro _; exact Nat.zero_le _
      | succ t ih =>
        intro l
        have ih := ih (by omega)
        have q : ∃ x ∈ List.range ws.length, fr ws (t + 1) x = true ∧ fr ws t x = false := by
          refine Classical.byContradiction fun n2 => no ⟨t, by omega, fun h hl a => ?_⟩
          cases c : fr ws t h with
          | true => rfl
          | false => exact absurd ⟨h, List.mem_range.mpr hl, a, c⟩ n2
        have := filter_lt (p := fr ws t) (q := fr ws (t + 1)) (List.range ws.length) (fun x _ => fr_up t x) q
        unfold cntR at ih ⊢
        omega
    have h1 := grow (ws.length + 1) (Nat.le_refl _)
    have h2 := List.length_filter_le (fr ws (ws.length + 1)) (List.range ws.length)
    rw [List.length_range] at h2
    unfold cntR at h1
    omega
  obtain ⟨t, l, q⟩ := main
  by_cases c : t ≤ s
  · exact fr_mono l (fr_still q s h c z)
  · exact fr_mono (by omega) z
/-- rounds below t are all rounds, where nothing is new at t -/
theorem rnd_still (q : ∀ h, h < ws.length → fr ws (t + 1) h = true → fr ws t h = true) (h : Nat) : rnd ws t h = rnd ws ws.length h := by
  cases e : rnd ws t h with
  | some r =>
    obtain ⟨a, b, c⟩ := rnd_some e
    refine (rnd_of (r := r) ?_ b c).symm
    refine Classical.byContradiction fun n => ?_
    have := fr_mono (by omega : ws.length ≤ r) (fr_end _ _ b)
    rw [c] at this
    cases this
  | none =>
    have e' := (rnd_iff t).mp e
    refine ((rnd_iff _).mpr ?_).symm
    cases c : fr ws ws.length h with
    | false => rfl
    | true =>
      by_cases l : t ≤ ws.length
      · rw [fr_still q _ _ l c] at e'; cases e'
      · rw [fr_mono (by omega : ws.length ≤ t) c] at e'; cases e'
end
/-- the rounds of all hands -/
def rnds (ws : List Wt) (t : Nat) : List (Option Nat) := (List.range ws.length).map (rnd ws t)
def rndF (ws : List Wt) : List (Option Nat) := rnds ws ws.length
theorem rnds_len (ws : List Wt) (t : Nat) : (rnds ws t).length = ws.length := by unfold rnds; rw [List.length_map, List.length_range]
theorem rnds_get {ws : List Wt} {t h : Nat} (l : h < ws.length) : (rnds ws t)[h]? = some (rnd ws t h) := by
  unfold rnds
  rw [List.getElem?_map, List.getElem?_range l] <;> rfl
end SB
/-! A net, plainly: who is freed is freed by the rounds; who asked is reached. -/
namespace SB
open PySem L2
/-- freed by the rounds -/
def lf (ws : List Wt) (h : Int) : Bool := fr ws ws.length h.toNat
theorem lf_none {ws : List Wt} {h : Int} (e : ws[h.toNat]? = some none) : lf ws h = true := fr_end 1 _ (fr_none e)
theorem lf_any {ws : List Wt} {h j : Int} {os : List Int} (e : ws[h.toNat]? = some (some (true, os))) (hj : j ∈ os) (hl : lf ws j = true) : lf ws h = true := by
  refine fr_end (ws.length + 1) _ ?_
  rw [fr_some e, if_pos rfl]
  exact List.any_eq_true.mpr ⟨j, hj, hl⟩
theorem lf_all {ws : List Wt} {h : Int} {os : List Int} (e : ws[h.toNat]? = some (some (false, os))) (hl : ∀ j ∈ os, lf ws j = true) : lf ws h = true := by
  refine fr_end (ws.length + 1) _ ?_
  rw [fr_some e, if_neg Bool.false_ne_true]
  exact List.all_eq_true.mpr hl
/-- reached from a by way of waits -/
inductive Reach (ws : List Wt) (a : Int) : Int → Prop
  | here : Reach ws a a
  | step {h o : Int} {b : Bool} {os : List Int} : Reach ws a h → ws[h.toNat]? = some (some (b, os)) → o ∈ os → Reach ws a o
structure FInv (ws : List Wt) (S : NS) (come : List Lt) : Prop where
  f1 : ∀ h, inr S h → (hd S h).free = true → lf ws h = true
  f2 : ∀ l ∈ S.row, l.1 = "freed" → (hd S l.2.1).free = true
  f3 : ∀ h, inr S h → ∀ j ∈ (hd S h).told, (hd S j).free = true
  f4 : ∀ h, inr S h → (hd S h).word = none → (hd S h).free = true
  f5 : ∀ h j, inr S h → inr S j → 1 ≤ cnt ("ask", h, j) come → (hd S j).word ≠ none → (hd S j).has = true
  f6 : ∀ h, inr S h → (hd S h).free = true → (hd S h).word ≠ none → (hd S h).has = true
  f7 : ∀ h, inr S h → (hd S h).free = false → ((hd S h).word = some true → (hd S h).told = []) ∧ ((hd S h).word = some false → (hd S h).told.length < (hd S h).others.length)
  f8 : ∀ h, inr S h → (hd S h).has = true → Reach ws S.asker h ∧ (hd S h).word ≠ none
  f9 : (hd S S.asker).word ≠ none → (hd S S.asker).has = true
theorem WsI.w {ws : List Wt} {S : NS} (wi : WsI ws S) {h : Int} (hh : inr S h) {b : Bool} (e : (hd S h).word = some b) : ws[h.toNat]? = some (some (b, (hd S h).others)) := by
  obtain ⟨w, h1, h2, h3⟩ := wi.2 h hh
  cases w with
  | none => rw [h2] at e; cases e
  | some p =>
    obtain ⟨c, os⟩ := p
    rw [h2] at e
    cases e
    rw [h3]
    exact h1
theorem WsI.wn {ws : List Wt} {S : NS} (wi : WsI ws S) {h : Int} (hh : inr S h) (e : (hd S h).word = none) : ws[h.toNat]? = some none ∧ (hd S h).others = [] := by
  obtain ⟨w, h1, h2, h3⟩ := wi.2 h hh
  cases w with
  | none => exact ⟨h1, h3⟩
  | some p => rw [h2] at e; cases e
theorem sub_all {l m : List Int} (nd : l.Nodup) (h : ∀ x ∈ l, x ∈ m) (hl : m.length ≤ l.length) : ∀ x ∈ m, x ∈ l := by
  intro x hx
  by_cases e : x ∈ l
  · exact e
  · have := sub_lenN (l := x :: l) (m := m) (List.nodup_cons.mpr ⟨e, nd⟩) (fun y hy => by
      rcases List.mem_cons.mp hy with rfl | hy
      · exact hx
      · exact h y hy)
    rw [List.length_cons] at this
    omega
/-- who told is waited for -/
theorem NInv.told_in {S : NS} (n : NInv S) {h : Int} (hh : inr S h) {j : Int} (hj : j ∈ (hd S h).told) : (hd S h).has = true ∧ j ∈ (hd S h).others := by
  have h4 := n.j1 h j hh (n.tol h hh j hj)
  unfold J1 at h4
  have h5 := List.count_pos_iff.mpr hj
  by_cases q : (hd S h).has = true ∧ j ∈ (hd S h).others
  · exact q
  · rw [if_neg q] at h4; omega
theorem FInv.bring {ws : List Wt} {S : NS} {sent come : List Lt} (n : NInv S) (kk : KInv S sent come) (wi : WsI ws S) (h : FInv ws S come) {p : Nat} {l : Lt} (hp : S.row[p]? = some l) : FInv ws (bringS S p l (hd S l.2.2)) (come ++ [l]) := by
  have hmem := List.mem_of_getElem? hp
  obtain ⟨hwd, hj, hi⟩ := n.row l hmem
  obtain ⟨w, j, i⟩ := l
  replace hj : inr S j := hj
  replace hi : inr S i := hi
  replace hwd : Wd3 w := hwd
  show FInv ws (bringS S p (w, j, i) (hd S i)) (come ++ [(w, j, i)])
  have kp := keep_come (s := hd S i) (w := w) (j := j)
  obtain ⟨b1, m, b2, els, cd⟩ := come_cd (hd S i) w j
  have hb1 := cd.b1
  have hb2 := cd.b2
  have cc := cd.1
  have hnum := n.num i hi
  have hg : ∀ x, inr S x → hd (bringS S p (w, j, i) (hd S i)) x = if x = i then (SB.come (hd S i) w j).1 else hd S x := fun x hx => hd_bring (l := (w, j, i)) hi hx
  have hin : ∀ x, inr (bringS S p (w, j, i) (hd S i)) x ↔ inr S x := fun x => inr_bring
  have hrow : (bringS S p (w, j, i) (hd S i)).row = S.row.eraseIdx p ++ (b1 ++ m ++ b2) := by rw [← els]; rfl
  have hask : (bringS S p (w, j, i) (hd S i)).asker = S.asker := rfl
  have nb : ¬ ("back" : Str) = "ask" := by decide
  have nb2 : ¬ ("back" : Str) = "freed" := by decide
  have na : ¬ ("ask" : Str) = "freed" := by decide
  generalize (SB.come (hd S i) w j).1 = t at *
  have hmono : ∀ x, inr S x → (hd S x).free = true → (if x = i then t else hd S x).free = true := by
    intro x hx hf
    split
    · rename_i e
      cases ht : t.free with
      | true => rfl
      | false =>
        have := cc.mono ht
        rw [← e, hf] at this
        cases this
    · exact hf
  have hhas : (hd S i).has = true → t.has = true := by
    intro q
    cases cc with
    | c0 _ _ a => rw [a]; exact q
    | c1 _ _ _ a => rw [a]; exact q
    | c2 _ _ _ _ a => exact a
    | c3 _ _ _ _ a => exact a
    | c4 _ _ _ _ a => rw [a]; exact q
    | c5 _ _ _ _ _ a => rw [a]; exact q
  have hmonoH : ∀ x, (hd S x).has = true → (if x = i then t else hd S x).has = true := by
    intro x hf
    split
    · rename_i e; rw [e] at hf; exact hhas hf
    · exact hf
  have hword : ∀ x, (if x = i then t else hd S x).word = (hd S x).word := by
    intro x
    split
    · rename_i e; rw [kp.word, e]
    · rfl
  -- a freed letter: its sender is freed, and waited for
  have hfr : w = "freed" → (hd S j).free = true ∧ j ∈ (hd S i).others ∧ j ∉ (hd S i).told ∧ (hd S i).told.length + 1 ≤ (hd S i).others.length := by
    intro e
    subst e
    exact ⟨h.f2 _ hmem rfl, n.told hmem⟩
  -- is it freed now?
  have hnew : t.free = true → (hd S i).free = true ∨ (w = "freed" ∧ (hd S i).free = false ∧ ¬ ((hd S i).word = some false ∧ (hd S i).told.length + 1 < (hd S i).others.length)) := by
    intro q
    cases cc with
    | c0 _ a => rw [a] at q; exact .inl q
    | c1 _ a => exact .inl a
    | c2 _ _ _ a => rw [a] at q; cases q
    | c3 _ _ _ a => rw [a] at q; cases q
    | c4 _ _ _ a => rw [a] at q; exact .inl q
    | c5 a1 a2 a3 a4 =>
      refine .inr ⟨?_, a3, a4⟩
      rcases hwd with z | z | z
      · exact absurd z a2
      · exact z
      · exact absurd z a1
  constructor
  · intro x hx hf
    rw [hin] at hx
    rw [hg x hx] at hf
    split at hf
    · rename_i e
      rw [e]
      rcases hnew hf with q | ⟨q1, q2, q3⟩
      · exact h.f1 i hi q
      · obtain ⟨g1, g2, g3, g4⟩ := hfr q1
        have hjl := h.f1 j hj g1
        obtain ⟨b, eb⟩ := n.wrd i hi q2
        have hw := wi.w hi eb
        cases b with
        | true => exact lf_any hw g2 hjl
        | false =>
          refine lf_all hw ?_
          have hlen : (hd S i).told.length + 1 = (hd S i).others.length := by
            have : ¬ (hd S i).told.length + 1 < (hd S i).others.length := fun z => q3 ⟨eb, z⟩
            omega
          have hall := sub_all (l := j :: (hd S i).told) (m := (hd S i).others) (List.nodup_cons.mpr ⟨g3, n.told_nd hi⟩) (fun y hy => by
            rcases List.mem_cons.mp hy with rfl | hy
            · exact g2
            · exact (n.told_in hi hy).2) (by rw [List.length_cons]; omega)
          intro y hy
          rcases List.mem_cons.mp (hall y hy) with rfl | hy2
          · exact hjl
          · exact h.f1 y (n.tol i hi y hy2) (h.f3 i hi y hy2)
    · exact h.f1 x hx hf
  · intro x hx hw
    rw [hrow] at hx
    rcases List.mem_append.mp hx with hx | hx
    · have hx2 := List.eraseIdx_subset hx
      have hxi := (n.row x hx2).2.1
      rw [hg _ hxi]
      exact hmono _ hxi (h.f2 x hx2 hw)
    · have hxm : x ∈ m := by
        rcases List.mem_append.mp hx with hx | hx
        · rcases List.mem_append.mp hx with hx | hx
          · rw [(hb1 x hx).1] at hw; exact absurd hw nb2
          · exact hx
        · rw [(hb2 x hx).1] at hw; exact absurd hw nb2
      have e := (cc.to x hxm).1
      rw [hnum] at e
      rw [e, hg i hi, if_pos rfl]
      cases cc with
      | c0 => cases hxm
      | c1 _ _ a => exact a
      | c2 => cases hxm
      | c3 =>
        obtain ⟨o, _, rfl⟩ := List.mem_map.mp hxm
        exact absurd hw na
      | c4 => cases hxm
      | c5 _ _ _ _ a => exact a
  · intro x hx y hy
    rw [hin] at hx
    rw [hg x hx] at hy
    split at hy
    · rename_i e
      rcases cc.told with q | q
      · rw [q] at hy
        have hyi := n.tol i hi y hy
        rw [hg y hyi]
        exact hmono y hyi (h.f3 i hi y hy)
      · by_cases hold : y ∈ (hd S i).told
        · have hyi := n.tol i hi y hold
          rw [hg y hyi]
          exact hmono y hyi (h.f3 i hi y hold)
        · have hyj : y = j := by
            rw [q] at hy
            rcases List.mem_append.mp hy with hy | hy
            · exact absurd hy hold
            · exact List.mem_singleton.mp hy
          have hw : w = "freed" := by
            rcases hwd with z | z | z
            · exfalso
              cases cc with
              | c0 a => rw [z] at a; exact nb a.symm
              | c1 _ _ _ _ _ a => rw [a] at q; have := congrArg List.length q; rw [List.length_append, List.length_singleton] at this; omega
              | c2 _ _ _ _ _ _ a => rw [a] at q; have := congrArg List.length q; rw [List.length_append, List.length_singleton] at this; omega
              | c3 _ _ _ _ _ _ a => rw [a] at q; have := congrArg List.length q; rw [List.length_append, List.length_singleton] at this; omega
              | c4 _ a => exact a z
              | c5 _ a => exact a z
            · exact z
            · exfalso
              cases cc with
              | c0 _ _ _ _ a => rw [a] at q; have := congrArg List.length q; rw [List.length_append, List.length_singleton] at this; omega
              | c1 a => rw [z] at a; exact nb a
              | c2 a => rw [z] at a; exact nb a
              | c3 a => rw [z] at a; exact nb a
              | c4 a => exact a z
              | c5 a => exact a z
          rw [hyj, hg j hj]
          exact hmono j hj (hfr hw).1
    · have hyi := n.tol x hx y hy
      rw [hg y hyi]
      exact hmono y hyi (h.f3 x hx y hy)
  · intro x hx hw
    rw [hin] at hx
    rw [hg x hx] at hw ⊢
    rw [hword] at hw
    exact hmono x hx (h.f4 x hx hw)
  · intro x y hx hy hc hw
    rw [hin] at hx hy
    rw [hg y hy] at hw ⊢
    rw [hword] at hw
    rw [cnt_app, cnt_one] at hc
    by_cases q : (w, j, i) = (("ask" : Str), x, y)
    · have q1 : w = "ask" := (Prod.mk.inj q).1
      have q3 : i = y := (Prod.mk.inj (Prod.mk.inj q).2).2
      rw [if_pos q3.symm]
      cases cc with
      | c0 a => rw [q1] at a; exact absurd a.symm nb
      | c1 _ a b c =>
        rw [c]
        rw [← q3] at hw
        exact h.f6 i hi a hw
      | c2 _ _ _ _ a => exact a
      | c3 _ _ _ _ a => exact a
      | c4 _ a => exact absurd q1 a
      | c5 _ a => exact absurd q1 a
    · rw [if_neg q] at hc
      exact hmonoH y (h.f5 x y hx hy (by omega) hw)
  · intro x hx hf hw
    rw [hin] at hx
    rw [hg x hx] at hf hw ⊢
    rw [hword] at hw
    split at hf
    · rename_i e
      rw [if_pos e]
      rcases hnew hf with q | ⟨q1, q2, q3⟩
      · exact hhas (h.f6 i hi q (by rw [← e]; exact hw))
      · obtain ⟨_, g2, _, _⟩ := hfr q1
        have := n.j1 i j hi hj
        unfold J1 at this
        have h2 : 1 ≤ cnt (("freed" : Str), j, i) S.row := by rw [← q1]; exact cnt_mem hmem
        have hq : (hd S i).has = true ∧ j ∈ (hd S i).others := by
          by_cases z : (hd S i).has = true ∧ j ∈ (hd S i).others
          · exact z
          · rw [if_neg z] at this; omega
        exact hhas hq.1
    · rename_i e
      rw [if_neg e]
      exact h.f6 x hx hf hw
  · intro x hx hf
    rw [hin] at hx
    rw [hg x hx] at hf ⊢
    split at hf
    · rename_i e
      rw [if_pos e, kp.word, kp.others]
      have hf0 := cc.mono hf
      have h7 := h.f7 i hi hf0
      cases cc with
      | c0 _ _ _ _ a => rw [a]; exact h7
      | c1 _ a => rw [a] at hf0; cases hf0
      | c2 _ _ _ _ _ _ a => rw [a]; exact h7
      | c3 _ _ _ _ _ _ a => rw [a]; exact h7
      | c4 _ _ a _ _ _ a4 =>
        rcases a with a | ⟨a, a2⟩
        · rw [a] at hf0; cases hf0
        · rw [a4]
          refine ⟨fun z => ?_, fun _ => ?_⟩
          · rw [a] at z; cases z
          · rw [List.length_append, List.length_singleton]; exact a2
      | c5 _ _ _ _ a => rw [a] at hf; cases hf
    · rename_i e
      rw [if_neg e]
      exact h.f7 x hx hf
  · intro x hx hf
    rw [hin] at hx
    rw [hask]
    rw [hg x hx] at hf ⊢
    rw [hword]
    split at hf
    · rename_i e
      rw [e]
      cases hh : (hd S i).has with
      | true => exact h.f8 i hi hh
      | false =>
        -- it asks now: it was asked by one that asked
        cases cc with
        | c0 _ _ a => rw [a, hh] at hf; cases hf
        | c1 _ _ _ a => rw [a, hh] at hf; cases hf
        | c2 _ _ a => rw [a] at hh; cases hh
        | c3 a1 a2 =>
          have := n.j1 j i hj hi
          unfold J1 at this
          have h2 : 1 ≤ cnt (("ask" : Str), j, i) S.row := by rw [← a1]; exact cnt_mem hmem
          have hq : (hd S j).has = true ∧ i ∈ (hd S j).others := by
            by_cases z : (hd S j).has = true ∧ i ∈ (hd S j).others
            · exact z
            · rw [if_neg z] at this; omega
          obtain ⟨r1, r2⟩ := h.f8 j hj hq.1
          obtain ⟨b, eb⟩ := n.wrd i hi a2
          refine ⟨?_, by rw [eb]; exact fun z => by cases z⟩
          cases ew : (hd S j).word with
          | none => exact absurd ew r2
          | some c => exact .step r1 (wi.w hj ew) hq.2
        | c4 _ _ _ _ a => rw [a, hh] at hf; cases hf
        | c5 _ _ _ _ _ a => rw [a, hh] at hf; cases hf
    · exact h.f8 x hx hf
  · rw [hask, hg _ n.ask1]
    intro hw
    rw [hword] at hw
    exact hmonoH _ (h.f9 hw)
end SB
/-! A net, plainly: what is owed, who woke whom. -/
namespace SB
open PySem L2
def cOut (h : Int) (row : List Lt) : Nat := row.countP fun l => decide (l.1 ≠ ("back" : Str) ∧ l.2.1 = h)
def cBack (h : Int) (row : List Lt) : Nat := row.countP fun l => decide (l.1 = ("back" : Str) ∧ l.2.2 = h)
def cWk (h : Int) (hs : List HS) : Nat := hs.countP fun s => decide (s.waker = some h)
theorem cOut_app (h : Int) (a b : List Lt) : cOut h (a ++ b) = cOut h a + cOut h b := List.countP_append
theorem cBack_app (h : Int) (a b : List Lt) : cBack h (a ++ b) = cBack h a + cBack h b := List.countP_append
theorem countP_one {α : Type} (P : α → Prop) [DecidablePred P] (a : α) : [a].countP (fun x => decide (P x)) = if P a then 1 else 0 := by
  rw [List.countP_cons, List.countP_nil, Nat.zero_add]
  by_cases e : P a
  · rw [if_pos e, if_pos (decide_eq_true e)]
  · rw [if_neg e, if_neg (by rw [decide_eq_false e]; decide)]
theorem cOut_one (h : Int) (l : Lt) : cOut h [l] = if l.1 ≠ ("back" : Str) ∧ l.2.1 = h then 1 else 0 := countP_one (fun l : Lt => l.1 ≠ ("back" : Str) ∧ l.2.1 = h) l
theorem cBack_one (h : Int) (l : Lt) : cBack h [l] = if l.1 = ("back" : Str) ∧ l.2.2 = h then 1 else 0 := countP_one (fun l : Lt => l.1 = ("back" : Str) ∧ l.2.2 = h) l
theorem countP_at {α : Type} {P : α → Bool} : ∀ {l : List α} {i : Nat} {a : α}, l[i]? = some a → l.countP P = (l.eraseIdx i).countP P + if P a = true then 1 else 0
  | [], _, _, h => by simp at h
  | b :: l, 0, a, h => by
    simp at h
    subst h
    rw [List.countP_cons, List.eraseIdx_cons_zero]
  | b :: l, i + 1, a, h => by
    have ih := countP_at (P := P) (l := l) (i := i) (a := a) (by simpa using h)
    rw [List.countP_cons, List.eraseIdx_cons_succ, List.countP_cons, ih]
    omega
theorem cOut_at {h : Int} {row : List Lt} {p : Nat} {l : Lt} (hp : row[p]? = some l) : cOut h row = cOut h (row.eraseIdx p) + if l.1 ≠ ("back" : Str) ∧ l.2.1 = h then 1 else 0 := by
  unfold cOut
  rw [countP_at hp]
  by_cases e : l.1 ≠ ("back" : Str) ∧ l.2.1 = h
  · rw [if_pos e, if_pos (decide_eq_true e)]
  · rw [if_neg e, if_neg (by rw [decide_eq_false e]; decide)]
theorem cBack_at {h : Int} {row : List Lt} {p : Nat} {l : Lt} (hp : row[p]? = some l) : cBack h row = cBack h (row.eraseIdx p) + if l.1 = ("back" : Str) ∧ l.2.2 = h then 1 else 0 := by
  unfold cBack
  rw [countP_at hp]
  by_cases e : l.1 = ("back" : Str) ∧ l.2.2 = h
  · rw [if_pos e, if_pos (decide_eq_true e)]
  · rw [if_neg e, if_neg (by rw [decide_eq_false e]; decide)]
theorem cWk_set {h : Int} {hs : List HS} {i : Nat} {s t : HS} (hi : hs[i]? = some s) : cWk h (hs.set i t) + (if s.waker = some h then 1 else 0) = cWk h hs + if t.waker = some h then 1 else 0 := by
  have hl := (List.getElem?_eq_some_iff.mp hi).1
  have h1 := countP_at (P := fun s : HS => decide (s.waker = some h)) hi
  have h2 := countP_at (P := fun s : HS => decide (s.waker = some h)) (l := hs.set i t) (i := i) (a := t) (by rw [List.getElem?_set_self hl])
  rw [List.eraseIdx_set_eq] at h2
  unfold cWk
  rw [h1, h2]
  have e1 : ∀ u : HS, (if decide (u.waker = some h) = true then 1 else 0) = if u.waker = some h then 1 else (0 : Nat) := fun u => by
    by_cases e : u.waker = some h
    · rw [if_pos e, if_pos (decide_eq_true e)]
    · rw [if_neg e, if_neg (by rw [decide_eq_false e]; decide)]
  simp only [e1]
  omega
theorem cWk_pos {S : NS} {x h : Int} (hx : inr S x) (e : (hd S x).waker = some h) : 1 ≤ cWk h S.hands :=
  List.countP_pos_iff.mpr ⟨hd S x, List.mem_of_getElem? (hd_get hx), decide_eq_true e⟩
structure WInv (S : NS) : Prop where
  ow : ∀ h, inr S h → (hd S h).owed = ((cOut h S.row + cBack h S.row + cWk h S.hands : Nat) : Int)
  aw : (hd S S.asker).waker = none
  sl : ∀ h, inr S h → h ≠ S.asker → (hd S h).waker = none → (hd S h).owed = 0
  ac : ∀ h k, inr S h → (hd S h).waker = some k → (hd S h).owed ≠ 0
  rk : ∃ rank : Int → Nat, ∀ h k, inr S h → (hd S h).waker = some k → rank k < rank h
theorem CC.len_out {s t : HS} {w : Str} {j : Int} {m : List Lt} (c : CC s w j t m) (h : Int) : cOut h m = if s.number = h then m.length else 0 := by
  have hto := c.to
  have hnb : ∀ l ∈ m, l.1 ≠ ("back" : Str) := by
    intro l hl
    cases c with
    | c0 => cases hl
    | c1 => rw [List.mem_singleton.mp hl]; show ("freed" : Str) ≠ "back"; decide
    | c2 => cases hl
    | c3 => obtain ⟨o, _, rfl⟩ := List.mem_map.mp hl; show ("ask" : Str) ≠ "back"; decide
    | c4 => cases hl
    | c5 => obtain ⟨o, _, rfl⟩ := List.mem_map.mp hl; show ("freed" : Str) ≠ "back"; decide
  unfold cOut
  split
  · rename_i e
    exact List.countP_eq_length.mpr fun l hl => decide_eq_true ⟨hnb l hl, (hto l hl).1.trans e⟩
  · rename_i e
    refine List.countP_eq_zero.mpr fun l hl q => ?_
    have := of_decide_eq_true q
    exact e ((hto l hl).1.symm.trans this.2)
theorem CC.no_back {s t : HS} {w : Str} {j : Int} {m : List Lt} (c : CC s w j t m) (h : Int) : cBack h m = 0 := by
  refine List.countP_eq_zero.mpr fun l hl q => ?_
  have e := (of_decide_eq_true q).1
  cases c with
  | c0 => cases hl
  | c1 => rw [List.mem_singleton.mp hl] at e; exact absurd e (by show ("freed" : Str) ≠ "back"; decide)
  | c2 => cases hl
  | c3 => obtain ⟨o, _, rfl⟩ := List.mem_map.mp hl; exact absurd e (by show ("ask" : Str) ≠ "back"; decide)
  | c4 => cases hl
  | c5 => obtain ⟨o, _, rfl⟩ := List.mem_map.mp hl; exact absurd e (by show ("freed" : Str) ≠ "back"; decide)
theorem WInv.bring {S : NS} (n : NInv S) (h : WInv S) {p : Nat} {l : Lt} (hp : S.row[p]? = some l) : WInv (bringS S p l (hd S l.2.2)) := by
  obtain ⟨hwd, hj, hi⟩ := n.row l (List.mem_of_getElem? hp)
  obtain ⟨w, j, i⟩ := l
  replace hj : inr S j := hj
  replace hi : inr S i := hi
  show WInv (bringS S p (w, j, i) (hd S i))
  obtain ⟨b1, m, b2, els, cd⟩ := come_cd (hd S i) w j
  have cc := cd.1
  have hnum := n.num i hi
  have hfst := n.fst i hi
  have hg : ∀ x, inr S x → hd (bringS S p (w, j, i) (hd S i)) x = if x = i then (come (hd S i) w j).1 else hd S x := fun x hx => hd_bring (l := (w, j, i)) hi hx
  have hin : ∀ x, inr (bringS S p (w, j, i) (hd S i)) x ↔ inr S x := fun x => inr_bring
  have hrow : (bringS S p (w, j, i) (hd S i)).row = S.row.eraseIdx p ++ (b1 ++ m ++ b2) := by rw [← els]; rfl
  have hask : (bringS S p (w, j, i) (hd S i)).asker = S.asker := rfl
  have hgi := hd_get hi
  have hwk : ∀ x, cWk x (bringS S p (w, j, i) (hd S i)).hands + (if (hd S i).waker = some x then 1 else 0) = cWk x S.hands + if (come (hd S i) w j).1.waker = some x then 1 else 0 := fun x => cWk_set hgi
  generalize (come (hd S i) w j).1 = t at *
  obtain ⟨_, wk, h1, h2⟩ := cd
  rw [hnum] at h2
  have hnone : ∀ x : Int, ¬ ((none : Option Int) = some x) := fun x z => by cases z
  have hsome : ∀ x y : Int, (some x = some y) ↔ x = y := fun x y => ⟨Option.some.inj, fun e => by rw [e]⟩
  have hb0 : ∀ x, cOut x [] = 0 := fun _ => rfl
  have hb0' : ∀ x, cBack x [] = 0 := fun _ => rfl
  have hob : ∀ x k : Int, cOut x [(("back" : Str), i, k)] = 0 := fun x k => by rw [cOut_one, if_neg (fun z => z.1 rfl)]
  have hbb : ∀ x k : Int, cBack x [(("back" : Str), i, k)] = if k = x then 1 else 0 := fun x k => by
    rw [cBack_one]
    by_cases e : k = x
    · rw [if_pos e, if_pos ⟨rfl, e⟩]
    · rw [if_neg e, if_neg (fun z => e z.2)]
  -- the awake: who is owed something is awake or the asker
  have hawake : ∀ x, inr S x → x ≠ S.asker → (hd S x).owed ≠ 0 → ∃ k, (hd S x).waker = some k := by
    intro x hx e1 e2
    cases hk : (hd S x).waker with
    | none => exact absurd (h.sl x hx e1 hk) e2
    | some k => exact ⟨k, rfl⟩
  -- ahead of the settling
  have hmidW : (w = "back" → wk = (hd S i).waker) ∧ (w ≠ "back" → ((hd S i).first || (hd S i).waker.isSome) = true → wk = (hd S i).waker) ∧ (w ≠ "back" → ((hd S i).first || (hd S i).waker.isSome) = false → wk = some j) := by
    rcases h1 with ⟨hw, _, e2, _⟩ | ⟨hw, ⟨q, _, e2⟩ | ⟨q, _, e2⟩, _⟩
    · exact ⟨fun _ => e2, fun z => absurd hw z, fun z => absurd hw z⟩
    · exact ⟨fun z => absurd z hw, fun _ _ => e2, fun _ z => (by rw [q] at z; cases z)⟩
    · exact ⟨fun z => absurd z hw, fun _ z => (by rw [q] at z; cases z), fun _ _ => e2⟩
  have how : ∀ x, inr S x → (if x = i then t else hd S x).owed = ((cOut x (S.row.eraseIdx p ++ (b1 ++ m ++ b2)) + cBack x (S.row.eraseIdx p ++ (b1 ++ m ++ b2)) + cWk x (bringS S p (w, j, i) (hd S i)).hands : Nat) : Int) := by
    intro x hx
    have h3 := h.ow x hx
    have h4 := cOut_at (h := x) hp
    have h5 := cBack_at (h := x) hp
    have h6 := hwk x
    rw [cOut_app, cOut_app, cOut_app, cBack_app, cBack_app, cBack_app, cc.len_out, cc.no_back, hnum]
    replace h4 : cOut x S.row = cOut x (S.row.eraseIdx p) + if w ≠ "back" ∧ j = x then 1 else 0 := h4
    replace h5 : cBack x S.row = cBack x (S.row.eraseIdx p) + if w = "back" ∧ i = x then 1 else 0 := h5
    -- the settling: b2 and the waker
    have hset : cBack x b2 + (if t.waker = some x then 1 else 0) = (if wk = some x then 1 else 0) ∧ cOut x b2 = 0 := by
      rcases h2 with ⟨k, e1, _, e2, e3⟩ | ⟨_, e2, e3⟩
      · rw [e1, e2, e3, hbb, hob, if_neg (hnone x)]
        refine ⟨?_, rfl⟩
        by_cases e : k = x
        · rw [if_pos e, if_pos ((hsome k x).mpr e)]
        · rw [if_neg e, if_neg (fun z => e ((hsome k x).mp z))]
      · rw [e2, e3, hb0, hb0', Nat.zero_add]
        exact ⟨rfl, rfl⟩
    obtain ⟨hs1, hs2⟩ := hset
    rw [hs2]
    -- ahead of it
    have hpre : cBack x b1 + (if wk = some x then 1 else 0) = (if (hd S i).waker = some x then 1 else 0) + (if w ≠ "back" ∧ j = x then 1 else 0) ∧ cOut x b1 = 0 := by
      rcases h1 with ⟨hw, e1, e2, _⟩ | ⟨hw, ⟨_, e1, e2⟩ | ⟨hq, e1, e2⟩, _⟩
      · rw [e1, e2, hb0, hb0', if_neg (show ¬ (w ≠ "back" ∧ j = x) from fun z => z.1 hw)]
        exact ⟨by omega, rfl⟩
      · rw [e1, e2, hnum, hbb, hob]
        refine ⟨?_, rfl⟩
        by_cases e : j = x
        · rw [if_pos e, if_pos (show w ≠ "back" ∧ j = x from ⟨hw, e⟩)]; omega
        · rw [if_neg e, if_neg (show ¬ (w ≠ "back" ∧ j = x) from fun z => e z.2)]; omega
      · have e3 : (hd S i).waker = none := by
          cases hk : (hd S i).waker with
          | none => rfl
          | some k => rw [hk] at hq; simp at hq
        rw [e1, e2, e3, hb0, hb0', if_neg (hnone x)]
        refine ⟨?_, rfl⟩
        by_cases e : j = x
        · rw [if_pos ((hsome j x).mpr e), if_pos (show w ≠ "back" ∧ j = x from ⟨hw, e⟩)]
        · rw [if_neg (fun z => e ((hsome j x).mp z)), if_neg (show ¬ (w ≠ "back" ∧ j = x) from fun z => e z.2)]
    obtain ⟨hp1, hp2⟩ := hpre
    rw [hp2]
    -- what the hand is owed
    have hto : (if x = i then t else hd S x).owed = (hd S x).owed + (if i = x then (m.length : Int) else 0) - (if w = "back" ∧ i = x then 1 else 0) := by
      by_cases e : x = i
      · subst e
        rw [if_pos rfl, if_pos rfl]
        rcases h1 with ⟨hw, _, _, e4⟩ | ⟨hw, _, e4⟩
        · have em : m = [] := by
            cases cc with
            | c0 => rfl
            | c1 a => rw [hw] at a; exact absurd a (by decide)
            | c2 a => rfl
            | c3 a => rw [hw] at a; exact absurd a (by decide)
            | c4 => rfl
            | c5 a => exact absurd hw a
          rw [e4, em, if_pos ⟨hw, rfl⟩]
          show _ = _ + (0 : Int) - 1
          omega
        · rw [e4, if_neg (show ¬ (w = "back" ∧ x = x) from fun z => hw z.1)]
          omega
      · rw [if_neg e, if_neg (fun z => e z.symm), if_neg (show ¬ (w = "back" ∧ i = x) from fun z => e z.2.symm)]
        omega
    rw [hto, h3]
    by_cases e : i = x
    · rw [if_pos e, if_pos e]
      by_cases e2 : w = "back"
      · have ex : w = "back" ∧ i = x := ⟨e2, e⟩
        rw [if_pos ex] at h5 ⊢
        omega
      · have ex : ¬ (w = "back" ∧ i = x) := fun z => e2 z.1
        rw [if_neg ex] at h5 ⊢
        omega
    · rw [if_neg e, if_neg e]
      have ex : ¬ (w = "back" ∧ i = x) := fun z => e z.2
      rw [if_neg ex] at h5 ⊢
      omega
  constructor
  · intro x hx
    rw [hin] at hx
    rw [hg x hx, hrow]
    exact how x hx
  · rw [hask, hg _ n.ask1]
    split
    · rename_i e
      have hn : (hd S i).waker = none := by rw [← e]; exact h.aw
      have hf : ((hd S i).first || (hd S i).waker.isSome) = true := by rw [hfst, decide_eq_true e.symm]; rfl
      have hwk2 : wk = none := by
        by_cases hw : w = "back"
        · rw [hmidW.1 hw]; exact hn
        · rw [hmidW.2.1 hw hf]; exact hn
      rcases h2 with ⟨k, _, _, e2, _⟩ | ⟨_, e2, _⟩
      · exact e2
      · rw [e2]; exact hwk2
    · exact h.aw
  · intro x hx hne hw0
    rw [hin] at hx
    rw [hask] at hne
    rw [hg x hx] at hw0 ⊢
    split at hw0
    · rename_i e
      subst e
      rw [if_pos rfl]
      rcases h2 with ⟨k, _, e1, _, _⟩ | ⟨e1, e2, _⟩
      · exact e1
      · rw [e2] at hw0
        -- nobody woke it: then it was awake, or the letter woke it
        exfalso
        have hf : (hd S x).first = false := by rw [hfst, decide_eq_false hne]
        by_cases hw : w = "back"
        · have h3 := hmidW.1 hw
          rw [hw0] at h3
          have h4 := h.sl x hx hne h3.symm
          have h5 := h.ow x hx
          have h6 := cBack_at (h := x) hp
          replace h6 : cBack x S.row = cBack x (S.row.eraseIdx p) + if w = "back" ∧ x = x then 1 else 0 := h6
          rw [if_pos ⟨hw, rfl⟩] at h6
          omega
        · cases hb : ((hd S x).first || (hd S x).waker.isSome) with
          | true =>
            have h3 := hmidW.2.1 hw hb
            rw [hw0] at h3
            rw [hf, ← h3] at hb
            cases hb
          | false =>
            have h3 := hmidW.2.2 hw hb
            rw [hw0] at h3
            cases h3
    · rename_i e
      rw [if_neg e]
      exact h.sl x hx hne hw0
  · intro x k hx hk
    rw [hin] at hx
    rw [hg x hx] at hk ⊢
    split at hk
    · rename_i e
      subst e
      rw [if_pos rfl]
      rcases h2 with ⟨_, _, _, e1, _⟩ | ⟨e1, e2, _⟩
      · rw [e1] at hk; cases hk
      · rcases e1 with e1 | e1
        · rw [e2, e1] at hk; cases hk
        · exact e1
    · rename_i e
      rw [if_neg e]
      exact h.ac x k hx hk
  · obtain ⟨rank, hr⟩ := h.rk
    by_cases hnew : w ≠ "back" ∧ ((hd S i).first || (hd S i).waker.isSome) = false
    · -- the hand wakes
      have hwkj := hmidW.2.2 hnew.1 hnew.2
      have hni : (hd S i).waker = none := by
        cases hk : (hd S i).waker with
        | none => rfl
        | some k => have := hnew.2; rw [hk] at this; simp at this
      have hia : i ≠ S.asker := fun e => by
        have := hnew.2
        rw [hfst, decide_eq_true e] at this
        cases this
      have ho := h.sl i hi hia hni
      have ho2 := h.ow i hi
      have hji : j ≠ i := fun e => by
        have h4 := cOut_at (h := i) hp
        replace h4 : cOut i S.row = cOut i (S.row.eraseIdx p) + if w ≠ "back" ∧ j = i then 1 else 0 := h4
        rw [if_pos ⟨hnew.1, e⟩] at h4
        omega
      refine ⟨fun x => if x = i then rank j + 1 else rank x, fun x k hx hk => ?_⟩
      rw [hin] at hx
      rw [hg x hx] at hk
      split at hk
      · rename_i e
        have e2 : k = j := by
          rcases h2 with ⟨_, _, _, e1, _⟩ | ⟨_, e1, _⟩
          · rw [e1] at hk; cases hk
          · rw [e1, hwkj] at hk; exact (Option.some.inj hk).symm
        show (if k = i then rank j + 1 else rank k) < if x = i then rank j + 1 else rank x
        rw [if_pos e, e2, if_neg hji]
        omega
      · rename_i e
        have hki : k ≠ i := fun e2 => by
          rw [e2] at hk
          have := cWk_pos hx hk
          omega
        show (if k = i then rank j + 1 else rank k) < if x = i then rank j + 1 else rank x
        rw [if_neg e, if_neg hki]
        exact hr x k hx hk
    · refine ⟨rank, fun x k hx hk => ?_⟩
      rw [hin] at hx
      rw [hg x hx] at hk
      split at hk
      · rename_i e
        have e1 : wk = (hd S i).waker := by
          by_cases hw : w = "back"
          · exact hmidW.1 hw
          · cases hb : ((hd S i).first || (hd S i).waker.isSome) with
            | true => exact hmidW.2.1 hw hb
            | false => exact absurd ⟨hw, hb⟩ hnew
        rcases h2 with ⟨_, _, _, e2, _⟩ | ⟨_, e2, _⟩
        · rw [e2] at hk; cases hk
        · rw [e2, e1] at hk
          rw [e]
          exact hr i k hi hk
      · exact hr x k hx hk
end SB
/-! A net, plainly: what is owed at first; the way from waker to waker. -/
namespace SB
open PySem L2
theorem WInv.start {ws : List Wt} {k : Nat} (ok : OkWs ws) (hk : k < ws.length) : WInv (netS ws k) := by
  have n := NInv.start ok hk
  have hkn : ∀ s ∈ (netS ws k).hands, s.waker = none := by
    intro s hs
    obtain ⟨i, hi⟩ := List.mem_iff_getElem?.mp hs
    have hlt := (List.getElem?_eq_some_iff.mp hi).1
    have hin : inr (netS ws k) (i : Int) := ⟨by omega, by omega⟩
    have := (start_hd hk hin).2.2
    rw [hd_of hi] at this
    exact this
  have hw0 : ∀ h, cWk h (netS ws k).hands = 0 := by
    intro h
    refine List.countP_eq_zero.mpr fun s hs q => ?_
    have := of_decide_eq_true q
    rw [hkn s hs] at this
    cases this
  have hb0 : ∀ h, cBack h (netS ws k).row = 0 := by
    intro h
    refine List.countP_eq_zero.mpr fun l hl q => ?_
    have := (of_decide_eq_true q).1
    rw [start_row hl] at this
    exact absurd this (by decide)
  have hwn : ∀ h, inr (netS ws k) h → (hd (netS ws k) h).waker = none := fun h hh => (start_hd hk hh).2.2
  constructor
  · intro h hh
    rw [hw0, hb0]
    have hx2 := netS_inr.mp hh
    obtain ⟨w, hw⟩ := at_ws hx2.1 hx2.2
    rw [netS_hd hh hw]
    have er : (netS ws k).row = (begin (handAt (hands0 ws k) k)).2 := rfl
    split
    · rename_i e
      have e0 := hands0_hd (k := k) hx2.1 hw
      rw [decide_eq_true e, show h.toNat = k by omega] at e0
      rw [er, e0]
      unfold begin
      split
      · rfl
      · show (0 : Int) + ((mkH h w true).others.length : Int) = _
        have : cOut h ((mkH h w true).others.map fun o => (("ask" : Str), h, o)) = (mkH h w true).others.length := by
          unfold cOut
          rw [List.countP_eq_length.mpr, List.length_map]
          intro l hl
          obtain ⟨o, _, rfl⟩ := List.mem_map.mp hl
          exact decide_eq_true ⟨(by show ("ask" : Str) ≠ "back"; decide), rfl⟩
        show _ = ((cOut h ((mkH h w true).others.map fun o => (("ask" : Str), h, o)) + 0 + 0 : Nat) : Int)
        rw [this]
        omega
    · rename_i e
      have hc : cOut h (netS ws k).row = 0 := by
        refine List.countP_eq_zero.mpr fun l hl q => ?_
        have h1 := (of_decide_eq_true q).2
        rw [er] at hl
        unfold begin at hl
        split at hl
        · cases hl
        · obtain ⟨o, _, rfl⟩ := List.mem_map.mp hl
          obtain ⟨w2, hw2⟩ := at_ws (ws := ws) (x := (k : Int)) (by omega) (by omega)
          have e0 := hands0_hd (k := k) (x := (k : Int)) (by omega) hw2
          rw [Int.toNat_natCast] at e0
          rw [e0] at h1
          exact e h1.symm
      rw [hc]
      rfl
  · exact hwn _ n.ask1
  · intro h hh hne _
    have hx2 := netS_inr.mp hh
    obtain ⟨w, hw⟩ := at_ws hx2.1 hx2.2
    rw [netS_hd hh hw, if_neg (show ¬ h = (k : Int) from hne)]
    rfl
  · intro h j hh e
    rw [hwn h hh] at e
    cases e
  · exact ⟨fun _ => 0, fun h j hh e => by rw [hwn h hh] at e; cases e⟩
/-- awake, or the asker -/
def Awake (S : NS) (x : Int) : Prop := x = S.asker ∨ ∃ k, (hd S x).waker = some k
theorem WInv.up {S : NS} (n : NInv S) (h : WInv S) {x k : Int} (hx : inr S x) (e : (hd S x).waker = some k) : inr S k ∧ Awake S k := by
  have hk := n.wak x k hx e
  refine ⟨hk, ?_⟩
  by_cases ea : k = S.asker
  · exact .inl ea
  · refine .inr ?_
    cases hw : (hd S k).waker with
    | some j => exact ⟨j, rfl⟩
    | none =>
      have h1 := h.sl k hk ea hw
      have h2 := h.ow k hk
      have h3 := cWk_pos hx e
      omega
/-- who is owed something is awake or the asker -/
theorem WInv.aw_of {S : NS} (h : WInv S) {x : Int} (hx : inr S x) (e : (hd S x).owed ≠ 0) : Awake S x := by
  by_cases ea : x = S.asker
  · exact .inl ea
  · refine .inr ?_
    cases hw : (hd S x).waker with
    | some j => exact ⟨j, rfl⟩
    | none => exact absurd (h.sl x hx ea hw) e
/-- a way of t steps from x on, none of it at the asker -/
def WayTo (S : NS) (rank : Int → Nat) (x : Int) (t : Nat) : Prop := inr S x ∧ Awake S x ∧ ∃ vs : List Int, vs.length = t ∧ vs.Nodup ∧ ∀ v ∈ vs, inr S v ∧ rank x < rank v
theorem WayTo.step {S : NS} (n : NInv S) (h : WInv S) {rank : Int → Nat} (hr : ∀ h k, inr S h → (hd S h).waker = some k → rank k < rank h) {x k : Int} {t : Nat} (w : WayTo S rank x t) (e : (hd S x).waker = some k) : WayTo S rank k (t + 1) := by
  obtain ⟨hx, _, vs, h1, h2, h3⟩ := w
  obtain ⟨hk, ak⟩ := h.up n hx e
  refine ⟨hk, ak, x :: vs, by rw [List.length_cons, h1], List.nodup_cons.mpr ⟨fun m => ?_, h2⟩, fun v hv => ?_⟩
  · have := (h3 x m).2
    omega
  · have hrx := hr x k hx e
    rcases List.mem_cons.mp hv with rfl | hv
    · exact ⟨hx, hrx⟩
    · have := h3 v hv
      exact ⟨this.1, by omega⟩
theorem WayTo.short {S : NS} {rank : Int → Nat} {x : Int} {t : Nat} (w : WayTo S rank x t) : t + 1 ≤ S.hands.length := by
  obtain ⟨hx, _, vs, h1, h2, h3⟩ := w
  have hnd : (x :: vs).Nodup := List.nodup_cons.mpr ⟨fun m => by have := (h3 x m).2; omega, h2⟩
  have := nodup_bound hnd (fun v hv => by
    rcases List.mem_cons.mp hv with rfl | hv
    · exact hx
    · exact (h3 v hv).1)
  rw [List.length_cons] at this
  omega
theorem WayTo.start {S : NS} {rank : Int → Nat} {x : Int} (hx : inr S x) (a : Awake S x) : WayTo S rank x 0 := ⟨hx, a, [], rfl, List.nodup_nil, fun v hv => nomatch hv⟩
end SB
/-! A net, plainly: at first, and when no letter waits; the bell. -/
namespace SB
open PySem L2
theorem mkH_free (i : Int) (w : Wt) (f : Bool) : (mkH i w f).free = true ↔ (mkH i w f).word = none := by
  cases w with
  | none => exact ⟨fun _ => rfl, fun _ => rfl⟩
  | some p => exact ⟨fun q => (by cases q), fun q => (by cases q)⟩
theorem FInv.start {ws : List Wt} {k : Nat} (ok : OkWs ws) (hk : k < ws.length) : FInv ws (netS ws k) [] := by
  have n := NInv.start ok hk
  have wi : WsI ws (netS ws k) := WsI.start
  have key : ∀ x, inr (netS ws k) x → ∃ w, ws[x.toNat]? = some w ∧ okW ws.length w ∧ hd (netS ws k) x = if x = (k : Int) then (begin (mkH x w true)).1 else mkH x w false := fun x hx => by
    have hx2 := netS_inr.mp hx
    obtain ⟨w, hw⟩ := at_ws hx2.1 hx2.2
    exact ⟨w, hw, ok.all w (List.mem_of_getElem? hw), netS_hd hx hw⟩
  have hfw : ∀ x, inr (netS ws k) x → ((hd (netS ws k) x).free = true ↔ (hd (netS ws k) x).word = none) := fun x hx => by
    obtain ⟨w, _, _, e⟩ := key x hx
    rw [e]
    split
    · rw [(begin_keep _).2.2.2.1, (begin_keep _).2.2.2.2.1]; exact mkH_free x w true
    · exact mkH_free x w false
  have hasx : ∀ x, inr (netS ws k) x → (hd (netS ws k) x).has = true → x = (k : Int) ∧ (hd (netS ws k) x).word ≠ none := fun x hx hh => by
    obtain ⟨w, _, _, e⟩ := key x hx
    rw [e] at hh ⊢
    split at hh
    · rename_i ek
      refine ⟨ek, ?_⟩
      rw [if_pos ek, (begin_keep _).2.2.2.2.1]
      cases w with
      | none => unfold begin at hh; rw [if_pos (show (mkH x none true).free = true from rfl)] at hh; cases hh
      | some p => exact fun z => by cases z
    · cases hh
  constructor
  · intro h hh hf
    exact lf_none (wi.wn hh ((hfw h hh).mp hf)).1
  · intro l hl e
    rw [start_row hl] at e
    exact absurd e (by decide)
  · intro h hh j hj
    rw [(start_hd hk hh).2.1] at hj
    cases hj
  · intro h hh e
    exact (hfw h hh).mpr e
  · intro h j _ _ hc
    exact absurd hc (by show ¬ 1 ≤ 0; decide)
  · intro h hh hf hw
    exact absurd ((hfw h hh).mp hf) hw
  · intro h hh hf
    rw [(start_hd hk hh).2.1]
    refine ⟨fun _ => rfl, fun e => ?_⟩
    obtain ⟨w, hw, hok, _⟩ := key h hh
    have h2 := wi.w hh e
    rw [hw] at h2
    cases h2
    exact List.length_pos_iff.mpr hok.1
  · intro h hh hf
    obtain ⟨e, e2⟩ := hasx h hh hf
    refine ⟨?_, e2⟩
    rw [e]
    exact .here
  · intro hw
    obtain ⟨w, _, _, e⟩ := key _ n.ask1
    have ek : (netS ws k).asker = (k : Int) := rfl
    rw [ek] at e hw ⊢
    rw [if_pos rfl] at e
    rw [e] at hw ⊢
    rw [(begin_keep _).2.2.2.2.1] at hw
    cases w with
    | none => exact absurd rfl hw
    | some p =>
      unfold begin
      rw [if_neg (show ¬ (mkH (k : Int) (some p) true).free = true from Bool.false_ne_true)]
      rfl
/-! ### when no letter waits -/
section
variable {ws : List Wt} {S : NS} {sent come : List Lt}
/-- at an empty row: an other of one that asked told so, or has asked itself and waits -/
theorem end_other (n : NInv S) (kk : KInv S sent come) (f : FInv ws S come) (er : S.row = []) {h j : Int} (hh : inr S h) (ha : (hd S h).has = true) (hj : j ∈ (hd S h).others) :
    inr S j ∧ (((hd S j).free = true ∧ (hd S h).told.count j = 1) ∨ ((hd S j).free = false ∧ (hd S h).told.count j = 0 ∧ (hd S j).has = true)) := by
  have hji := (n.oth h hh).2 j hj
  refine ⟨hji, ?_⟩
  have j1 := n.j1 h j hh hji
  unfold J1 at j1
  rw [er, if_pos (show (hd S h).has = true ∧ j ∈ (hd S h).others from ⟨ha, hj⟩)] at j1
  replace j1 : 0 + (if (hd S j).free = true then 0 else (hd S j).askers.count h) + 0 + (hd S h).told.count j = 1 := j1
  cases hf : (hd S j).free with
  | true =>
    rw [hf, if_pos rfl] at j1
    exact .inl ⟨rfl, by omega⟩
  | false =>
    rw [hf, if_neg Bool.false_ne_true] at j1
    refine .inr ⟨rfl, ?_, ?_⟩
    · -- who told is freed
      by_cases q : j ∈ (hd S h).told
      · have := f.f3 h hh j q
        rw [hf] at this
        cases this
      · exact List.count_eq_zero.mpr q
    · have q0 : (hd S h).told.count j = 0 := by
        by_cases q : j ∈ (hd S h).told
        · have := f.f3 h hh j q
          rw [hf] at this
          cases this
        · exact List.count_eq_zero.mpr q
      have j3 := kk.j3 h j hh hji
      rw [hf, if_neg Bool.false_ne_true] at j3
      refine f.f5 h j hh hji (by omega) ?_
      obtain ⟨b, eb⟩ := n.wrd j hji hf
      rw [eb]
      exact fun z => by cases z
theorem end_stuck (n : NInv S) (kk : KInv S sent come) (f : FInv ws S come) (wi : WsI ws S) (er : S.row = []) : ∀ (t : Nat) (h : Int), inr S h → (hd S h).has = true → (hd S h).free = false → fr ws t h.toNat = false
  | 0, _, _, _, _ => rfl
  | t + 1, h, hh, ha, hf => by
    obtain ⟨b, eb⟩ := n.wrd h hh hf
    have hw := wi.w hh eb
    obtain ⟨f7a, f7b⟩ := f.f7 h hh hf
    rw [fr_some hw]
    cases b with
    | true =>
      rw [if_pos rfl, List.any_eq_false]
      intro j hj
      obtain ⟨hji, ⟨_, q2⟩ | ⟨q1, _, q3⟩⟩ := end_other n kk f er hh ha hj
      · rw [f7a eb] at q2
        cases q2
      · rw [end_stuck n kk f wi er t j hji q3 q1]
        decide
    | false =>
      rw [if_neg Bool.false_ne_true]
      have hlt := f7b eb
      -- some other has not told
      have hex : ∃ j, j ∈ (hd S h).others ∧ j ∉ (hd S h).told := by
        apply Classical.byContradiction
        intro hno
        have hall : ∀ j ∈ (hd S h).others, j ∈ (hd S h).told := fun j hj => Classical.byContradiction fun hn => hno ⟨j, hj, hn⟩
        have := sub_lenN (n.oth h hh).1 hall
        omega
      obtain ⟨j, hj, hnt⟩ := hex
      obtain ⟨hji, ⟨_, q2⟩ | ⟨q1, _, q3⟩⟩ := end_other n kk f er hh ha hj
      · rw [List.count_eq_zero.mpr hnt] at q2
        cases q2
      · have := end_stuck n kk f wi er t j hji q3 q1
        cases hall : (hd S h).others.all fun o => fr ws t o.toNat with
        | false => rfl
        | true =>
          have h2 := List.all_eq_true.mp hall j hj
          rw [this] at h2
          cases h2
/-- at an empty row a hand that asked, or goes on, is freed just if the rounds free it -/
theorem end_free (n : NInv S) (kk : KInv S sent come) (f : FInv ws S come) (wi : WsI ws S) (er : S.row = []) {h : Int} (hh : inr S h) (ha : (hd S h).word ≠ none → (hd S h).has = true) : (hd S h).free = lf ws h := by
  cases hf : (hd S h).free with
  | true => exact (f.f1 h hh hf).symm
  | false =>
    obtain ⟨b, eb⟩ := n.wrd h hh hf
    exact (end_stuck n kk f wi er ws.length h hh (ha (by rw [eb]; exact fun z => by cases z)) hf).symm
/-- who is reached and waits has asked, at an empty row -/
theorem end_reach (n : NInv S) (kk : KInv S sent come) (f : FInv ws S come) (wi : WsI ws S) (er : S.row = []) {h : Int} (r : Reach ws S.asker h) : inr S h ∧ ((hd S h).word ≠ none → (hd S h).has = true) := by
  induction r with
  | here => exact ⟨n.ask1, f.f9⟩
  | step r hw ho ih =>
    rename_i h o b os
    obtain ⟨hh, ih⟩ := ih
    have e : (hd S h).word = some b ∧ (hd S h).others = os := by
      obtain ⟨w, h1, h2, h3⟩ := wi.2 h hh
      rw [hw] at h1
      cases h1
      exact ⟨h2, h3⟩
    have ha := ih (by rw [e.1]; exact fun z => by cases z)
    have hoi : inr S o := (n.oth h hh).2 o (by rw [e.2]; exact ho)
    refine ⟨hoi, fun hwo => ?_⟩
    obtain ⟨_, ⟨q1, _⟩ | ⟨_, _, q3⟩⟩ := end_other n kk f er hh ha (by rw [e.2]; exact ho)
    · exact f.f6 o hoi q1 hwo
    · exact q3
end
/-! ### the bell -/
theorem up_asker {S : NS} (n : NInv S) (h : WInv S) {rank : Int → Nat} (hr : ∀ h k, inr S h → (hd S h).waker = some k → rank k < rank h) : ∀ (m : Nat) (x : Int), rank x ≤ m → inr S x → Awake S x → (hd S x).owed ≠ 0 → (hd S S.asker).owed ≠ 0
  | m, x, hm, hx, a, ho => by
    rcases a with a | ⟨k, hk⟩
    · rw [← a]; exact ho
    · have hrk := hr x k hx hk
      cases m with
      | zero => omega
      | succ m =>
        obtain ⟨hki, ak⟩ := h.up n hx hk
        refine up_asker n h hr m k (by omega) hki ak ?_
        have h2 := h.ow k hki
        have h3 := cWk_pos hx hk
        omega
/-- ahead of each letter the asker is owed something -/
theorem WInv.busy {S : NS} (n : NInv S) (h : WInv S) {l : Lt} (hl : l ∈ S.row) : 0 < (hd S S.asker).owed := by
  obtain ⟨rank, hr⟩ := h.rk
  obtain ⟨hwd, h1, h2⟩ := n.row l hl
  have hpos : ∀ x, inr S x → 1 ≤ cOut x S.row + cBack x S.row → 0 < (hd S S.asker).owed := by
    intro x hx hc
    have ho := h.ow x hx
    have hne : (hd S x).owed ≠ 0 := by omega
    have h3 := up_asker n h hr (rank x) x (Nat.le_refl _) hx (h.aw_of hx hne) hne
    have h4 := h.ow _ n.ask1
    omega
  by_cases e : l.1 = "back"
  · refine hpos l.2.2 h2 ?_
    have : 1 ≤ cBack l.2.2 S.row := List.countP_pos_iff.mpr ⟨l, hl, decide_eq_true ⟨e, rfl⟩⟩
    omega
  · refine hpos l.2.1 h1 ?_
    have : 1 ≤ cOut l.2.1 S.row := List.countP_pos_iff.mpr ⟨l, hl, decide_eq_true ⟨e, rfl⟩⟩
    omega
/-- when none waits: nobody is awake, the asker is owed nothing -/
theorem WInv.idle {S : NS} (n : NInv S) (h : WInv S) (er : S.row = []) : (∀ x, inr S x → (hd S x).waker = none) ∧ (hd S S.asker).owed = 0 := by
  obtain ⟨rank, hr⟩ := h.rk
  have hno : ∀ x, inr S x → (hd S x).waker = none := by
    -- one of greatest rank is owed by nobody
    have key : ∀ (d : Nat) (x : Int), inr S x → (∀ y, inr S y → rank y ≤ rank x + d) → (hd S x).waker = none := by
      intro d
      induction d with
      | zero =>
        intro x hx hmax
        cases hk : (hd S x).waker with
        | none => rfl
        | some k =>
          exfalso
          have h1 := h.ac x k hx hk
          have h2 := h.ow x hx
          rw [er] at h2
          have h3 : cWk x S.hands = 0 := by
            refine List.countP_eq_zero.mpr fun s hs q => ?_
            obtain ⟨i, hi⟩ := List.mem_iff_getElem?.mp hs
            have hlt := (List.getElem?_eq_some_iff.mp hi).1
            have hin : inr S (i : Int) := ⟨by omega, by omega⟩
            have hw := of_decide_eq_true q
            rw [← hd_of hi] at hw
            have h4 := hr _ _ hin hw
            have h5 := hmax _ hin
            omega
          rw [h3] at h2
          exact h1 h2
      | succ d ih =>
        intro x hx hmax
        cases hk : (hd S x).waker with
        | none => rfl
        | some k =>
          exfalso
          have h1 := h.ac x k hx hk
          have h2 := h.ow x hx
          rw [er] at h2
          have h3 : cWk x S.hands = 0 := by
            refine List.countP_eq_zero.mpr fun s hs q => ?_
            obtain ⟨i, hi⟩ := List.mem_iff_getElem?.mp hs
            have hlt := (List.getElem?_eq_some_iff.mp hi).1
            have hin : inr S (i : Int) := ⟨by omega, by omega⟩
            have hw := of_decide_eq_true q
            rw [← hd_of hi] at hw
            have h4 := hr _ _ hin hw
            have h5 := ih _ hin (fun y hy => by have := hmax y hy; omega)
            rw [h5] at hw
            cases hw
          rw [h3] at h2
          exact h1 h2
    intro x hx
    -- a bound on all ranks
    have hb : ∃ M, ∀ y, inr S y → rank y ≤ M := by
      refine ⟨((List.range S.hands.length).map fun (i : Nat) => rank (i : Int)).foldr max 0, fun y hy => ?_⟩
      have hm : ∀ (l : List Nat) (a : Nat), a ∈ l → a ≤ l.foldr max 0 := by
        intro l
        induction l with
        | nil => intro a h; cases h
        | cons b l ih =>
          intro a ha
          rw [List.foldr_cons]
          rcases List.mem_cons.mp ha with rfl | ha
          · exact Nat.le_max_left _ _
          · exact Nat.le_trans (ih a ha) (Nat.le_max_right _ _)
      refine hm _ _ (List.mem_map.mpr ⟨y.toNat, List.mem_range.mpr (by have := hy.1; have := hy.2; omega), ?_⟩)
      rw [← inr_nat hy]
    obtain ⟨M, hM⟩ := hb
    exact key M x hx (fun y hy => by have := hM y hy; omega)
  refine ⟨hno, ?_⟩
  have h2 := h.ow _ n.ask1
  rw [er] at h2
  have h3 : cWk S.asker S.hands = 0 := by
    refine List.countP_eq_zero.mpr fun s hs q => ?_
    obtain ⟨i, hi⟩ := List.mem_iff_getElem?.mp hs
    have hlt := (List.getElem?_eq_some_iff.mp hi).1
    have hin : inr S (i : Int) := ⟨by omega, by omega⟩
    have hw := of_decide_eq_true q
    rw [← hd_of hi, hno _ hin] at hw
    cases hw
  rw [h3] at h2
  exact h2
end SB
/-! A net, plainly: how many letters there are in all. -/
namespace SB
open PySem L2
def cw (v : Str) (row : List Lt) : Nat := row.countP fun l => decide (l.1 = v)
theorem cw_app (v : Str) (a b : List Lt) : cw v (a ++ b) = cw v a + cw v b := List.countP_append
theorem cw_one (v : Str) (l : Lt) : cw v [l] = if l.1 = v then 1 else 0 := countP_one (fun l : Lt => l.1 = v) l
theorem cw_at {v : Str} {row : List Lt} {p : Nat} {l : Lt} (hp : row[p]? = some l) : cw v row = cw v (row.eraseIdx p) + if l.1 = v then 1 else 0 := by
  unfold cw
  rw [countP_at hp]
  by_cases e : l.1 = v
  · rw [if_pos e, if_pos (decide_eq_true e)]
  · rw [if_neg e, if_neg (by rw [decide_eq_false e]; decide)]
theorem cw_all {v w : Str} {m : List Lt} (h : ∀ l ∈ m, l.1 = w) : cw v m = if w = v then m.length else 0 := by
  unfold cw
  split
  · rename_i e
    exact List.countP_eq_length.mpr fun l hl => decide_eq_true ((h l hl).trans e)
  · rename_i e
    exact List.countP_eq_zero.mpr fun l hl q => e ((h l hl).symm.trans (of_decide_eq_true q))
theorem cw_len : ∀ {m : List Lt}, (∀ l ∈ m, Wd3 l.1) → m.length = cw "ask" m + cw "freed" m + cw "back" m
  | [], _ => rfl
  | l :: m, h => by
    have ih := cw_len (m := m) fun x hx => h x (List.mem_cons_of_mem _ hx)
    have e : ∀ v, cw v (l :: m) = (if l.1 = v then 1 else 0) + cw v m := fun v => by
      rw [← List.singleton_append, cw_app, cw_one]
    rw [List.length_cons, e, e, e, ih]
    rcases h l List.mem_cons_self with q | q | q
    · rw [q, if_pos rfl, if_neg (by decide), if_neg (by decide)]; omega
    · rw [q, if_neg (by decide), if_pos rfl, if_neg (by decide)]; omega
    · rw [q, if_neg (by decide), if_neg (by decide), if_pos rfl]; omega
/-- a sum over the hands -/
def sumH (f : HS → Nat) : List HS → Nat
  | [] => 0
  | s :: hs => f s + sumH f hs
theorem sumH_set {f : HS → Nat} {t : HS} : ∀ {hs : List HS} {i : Nat} {s : HS}, hs[i]? = some s → sumH f (hs.set i t) + f s = sumH f hs + f t
  | [], _, _, h => by simp at h
  | a :: hs, 0, s, h => by
    simp at h
    subst h
    show f t + sumH f hs + f a = f a + sumH f hs + f t
    omega
  | a :: hs, i + 1, s, h => by
    have ih := sumH_set (f := f) (t := t) (hs := hs) (i := i) (s := s) (by simpa using h)
    show f a + sumH f (hs.set i t) + f s = f a + sumH f hs + f t
    omega
theorem sumH_le {f g : HS → Nat} : ∀ {hs : List HS}, (∀ s ∈ hs, f s ≤ g s) → sumH f hs ≤ sumH g hs
  | [], _ => Nat.le_refl _
  | a :: hs, h => by
    have ih := sumH_le (f := f) (g := g) (hs := hs) fun s hs' => h s (List.mem_cons_of_mem _ hs')
    have h1 := h a List.mem_cons_self
    show f a + sumH f hs ≤ g a + sumH g hs
    omega
theorem sumH_zero {f : HS → Nat} : ∀ {hs : List HS}, (∀ s ∈ hs, f s = 0) → sumH f hs = 0
  | [], _ => rfl
  | a :: hs, h => by
    have ih := sumH_zero (f := f) (hs := hs) fun s hs' => h s (List.mem_cons_of_mem _ hs')
    have h1 := h a List.mem_cons_self
    show f a + sumH f hs = 0
    omega
def fAw (s : HS) : Nat := if s.waker.isSome = true then 1 else 0
def fAsk (s : HS) : Nat := if s.has = true then s.others.length else 0
def fTold (s : HS) : Nat := s.told.length
def fPend (s : HS) : Nat := if s.free = true then 0 else s.askers.length
structure TInv (S : NS) (sent come : List Lt) : Prop where
  t0 : ∀ v, cw v sent = cw v S.row + cw v come
  t1 : cw "back" sent + sumH fAw S.hands = cw "ask" come + cw "freed" come
  t2 : cw "ask" sent = sumH fAsk S.hands
  t3 : cw "freed" sent = sumH fTold S.hands + cw "freed" S.row
  t4 : cw "freed" sent + sumH fPend S.hands = cw "ask" come
theorem TInv.bring {S : NS} {sent come : List Lt} (n : NInv S) (h : TInv S sent come) {p : Nat} {l : Lt} (hp : S.row[p]? = some l) : TInv (bringS S p l (hd S l.2.2)) (sent ++ (SB.come (hd S l.2.2) l.1 l.2.1).2) (come ++ [l]) := by
  obtain ⟨hwd, hj, hi⟩ := n.row l (List.mem_of_getElem? hp)
  obtain ⟨w, j, i⟩ := l
  replace hj : inr S j := hj
  replace hi : inr S i := hi
  replace hwd : Wd3 w := hwd
  show TInv (bringS S p (w, j, i) (hd S i)) (sent ++ (SB.come (hd S i) w j).2) (come ++ [(w, j, i)])
  obtain ⟨b1, m, b2, els, cd⟩ := come_cd (hd S i) w j
  have kp := keep_come (s := hd S i) (w := w) (j := j)
  have hb1 : ∀ l ∈ b1, l.1 = "back" := fun l hl => (cd.b1 l hl).1
  have hb2 : ∀ l ∈ b2, l.1 = "back" := fun l hl => (cd.b2 l hl).1
  have cc := cd.1
  have hnum := n.num i hi
  have hrow : (bringS S p (w, j, i) (hd S i)).row = S.row.eraseIdx p ++ (b1 ++ m ++ b2) := by rw [← els]; rfl
  have hgi := hd_get hi
  have hsum : ∀ f : HS → Nat, sumH f (bringS S p (w, j, i) (hd S i)).hands + f (hd S i) = sumH f S.hands + f (SB.come (hd S i) w j).1 := fun f => sumH_set hgi
  rw [els]
  generalize (SB.come (hd S i) w j).1 = t at *
  have nb : ¬ ("back" : Str) = "ask" := by decide
  have nb2 : ¬ ("back" : Str) = "freed" := by decide
  have na : ¬ ("ask" : Str) = "freed" := by decide
  have na2 : ¬ ("ask" : Str) = "back" := by decide
  have nf : ¬ ("freed" : Str) = "ask" := by decide
  have nf2 : ¬ ("freed" : Str) = "back" := by decide
  have hat := fun v => cw_at (v := v) hp
  have hatA : cw "ask" S.row = cw "ask" (S.row.eraseIdx p) + if w = "ask" then 1 else 0 := hat "ask"
  have hatF : cw "freed" S.row = cw "freed" (S.row.eraseIdx p) + if w = "freed" then 1 else 0 := hat "freed"
  have h1A : cw "ask" [(w, j, i)] = if w = "ask" then 1 else 0 := cw_one _ _
  have h1F : cw "freed" [(w, j, i)] = if w = "freed" then 1 else 0 := cw_one _ _
  have lsA : cw "ask" (b1 ++ m ++ b2) = cw "ask" m := by rw [cw_app, cw_app, cw_all hb1, cw_all hb2, if_neg nb]; rw [if_neg nb]; omega
  have lsF : cw "freed" (b1 ++ m ++ b2) = cw "freed" m := by rw [cw_app, cw_app, cw_all hb1, cw_all hb2, if_neg nb2]; rw [if_neg nb2]; omega
  have mB : cw "back" m = 0 := by
    cases cc with
    | c0 => rfl
    | c1 => rw [cw_one, if_neg nf2]
    | c2 => rfl
    | c3 => rw [cw_all (w := "ask") (fun l hl => by obtain ⟨o, _, rfl⟩ := List.mem_map.mp hl; rfl), if_neg na2]
    | c4 => rfl
    | c5 => rw [cw_all (w := "freed") (fun l hl => by obtain ⟨o, _, rfl⟩ := List.mem_map.mp hl; rfl), if_neg nf2]
  have lsB : cw "back" (b1 ++ m ++ b2) = b1.length + b2.length := by rw [cw_app, cw_app, cw_all hb1, cw_all hb2, if_pos rfl, mB]; rw [if_pos rfl]; omega
  obtain ⟨t0, t1, t2, t3, t4⟩ := h
  constructor
  · intro v
    rw [hrow, cw_app v sent, cw_app v (S.row.eraseIdx p), cw_app v come]
    have h2 := hat v
    have h3 : cw v [(w, j, i)] = if (w, j, i).1 = v then 1 else 0 := cw_one _ _
    have h4 := t0 v
    omega
  · rw [cw_app, lsB, cw_app, cw_app, h1A, h1F]
    have hs := hsum fAw
    have hbal : b1.length + b2.length + fAw t = fAw (hd S i) + if w = "back" then 0 else 1 := by
      obtain ⟨_, wk, h1, h2⟩ := cd
      unfold fAw
      have hk2 : b2.length + (if t.waker.isSome = true then 1 else 0) = if wk.isSome = true then 1 else 0 := by
        rcases h2 with ⟨k, e1, _, e2, e3⟩ | ⟨_, e2, e3⟩
        · rw [e1, e2, e3]; rfl
        · rw [e2, e3, List.length_nil, Nat.zero_add]
      have hk1 : b1.length + (if wk.isSome = true then 1 else 0) = (if (hd S i).waker.isSome = true then 1 else 0) + if w = "back" then 0 else 1 := by
        rcases h1 with ⟨hw, e1, e2, _⟩ | ⟨hw, ⟨_, e1, e2⟩ | ⟨hq, e1, e2⟩, _⟩
        · rw [e1, e2, if_pos hw]; rw [List.length_nil]; omega
        · rw [e1, e2, if_neg hw]; rw [List.length_singleton]; omega
        · have e3 : (hd S i).waker = none := by
            cases hk : (hd S i).waker with
            | none => rfl
            | some k => rw [hk] at hq; simp at hq
          rw [e1, e2, e3, if_neg hw]; rfl
      omega
    have hw3 : (if w = "ask" then 1 else 0) + (if w = "freed" then 1 else 0) = if w = "back" then 0 else (1 : Nat) := by
      rcases hwd with q | q | q
      · rw [q, if_pos rfl, if_neg na, if_neg na2]
      · rw [q, if_neg nf, if_pos rfl, if_neg nf2]
      · rw [q, if_neg nb, if_neg nb2, if_pos rfl]
    omega
  · rw [cw_app, lsA]
    have hs := hsum fAsk
    have : cw "ask" m + fAsk (hd S i) = fAsk t := by
      unfold fAsk
      rw [kp.others]
      cases cc with
      | c0 _ _ a => rw [a]; exact Nat.zero_add _
      | c1 _ _ _ a => rw [a, cw_one, if_neg nf]; exact Nat.zero_add _
      | c2 _ _ a _ b => rw [a, b]; exact Nat.zero_add _
      | c3 _ _ a _ b =>
        rw [a, b, if_neg Bool.false_ne_true, if_pos rfl, cw_all (w := "ask") (fun l hl => by obtain ⟨o, _, rfl⟩ := List.mem_map.mp hl; rfl), if_pos rfl, List.length_map]; rfl
      | c4 _ _ _ _ a => rw [a]; exact Nat.zero_add _
      | c5 _ _ _ _ _ a => rw [a, cw_all (w := "freed") (fun l hl => by obtain ⟨o, _, rfl⟩ := List.mem_map.mp hl; rfl), if_neg nf]; exact Nat.zero_add _
    omega
  · rw [cw_app, lsF, hrow, cw_app, lsF]
    have hs := hsum fTold
    have : fTold t = fTold (hd S i) + if w = "freed" then 1 else 0 := by
      unfold fTold
      cases cc with
      | c0 a _ _ _ b => rw [b, if_neg (by rw [a]; exact nb2)]; rfl
      | c1 a _ _ _ _ b => rw [b, if_neg (by rw [a]; exact na)]; rfl
      | c2 a _ _ _ _ _ b => rw [b, if_neg (by rw [a]; exact na)]; rfl
      | c3 a _ _ _ _ _ b => rw [b, if_neg (by rw [a]; exact na)]; rfl
      | c4 a1 a2 _ _ _ _ b =>
        rw [b, if_pos (by rcases hwd with q | q | q; exact absurd q a2; exact q; exact absurd q a1), List.length_append, List.length_singleton]
      | c5 a1 a2 _ _ _ _ _ b =>
        rw [b, if_pos (by rcases hwd with q | q | q; exact absurd q a2; exact q; exact absurd q a1), List.length_append, List.length_singleton]
    omega
  · rw [cw_app, lsF, cw_app, h1A]
    have hs := hsum fPend
    have : cw "freed" m + fPend t = fPend (hd S i) + if w = "ask" then 1 else 0 := by
      unfold fPend
      cases cc with
      | c0 a b _ c => rw [b, c, if_neg (show ¬ w = "ask" by rw [a]; exact nb)]; exact Nat.zero_add _
      | c1 a b c => rw [b, c, if_pos rfl, cw_one, if_pos rfl, if_pos a]; rfl
      | c2 a b _ c _ d => rw [b, c, d, if_neg Bool.false_ne_true, if_neg Bool.false_ne_true, if_pos a, List.length_append, List.length_singleton]; exact Nat.zero_add _
      | c3 a b _ c _ d => rw [b, c, d, if_neg Bool.false_ne_true, if_neg Bool.false_ne_true, if_pos a, List.length_append, List.length_singleton, cw_all (w := "ask") (fun l hl => by obtain ⟨o, _, rfl⟩ := List.mem_map.mp hl; rfl), if_neg na]; exact Nat.zero_add _
      | c4 _ a _ b _ c => rw [b, c, if_neg a]; exact Nat.zero_add _
      | c5 _ a b _ c => rw [b, c, if_pos rfl, if_neg Bool.false_ne_true, if_neg a, cw_all (w := "freed") (fun l hl => by obtain ⟨o, _, rfl⟩ := List.mem_map.mp hl; rfl), if_pos rfl, List.length_map]
    omega
end SB
/-! A net, plainly: the letters counted at first, in the end, and at most. -/
namespace SB
open PySem L2
theorem TInv.start {ws : List Wt} {k : Nat} (ok : OkWs ws) (hk : k < ws.length) : TInv (netS ws k) (netS ws k).row [] := by
  have hall : ∀ s ∈ (netS ws k).hands, s.askers = [] ∧ s.told = [] ∧ s.waker = none := by
    intro s hs
    obtain ⟨i, hi⟩ := List.mem_iff_getElem?.mp hs
    have hlt := (List.getElem?_eq_some_iff.mp hi).1
    have hin : inr (netS ws k) (i : Int) := ⟨by omega, by omega⟩
    have := start_hd hk hin
    rw [hd_of hi] at this
    exact this
  have hc0 : ∀ v, cw v [] = 0 := fun _ => rfl
  have hr : ∀ v, cw v (netS ws k).row = if ("ask" : Str) = v then (netS ws k).row.length else 0 := fun v => cw_all fun l hl => start_row hl
  have s1 : sumH fAw (netS ws k).hands = 0 := sumH_zero fun s hs => by unfold fAw; rw [(hall s hs).2.2]; rfl
  have s3 : sumH fTold (netS ws k).hands = 0 := sumH_zero fun s hs => by unfold fTold; rw [(hall s hs).2.1]; rfl
  have s4 : sumH fPend (netS ws k).hands = 0 := sumH_zero fun s hs => by unfold fPend; rw [(hall s hs).1]; split <;> rfl
  constructor
  · intro v; rw [hc0, Nat.add_zero]
  · rw [hr, if_neg (by decide), s1, hc0, hc0]
  · rw [hr, if_pos rfl]
    obtain ⟨w, hw⟩ : ∃ w, ws[k]? = some w := ⟨ws[k], List.getElem?_eq_getElem hk⟩
    have h0 := hands0_at (k := k) hw
    rw [decide_eq_true rfl] at h0
    have e0 := handAt_of h0
    have hz : sumH fAsk (hands0 ws k) = 0 := by
      refine sumH_zero fun s hs => ?_
      obtain ⟨i, hi⟩ := List.mem_iff_getElem?.mp hs
      have hlt := (List.getElem?_eq_some_iff.mp hi).1
      rw [hands0_len] at hlt
      have h1 := hands0_at (k := k) (List.getElem?_eq_getElem hlt)
      rw [h1] at hi
      cases hi
      rfl
    have hset := sumH_set (f := fAsk) (t := (begin (mkH (k : Int) w true)).1) h0
    have f0 : fAsk (mkH (k : Int) w true) = 0 := rfl
    have e1 : (netS ws k).hands = (hands0 ws k).set k (begin (mkH (k : Int) w true)).1 := by
      show (hands0 ws k).set k (begin (handAt (hands0 ws k) k)).1 = _
      rw [e0]
    have e2 : (netS ws k).row = (begin (mkH (k : Int) w true)).2 := by
      show (begin (handAt (hands0 ws k) k)).2 = _
      rw [e0]
    have e3 : fAsk (begin (mkH (k : Int) w true)).1 = (begin (mkH (k : Int) w true)).2.length := by
      unfold begin
      split
      · exact f0
      · show (mkH (k : Int) w true).others.length = ((mkH (k : Int) w true).others.map _).length
        rw [List.length_map]
    rw [e1, e2]
    omega
  · rw [hr, if_neg (by decide), s3]
  · rw [hr, if_neg (by decide), s4, hc0]
/-- never more than four for each other that is waited for -/
theorem TInv.most {S : NS} {sent come : List Lt} (h : TInv S sent come) (hs : ∀ l ∈ sent, Wd3 l.1) : sent.length ≤ 4 * sumH (fun s => s.others.length) S.hands := by
  have h1 := cw_len hs
  have hA := h.t0 "ask"
  have hF := h.t0 "freed"
  have t1 := h.t1
  have t2 := h.t2
  have t4 := h.t4
  have h5 : sumH fAsk S.hands ≤ sumH (fun s => s.others.length) S.hands := sumH_le fun s _ => by
    unfold fAsk
    split
    · exact Nat.le_refl _
    · exact Nat.zero_le _
  omega
/-- when none waits: two for each ask, two for each freed -/
theorem TInv.done {S : NS} {sent come : List Lt} (n : NInv S) (w : WInv S) (h : TInv S sent come) (hs : ∀ l ∈ sent, Wd3 l.1) (er : S.row = []) : sent.length = 2 * sumH fAsk S.hands + 2 * sumH fTold S.hands := by
  have h1 := cw_len hs
  have hA := h.t0 "ask"
  have hF := h.t0 "freed"
  have t1 := h.t1
  have t2 := h.t2
  have t3 := h.t3
  rw [er] at hA hF t3
  have z : ∀ v, cw v [] = 0 := fun _ => rfl
  rw [z] at hA hF t3
  have hz : sumH fAw S.hands = 0 := sumH_zero fun s hs => by
    obtain ⟨i, hi⟩ := List.mem_iff_getElem?.mp hs
    have hlt := (List.getElem?_eq_some_iff.mp hi).1
    have hin : inr S (i : Int) := ⟨by omega, by omega⟩
    have := (w.idle n er).1 _ hin
    rw [hd_of hi] at this
    unfold fAw
    rw [this]
    rfl
  omega
theorem TInv.len {S : NS} {sent come : List Lt} (h : TInv S sent come) (h1 : ∀ l ∈ sent, Wd3 l.1) (h2 : ∀ l ∈ S.row, Wd3 l.1) (h3 : ∀ l ∈ come, Wd3 l.1) : sent.length = S.row.length + come.length := by
  rw [cw_len h1, cw_len h2, cw_len h3, h.t0, h.t0, h.t0]
  omega
end SB
/-! A net, plainly: all that is kept, in one; what stands when no letter waits. -/
namespace SB
open PySem L2
structure GInv (ws : List Wt) (S : NS) (sent come : List Lt) : Prop where
  n : NInv S
  k : KInv S sent come
  f : FInv ws S come
  wi : WsI ws S
  w : WInv S
  t : TInv S sent come
  s3 : ∀ l ∈ sent, Wd3 l.1
  c3 : ∀ l ∈ come, Wd3 l.1
  st : S.sent = (sent.length : Int)
theorem GInv.start {ws : List Wt} {k : Nat} (ok : OkWs ws) (hk : k < ws.length) : GInv ws (netS ws k) (netS ws k).row [] where
  n := NInv.start ok hk
  k := KInv.start ok hk
  f := FInv.start ok hk
  wi := WsI.start
  w := WInv.start ok hk
  t := TInv.start ok hk
  s3 := fun l hl => ((NInv.start ok hk).row l hl).1
  c3 := fun l hl => nomatch hl
  st := rfl
theorem GInv.bring {ws : List Wt} {S : NS} {sent come : List Lt} (g : GInv ws S sent come) {p : Nat} {l : Lt} (hp : S.row[p]? = some l) : GInv ws (bringS S p l (hd S l.2.2)) (sent ++ (SB.come (hd S l.2.2) l.1 l.2.1).2) (come ++ [l]) := by
  obtain ⟨hwd, hj, hi⟩ := g.n.row l (List.mem_of_getElem? hp)
  refine ⟨g.n.bring hp, g.k.bring g.n hp, g.f.bring g.n g.k g.wi hp, g.wi.bring hi, g.w.bring g.n hp, g.t.bring g.n hp, fun x hx => ?_, fun x hx => ?_, ?_⟩
  · rcases List.mem_append.mp hx with hx | hx
    · exact g.s3 x hx
    · exact ((g.n.bring hp).row x (List.mem_append.mpr (.inr hx))).1
  · rcases List.mem_append.mp hx with hx | hx
    · exact g.c3 x hx
    · rw [List.mem_singleton.mp hx]; exact hwd
  · show S.sent + _ = _
    rw [g.st, List.length_append]
    omega
/-- sums over the hands -/
theorem sumH_map {f : HS → Nat} {q : Nat → HS} : ∀ l : List Nat, ((sumH f (l.map q) : Nat) : Int) = (l.map fun k => ((f (q k) : Nat) : Int)).sum
  | [] => rfl
  | a :: l => by
    have ih := sumH_map (f := f) (q := q) l
    rw [List.map_cons, List.map_cons, List.sum_cons, ← ih]
    show ((f (q a) + sumH f (l.map q) : Nat) : Int) = _
    omega
theorem hands_range (S : NS) : S.hands = (List.range S.hands.length).map fun (k : Nat) => hd S (k : Int) := by
  refine List.ext_getElem? fun i => ?_
  rw [List.getElem?_map]
  by_cases h : i < S.hands.length
  · rw [List.getElem?_range h, List.getElem?_eq_getElem h]
    show some _ = some (hd S (i : Int))
    rw [hd_of (List.getElem?_eq_getElem h)]
  · rw [List.getElem?_eq_none (by omega), List.getElem?_eq_none (by rw [List.length_range]; omega)] <;> rfl
theorem sumH_range (f : HS → Nat) (S : NS) : ((sumH f S.hands : Nat) : Int) = ((List.range S.hands.length).map fun (k : Nat) => ((f (hd S (k : Int)) : Nat) : Int)).sum := by
  have h := sumH_map (f := f) (q := fun (k : Nat) => hd S (k : Int)) (List.range S.hands.length)
  rw [← hands_range S] at h
  exact h
theorem sum_two {c a b : Nat → Int} : ∀ l : List Nat, (∀ k ∈ l, c k = 2 * a k + 2 * b k) → (l.map c).sum = 2 * (l.map a).sum + 2 * (l.map b).sum
  | [], _ => rfl
  | x :: l, h => by
    have ih := sum_two (c := c) (a := a) (b := b) l fun k hk => h k (List.mem_cons_of_mem _ hk)
    have h1 := h x List.mem_cons_self
    rw [List.map_cons, List.map_cons, List.map_cons, List.sum_cons, List.sum_cons, List.sum_cons, ih, h1]
    omega
/-- the hands that p picks, rising -/
def pickI (p : Nat → Bool) (n : Nat) : List Int := ((List.range n).filter p).map fun (k : Nat) => (k : Int)
theorem pick_lt (p : Nat → Bool) (n : Nat) : (pickI p n).Pairwise (· < ·) := by
  unfold pickI
  rw [List.pairwise_map]
  exact ((List.pairwise_lt_range (n := n)).filter p).imp fun h => by omega
theorem pick_mem {p : Nat → Bool} {n : Nat} {x : Int} : x ∈ pickI p n ↔ (0 ≤ x ∧ x < (n : Int)) ∧ p x.toNat = true := by
  unfold pickI
  rw [List.mem_map]
  constructor
  · rintro ⟨k, hk, rfl⟩
    obtain ⟨h1, h2⟩ := List.mem_filter.mp hk
    have := List.mem_range.mp h1
    exact ⟨⟨by omega, by omega⟩, h2⟩
  · rintro ⟨⟨h0, h1⟩, h2⟩
    exact ⟨x.toNat, List.mem_filter.mpr ⟨List.mem_range.mpr (by omega), h2⟩, by omega⟩
theorem pick_sum {p : Nat → Bool} {g : Int → Int} : ∀ l : List Nat, (((l.filter p).map fun (k : Nat) => (k : Int)).map g).sum = (l.map fun k => if p k = true then g (k : Int) else 0).sum
  | [] => rfl
  | a :: l => by
    have ih := pick_sum (p := p) (g := g) l
    rw [List.filter_cons, List.map_cons (f := fun k => if p k = true then g (k : Int) else 0), List.sum_cons]
    split
    · rw [List.map_cons, List.map_cons, List.sum_cons, ih]
    · rw [ih]; omega
theorem sorted_ext : ∀ {l m : List Int}, l.Pairwise (· < ·) → m.Pairwise (· < ·) → (∀ x, x ∈ l ↔ x ∈ m) → l = m
  | [], [], _, _, _ => rfl
  | [], b :: m, _, _, h => by have := (h b).mpr List.mem_cons_self; cases this
  | a :: l, [], _, _, h => by have := (h a).mp List.mem_cons_self; cases this
  | a :: l, b :: m, hl, hm, h => by
    obtain ⟨hl1, hl2⟩ := List.pairwise_cons.mp hl
    obtain ⟨hm1, hm2⟩ := List.pairwise_cons.mp hm
    have e : a = b := by
      rcases List.mem_cons.mp ((h a).mp List.mem_cons_self) with q | q
      · exact q
      · rcases List.mem_cons.mp ((h b).mpr List.mem_cons_self) with r | r
        · exact r.symm
        · have := hl1 b r
          have := hm1 a q
          omega
    subst e
    have e2 : l = m := sorted_ext hl2 hm2 fun x => by
      constructor
      · intro hx
        rcases List.mem_cons.mp ((h x).mp (List.mem_cons_of_mem _ hx)) with q | q
        · have := hl1 x hx
          omega
        · exact q
      · intro hx
        rcases List.mem_cons.mp ((h x).mpr (List.mem_cons_of_mem _ hx)) with q | q
        · have := hm1 x hx
          omega
        · exact q
    rw [e2]
theorem shown_pick (S : NS) : shownTo S.hands S.hands.length = pickI (fun k => (hd S (k : Int)).has && !(hd S (k : Int)).free) S.hands.length := by
  unfold shownTo pickI
  congr 1
  refine List.filter_congr fun k hk => ?_
  have hlt := List.mem_range.mp hk
  rw [List.getElem?_eq_getElem hlt, hd_of (List.getElem?_eq_getElem hlt)]
  rfl
theorem shown_mem {S : NS} {x : Int} : x ∈ shownTo S.hands S.hands.length ↔ inr S x ∧ (hd S x).has = true ∧ (hd S x).free = false := by
  rw [shown_pick, pick_mem]
  constructor
  · rintro ⟨h, e⟩
    have hx : ((x.toNat : Nat) : Int) = x := by omega
    rw [hx, Bool.and_eq_true] at e
    refine ⟨h, e.1, ?_⟩
    cases q : (hd S x).free with
    | false => rfl
    | true => rw [q] at e; cases e.2
  · rintro ⟨h, e1, e2⟩
    have hx : ((x.toNat : Nat) : Int) = x := by have := h.1; omega
    refine ⟨h, ?_⟩
    rw [hx, e1, e2]
    rfl
theorem shown_lt (S : NS) : (shownTo S.hands S.hands.length).Pairwise (· < ·) := by
  rw [shown_pick]
  exact pick_lt _ _
/-! ### when no letter waits -/
section
variable {ws : List Wt} {S : NS} {sent come : List Lt}
/-- who asked: just who is reached and waits -/
def Waits (ws : List Wt) (x : Int) : Prop := ∃ b os, ws[x.toNat]? = some (some (b, os))
theorem GInv.has_iff (g : GInv ws S sent come) (er : S.row = []) {x : Int} (hx : inr S x) : (hd S x).has = true ↔ Reach ws S.asker x ∧ Waits ws x := by
  constructor
  · intro h
    obtain ⟨r, hw⟩ := g.f.f8 x hx h
    refine ⟨r, ?_⟩
    cases e : (hd S x).word with
    | none => exact absurd e hw
    | some b => exact ⟨b, _, g.wi.w hx e⟩
  · rintro ⟨r, b, os, e⟩
    obtain ⟨_, h⟩ := end_reach g.n g.k g.f g.wi er r
    refine h fun z => ?_
    have := (g.wi.wn hx z).1
    rw [e] at this
    cases this
theorem GInv.free_has (g : GInv ws S sent come) (er : S.row = []) {x : Int} (hx : inr S x) (h : (hd S x).has = true) : (hd S x).free = lf ws x :=
  end_free g.n g.k g.f g.wi er hx fun _ => h
theorem GInv.told_iff (g : GInv ws S sent come) (er : S.row = []) {h o : Int} (hh : inr S h) (ha : (hd S h).has = true) (ho : o ∈ (hd S h).others) : inr S o ∧ (lf ws o = true ↔ o ∈ (hd S h).told) ∧ (lf ws o = false → (hd S o).has = true ∧ (hd S o).free = false) := by
  obtain ⟨hoi, ⟨q1, q2⟩ | ⟨q1, q2, q3⟩⟩ := end_other g.n g.k g.f er hh ha ho
  · have hl := g.f.f1 o hoi q1
    refine ⟨hoi, ⟨fun _ => ?_, fun _ => hl⟩, fun z => ?_⟩
    · exact List.count_pos_iff.mp (by omega)
    · rw [hl] at z; cases z
  · have hl := g.free_has er hoi q3
    rw [q1] at hl
    refine ⟨hoi, ⟨fun z => ?_, fun z => ?_⟩, fun _ => ⟨q3, q1⟩⟩
    · rw [← hl] at z; cases z
    · have := List.count_pos_iff.mpr z
      omega
theorem GInv.bell (g : GInv ws S sent come) (er : S.row = []) : bellV (hd S S.asker) = .bl (!(lf ws S.asker)) := by
  unfold bellV
  have h0 := (g.w.idle g.n er).2
  rw [if_neg (by omega), end_free g.n g.k g.f g.wi er g.n.ask1 g.f.f9]
theorem GInv.busy (g : GInv ws S sent come) (hr : 0 < S.row.length) : bellV (hd S S.asker) = .non := by
  unfold bellV
  have h0 := g.w.busy g.n (List.getElem_mem hr)
  rw [if_pos h0]
/-- a stuck hand that is shown waits for shown ones -/
theorem GInv.show (g : GInv ws S sent come) (er : S.row = []) {h : Int} (hh : h ∈ shownTo S.hands S.hands.length) : ∃ b, ws[h.toNat]? = some (some (b, (hd S h).others)) ∧
    (if b then ∀ o ∈ (hd S h).others, o ∈ shownTo S.hands S.hands.length else ∃ o ∈ (hd S h).others, o ∈ shownTo S.hands S.hands.length) := by
  obtain ⟨hi, ha, hf⟩ := shown_mem.mp hh
  obtain ⟨b, eb⟩ := g.n.wrd h hi hf
  have hw := g.wi.w hi eb
  have hst : lf ws h = false := by rw [← g.free_has er hi ha]; exact hf
  have hin : ∀ o ∈ (hd S h).others, lf ws o = false → o ∈ shownTo S.hands S.hands.length := fun o ho hl => by
    obtain ⟨h1, _, h3⟩ := g.told_iff er hi ha ho
    exact shown_mem.mpr ⟨h1, h3 hl⟩
  refine ⟨b, hw, ?_⟩
  cases b with
  | true =>
    rw [if_pos rfl]
    intro o ho
    refine hin o ho ?_
    cases e : lf ws o with
    | false => rfl
    | true => rw [lf_any hw ho e] at hst; cases hst
  | false =>
    rw [if_neg Bool.false_ne_true]
    apply Classical.byContradiction
    intro hno
    have : lf ws h = true := lf_all hw fun o ho => by
      cases e : lf ws o with
      | true => rfl
      | false => exact absurd ⟨o, ho, hin o ho e⟩ hno
    rw [hst] at this
    cases this
end
end SB
namespace SB
open PySem L2
/-! ### the law k09: waits -/
section
variable {F0 H0 F H F' H' : Hp} {L M : List (Addr × HO)}
theorem Zs.callM (Z : Zs F0 H0 F H L) (W : Zs F H F' H' M) : Zs F0 H0 F' H' (M ++ L) where
  ff := Z.ff.trans W.ff
  hh := Z.hh.trans W.hh
  fh := W.fh
  sep := fun a e n => W.sep a (Z.sep a e n) (same_some Z.hh n)
  led := fun q hq => by
    rcases List.mem_append.mp hq with hq | hq
    · obtain ⟨a, b, c⟩ := W.led q hq
      exact ⟨a, b, same_none Z.hh c⟩
    · obtain ⟨a, b, c⟩ := Z.led q hq
      exact ⟨W.hh _ _ a, W.sep _ b (some_ne a), c⟩
  nd := by
    rw [List.map_append, List.nodup_append]
    refine ⟨W.nd, Z.nd, fun a ha b hb e => ?_⟩
    subst e
    obtain ⟨q, hq, rfl⟩ := List.mem_map.mp ha
    obtain ⟨r, hr, e⟩ := List.mem_map.mp hb
    have h1 := (W.led q hq).2.2
    have h2 := (Z.led r hr).1
    have e' : r.1 = q.1 := e
    rw [e', h1] at h2
    cases h2
/-- many cells that do not change any more -/
theorem Zs.frzs : ∀ {M : List (Addr × HO)} {F : Hp}, Zs F0 H0 F H (M ++ L) → ∃ F', Zs F0 H0 F' H L ∧ Same F F' ∧ ∀ q ∈ M, F' q.1 = some q.2
  | [], F, Z => ⟨F, Z, Same.refl _, fun _ q => nomatch q⟩
  | q :: M, F, Z => by
    obtain ⟨F1, Z1, s1, e1⟩ := Z.frzAt (p := q.1) (o := q.2) 0 rfl
    obtain ⟨F2, Z2, s2, h2⟩ := Zs.frzs (M := M) Z1
    refine ⟨F2, Z2, s1.trans s2, fun r hr => ?_⟩
    rcases List.mem_cons.mp hr with rfl | hr
    · exact s2 _ _ e1
    · exact h2 r hr
end
/-- waits whose lists may still change -/
inductive WsOwn (F : Hp) : List V → List Wt → List (Addr × HO) → Prop
  | nil : WsOwn F [] [] []
  | cons {v : V} {vs : List V} {w : Wt} {ws : List Wt} {M1 M : List (Addr × HO)} : WOwn F v w M1 → WsOwn F vs ws M → WsOwn F (v :: vs) (w :: ws) (M1 ++ M)
section
variable {F F' : Hp}
theorem WsOwn.up (s : Same F F') : ∀ {vs : List V} {ws : List Wt} {M : List (Addr × HO)}, WsOwn F vs ws M → WsOwn F' vs ws M
  | _, _, _, .nil => .nil
  | _, _, _, .cons h1 h2 => .cons (h1.up s) (WsOwn.up s h2)
theorem WsOwn.snoc {v : V} {w : Wt} {M1 : List (Addr × HO)} (h : WOwn F v w M1) : ∀ {vs : List V} {ws : List Wt} {M : List (Addr × HO)}, WsOwn F vs ws M → WsOwn F (vs ++ [v]) (ws ++ [w]) (M ++ M1)
  | _, _, _, .nil => by
    have := WsOwn.cons h (.nil (F := F))
    rw [List.append_nil] at this
    exact this
  | _, _, _, .cons h1 h2 => by
    rw [List.append_assoc]
    exact .cons h1 (WsOwn.snoc h h2)
theorem WsOwn.len : ∀ {vs : List V} {ws : List Wt} {M : List (Addr × HO)}, WsOwn F vs ws M → vs.length = ws.length
  | _, _, _, .nil => rfl
  | _, _, _, .cons _ h2 => by rw [List.length_cons, List.length_cons, WsOwn.len h2]
theorem WsOwn.at : ∀ {vs : List V} {ws : List Wt} {M : List (Addr × HO)} {i : Nat} {v : V} {w : Wt}, WsOwn F vs ws M → vs[i]? = some v → ws[i]? = some w → ∃ M1, WOwn F v w M1 ∧ ∀ q ∈ M1, q ∈ M
  | _, _, _, _, _, _, .nil, h, _ => by simp at h
  | _, _, _, 0, _, _, .cons h1 _, h, k => by
    simp at h k
    subst h k
    exact ⟨_, h1, fun q hq => List.mem_append.mpr (.inl hq)⟩
  | _, _, _, i + 1, _, _, .cons _ h2, h, k => by
    obtain ⟨M1, a, b⟩ := WsOwn.at (i := i) h2 (by simpa using h) (by simpa using k)
    exact ⟨M1, a, fun q hq => List.mem_append.mpr (.inr (b q hq))⟩
theorem WsOwn.wsin {vs : List V} {ws : List Wt} {M L : List (Addr × HO)} {p : Addr} (h : WsOwn F vs ws M) (hp : (p, .lst vs) ∈ L) (hM : ∀ q ∈ M, q ∈ L) : WsIn F L (.ref p) ws :=
  ⟨p, vs, rfl, .inr hp, h.len, fun i v w h1 h2 => by
    obtain ⟨M1, a, b⟩ := h.at h1 h2
    cases a with
    | non => exact .inl ⟨rfl, rfl⟩
    | own e => exact .inr ⟨_, _, _, _, rfl, rfl, e, .inr (hM _ (b _ (List.mem_singleton.mpr rfl)))⟩⟩
theorem WsOwn.td : ∀ {vs : List V} {ws : List Wt} {M : List (Addr × HO)}, WsOwn F vs ws M → (∀ q ∈ M, F q.1 = some q.2) → TdA F vs (ws.map dW)
  | _, _, _, .nil, _ => .nil
  | _, _, _, .cons h1 h2, k => by
    refine .cons ?_ (WsOwn.td h2 fun q hq => k q (List.mem_append.mpr (.inr hq)))
    cases h1 with
    | non => exact .non
    | own e => exact Td.mk_w e (k _ (List.mem_append.mpr (.inl (List.mem_singleton.mpr rfl))))
end
def sizeBy (ns : List Int) : Int := if cellAt ns 0 / 7 % 4 = 1 then 1 + cellAt ns 0 / 28 % 12 else 1 + cellAt ns 0 % 7
theorem size_in (ns : List Int) : 1 ≤ sizeBy ns ∧ sizeBy ns ≤ 12 := by unfold sizeBy; split <;> omega
def fewOf (ns : List Int) : Int := cellAt ns 1 / 60 % 2
theorem few_in (ns : List Int) : 0 ≤ fewOf ns ∧ fewOf ns < 2 := by unfold fewOf; omega
def waitAt (ns : List Int) (i : Nat) : Wt := waitBy (mixBy ns (3 + (i : Int)) i) (sizeBy ns) (fewOf ns)
def waitsOf (ns : List Int) : List Wt := (List.range (sizeBy ns).toNat).map (waitAt ns)
theorem waits_len (ns : List Int) : (waitsOf ns).length = (sizeBy ns).toNat := by unfold waitsOf; rw [List.length_map, List.length_range]
theorem waits_ok (ns : List Int) : OkWs (waitsOf ns) := by
  have h := size_in ns
  refine ⟨by rw [waits_len]; omega, by rw [waits_len]; omega, fun w hw => ?_⟩
  obtain ⟨i, _, rfl⟩ := List.mem_map.mp hw
  exact wait_ok (by rw [waits_len]; omega) (by omega)
theorem waits_few (ns : List Int) {k : Nat} {b : Bool} {os : List Int} (h : (waitsOf ns)[k]? = some (some (b, os))) : os.length ≤ 3 := by
  unfold waitsOf at h
  rw [List.getElem?_map] at h
  cases e : (List.range (sizeBy ns).toNat)[k]? with
  | none => rw [e] at h; cases h
  | some i =>
    rw [e] at h
    replace h : some (waitAt ns i) = some (some (b, os)) := h
    have h2 := Option.some.inj h
    unfold waitAt waitBy at h2
    split at h2
    · cases h2
    · cases h2
      exact Nat.le_trans (oth_len _) (by omega)
def pr_waits (K : PySem.W.Frag) (A : Ad) : V → Hp → VK → XK → Prop := fun a H Q _ => ∃ F p ns, Same F H ∧ a = .ref p ∧ SqL K H p (ns.map V.int) ∧
  ∀ F' H' D vs M, Zs F H F' H' ((D, .lst vs) :: M) → WsOwn F' vs (waitsOf ns) M → Q (.ref D) H'
abbrev sp_waits (K : PySem.W.Frag) (A : Ad) : Sp := sp1 (pr_waits K A)
section
variable {K : PySem.W.Frag} {σ : St} {F0 H0 F H : Hp} {L : List (Addr × HO)} {Q : VK} {te : TE} {tt : TT} {vs : List Nat} {j : Nat}
theorem lc_rngO {n : Int} (hn : 0 ≤ n ∧ n ≤ 100000) (Z : Zs F0 H0 F H L) (P : Nat → List V → List (Addr × HO) → Hp → Prop) (hw : ∀ x, wipe ((wipe σ vs).set j (some x)) vs = wipe σ vs) (h0 : P 0 [] L F)
    (hs : ∀ (i : Nat) Dl F' H' acc M, (i : Int) < n → Zs F0 H0 F' H' ((Dl, .lst acc) :: M) → Same F F' → acc.length ≤ i → P i acc M F' →
      tt ((wipe σ vs).set j (some (.int (i : Int)))) H' fun b H3 => if b = true then te ((wipe σ vs).set j (some (.int (i : Int)))) H3 (CYg F0 H0 F P Dl i) else CWg F0 H0 F P Dl (i + 1) H3)
    (hd : ∀ Dl F' H' acc M, Zs F0 H0 F' H' ((Dl, .lst acc) :: M) → Same F F' → P n.toNat acc M F' → Q (.ref Dl) H') : LR1 j tt te vs σ Q [.int n] H :=
  ⟨n, rfl, by omega, by omega, fun Dl hD => lc_range (lo := 0) (n := n.toNat) (CWg F0 H0 F P Dl) ⟨F, [], L, Z.alloc hD, Same.refl _, Nat.le_refl _, h0⟩ (fun i H' hi p => by
    obtain ⟨F', acc, M, Z', s', hl, p'⟩ := p
    have e0 : (0 : Int) + (i : Int) = (i : Int) := Int.zero_add _
    show wipe ((wipe σ vs).set j (some (.int ((0 : Int) + (i : Int))))) vs = wipe σ vs ∧ tt ((wipe σ vs).set j (some (.int ((0 : Int) + (i : Int))))) H' fun b H3 => if b = true then te ((wipe σ vs).set j (some (.int ((0 : Int) + (i : Int))))) H3 (CYg F0 H0 F P Dl i) else CWg F0 H0 F P Dl (i + 1) H3
    rw [e0]
    exact ⟨hw _, hs i Dl F' H' acc M (by omega) Z' s' hl p'⟩) (fun H' p => by
    obtain ⟨F', acc, M, Z', s', hl, p'⟩ := p
    exact hd Dl F' H' acc M Z' s' p')⟩
end
def t_waits (K : PySem.W.Frag) (A : Ad) : TS :=
    (tSeq (tAsg (tCall (sp_cell_at K A) [] E0 (tCons (tVar 0) (tCons (tC (.int 0)) tNil))) (gName 1))
    (tSeq (tAsg (tOp qAdd (tC (.int 1)) (tOp qMod (tVar 1) (tC (.int 7)))) (gName 2))
    (Evl.tCut (tIfS (tTest (tOp rEq (tOp qMod (tOp qDiv (tVar 1) (tC (.int 7))) (tC (.int 4))) (tC (.int 1))))
    (tAsg (tOp qAdd (tC (.int 1)) (tOp qMod (tOp qDiv (tVar 1) (tC (.int 28))) (tC (.int 12)))) (gName 2))
    tNext)
    (tSeq (tAsg (tOp qMod (tOp qDiv (tCall (sp_cell_at K A) [] E0 (tCons (tVar 0) (tCons (tC (.int 1)) tNil))) (tC (.int 60))) (tC (.int 2))) (gName 3))
    (tRet (tLc (iRng1 (tCons (tVar 2) tNil)) (gName 4) tYes (tCall (sp_wait_by K A) [] E0 (tCons (tCall (sp_mixed K A) [] E0 (tCons (tVar 0) (tCons (tOp qAdd (tC (.int 3)) (tVar 4)) (tCons (tVar 4) tNil)))) (tCons (tVar 2) (tCons (tVar 3) tNil)))) [4]))))))
theorem rd_waits {K : PySem.W.Frag} {A : Ad} {a : V} {H : Hp} {Q : VK} {E : XK} (h : pr_waits K A a H Q E) : t_waits K A { nx := fun _ H' => Q .non H', rt := Q } [some a, none, none, none, none] H := by
  obtain ⟨F, p, ns, sF, rfl, hs, q⟩ := h
  have Z : Zs F H F H [] := Zs.start sF
  have hsz := size_in ns
  have hfw := few_in ns
  unfold t_waits
  walk_at "rd"
  refine ⟨p, ns, 0, rfl, rfl, hs, by decide, ?_⟩
  walk_at "rd"
  refine r_cut (fun σ' H' => σ' = [some (.ref p), some (.int (cellAt ns 0)), some (.int (sizeBy ns)), none, none] ∧ H = H') ?_ ?_
  · walk_at "rd"
    refine ifd (fun h => ?_) (fun h => ?_)
    · walk_at "rd"
      exact ⟨by unfold sizeBy; rw [if_pos h], rfl⟩
    · walk_at "rd"
      exact ⟨by unfold sizeBy; rw [if_neg h], rfl⟩
  rintro σ' H' ⟨rfl, rfl⟩
  walk_at "rd"
  refine ⟨p, ns, 1, rfl, rfl, hs, by decide, ?_⟩
  walk_at "rd"
  refine lc_rngO (by omega) Z (fun i acc M F' => WsOwn F' acc ((List.range i).map (waitAt ns)) M) (fun _ => rfl) .nil ?_ ?_
  · intro i Dl F' H' acc M hi Z' s hacc hP
    dsimp only [wipe]
    walk_at "rd"
    refine ifT rfl ?_
    walk_at "rd"
    refine ⟨p, ns, _, _, rfl, rfl, rfl, Z'.hh.seq hs, by omega, ?_⟩
    walk_at "rd"
    refine ⟨F', _, _, _, Z'.fh, rfl, rfl, rfl, hfw.1, hfw.2, hsz.1, by omega, mix_nn _ _ _, fun F2 H2 v M2 Z2 hv => ?_⟩
    have Z3 : Zs F H F2 H2 ((Dl, .lst acc) :: (M ++ M2)) := (Z'.callM Z2).perm (List.perm_append_comm (l₁ := M2) (l₂ := (Dl, HO.lst acc) :: M))
    refine cyG Z3 (s.trans Z2.ff) hacc (by omega) ?_
    show WsOwn F2 _ _ _
    rw [List.range_succ, List.map_append]
    exact WsOwn.snoc hv (hP.up Z2.ff)
  intro D1 F1 H1 acc1 M1 Z1 s1 hP1
  exact q F1 _ _ _ _ Z1 hP1
end SB
/-! Law k08: its own freed. -/
namespace SB
open PySem L2
/-- between the rounds: at least those of the first t, at most all -/
structure SW (ws : List Wt) (t i : Nat) (bs : List Bool) : Prop where
  len : bs.length = ws.length
  lo : ∀ h, fr ws t h = true → bs.getD h false = true
  lo1 : ∀ h, h < i → fr ws (t + 1) h = true → bs.getD h false = true
  up : ∀ h, bs.getD h false = true → fr ws ws.length h = true
  non : ∀ h, ws[h]? = some none → bs.getD h false = true
theorem SW.next {ws : List Wt} {t : Nat} {bs : List Bool} (h : SW ws t ws.length bs) : SW ws (t + 1) 0 bs := by
  refine ⟨h.len, fun x hx => ?_, fun x hx => absurd hx (Nat.not_lt_zero _), h.up, h.non⟩
  by_cases hl : x < ws.length
  · exact h.lo1 x hl hx
  · rw [fr_out (List.getElem?_eq_none (by omega))] at hx
    cases hx
theorem getD_set {bs : List Bool} {i h : Nat} {v : Bool} (hi : i < bs.length) : (bs.set i v).getD h false = if i = h then v else bs.getD h false := by
  rw [List.getD_eq_getElem?_getD, List.getElem?_set, List.getD_eq_getElem?_getD]
  split
  · rename_i e
    rfl
  · rfl
/-- the hand i is looked at -/
theorem SW.skip {ws : List Wt} {t i : Nat} {bs : List Bool} (h : SW ws t i bs) (hb : bs.getD i false = true) : SW ws t (i + 1) bs := by
  refine ⟨h.len, h.lo, fun x hx hf => ?_, h.up, h.non⟩
  by_cases e : x = i
  · rw [e]; exact hb
  · exact h.lo1 x (by omega) hf
theorem SW.set {ws : List Wt} {t i : Nat} {bs : List Bool} {b : Bool} {os : List Int} (ok : OkWs ws) (h : SW ws t i bs) (hi : i < ws.length) (hb : bs.getD i false = false) (hw : ws[i]? = some (some (b, os))) :
    SW ws t (i + 1) (bs.set i (if b then os.any (fun o => bs.getD o.toNat false) else os.all (fun o => bs.getD o.toNat false))) := by
  have hil : i < bs.length := by rw [h.len]; exact hi
  refine ⟨by rw [List.length_set]; exact h.len, fun x hx => ?_, fun x hx hf => ?_, fun x hx => ?_, fun x hx => ?_⟩
  · rw [getD_set hil]
    split
    · rename_i e
      subst e
      have := h.lo i hx
      rw [hb] at this
      cases this
    · exact h.lo x hx
  · rw [getD_set hil]
    split
    · rename_i e
      subst e
      rw [fr_some hw] at hf
      cases b with
      | true =>
        rw [if_pos rfl] at hf ⊢
        obtain ⟨o, ho, hfo⟩ := List.any_eq_true.mp hf
        exact List.any_eq_true.mpr ⟨o, ho, h.lo _ hfo⟩
      | false =>
        rw [if_neg Bool.false_ne_true] at hf ⊢
        exact List.all_eq_true.mpr fun o ho => h.lo _ (List.all_eq_true.mp hf o ho)
    · rename_i e
      exact h.lo1 x (by omega) hf
  · rw [getD_set hil] at hx
    split at hx
    · rename_i e
      subst e
      refine fr_end (ws.length + 1) _ ?_
      rw [fr_some hw]
      cases b with
      | true =>
        rw [if_pos rfl] at hx ⊢
        obtain ⟨o, ho, hfo⟩ := List.any_eq_true.mp hx
        exact List.any_eq_true.mpr ⟨o, ho, h.up _ hfo⟩
      | false =>
        rw [if_neg Bool.false_ne_true] at hx ⊢
        exact List.all_eq_true.mpr fun o ho => h.up _ (List.all_eq_true.mp hx o ho)
    · exact h.up x hx
  · rw [getD_set hil]
    split
    · rename_i e
      subst e
      rw [hw] at hx
      cases hx
    · exact h.non x hx
def freeB (ws : List Wt) : List Bool := (List.range ws.length).map fun h => fr ws ws.length h
theorem SW.done {ws : List Wt} {bs : List Bool} (h : SW ws ws.length 0 bs) : bs = freeB ws := by
  refine List.ext_getElem? fun i => ?_
  unfold freeB
  rw [List.getElem?_map]
  by_cases hi : i < ws.length
  · rw [List.getElem?_range hi, List.getElem?_eq_getElem (by rw [h.len]; exact hi)]
    show some _ = some (fr ws ws.length i)
    have e : bs.getD i false = bs[i]'(by rw [h.len]; exact hi) := by
      rw [List.getD_eq_getElem?_getD, List.getElem?_eq_getElem (by rw [h.len]; exact hi)] <;> rfl
    rw [← e]
    cases hb : bs.getD i false with
    | true => rw [h.up i hb]
    | false =>
      cases hf : fr ws ws.length i with
      | false => rfl
      | true => rw [h.lo i hf] at hb; cases hb
  · rw [List.getElem?_eq_none (by rw [h.len]; omega), List.getElem?_eq_none (by rw [List.length_range]; omega)] <;> rfl
theorem freeB_get (ws : List Wt) (h : Nat) : (freeB ws).getD h false = fr ws ws.length h := by
  unfold freeB
  rw [List.getD_eq_getElem?_getD, List.getElem?_map]
  by_cases hl : h < ws.length
  · rw [List.getElem?_range hl] <;> rfl
  · rw [List.getElem?_eq_none (by rw [List.length_range]; omega), fr_out (List.getElem?_eq_none (by omega))] <;> rfl
theorem freeB_len (ws : List Wt) : (freeB ws).length = ws.length := by unfold freeB; rw [List.length_map, List.length_range]
theorem r_pop {F0 H0 F H : Hp} {L : List (Addr × HO)} {Q : VK} {l : Addr} {xs : List V} {y : V} (i : Nat) (Z : Zs F0 H0 F H L) (h : L[i]? = some (l, .lst (xs ++ [y]))) (k : ∀ H', Zs F0 H0 F H' (L.set i (l, .lst xs)) → Q y H') : rPop (.ref l) [] H Q := by
  refine ⟨l, xs ++ [y], y, rfl, rfl, Z.get h, ?_, ?_⟩
  · rw [List.length_append, List.length_singleton, Nat.add_sub_cancel, List.getElem?_append_right (Nat.le_refl _), Nat.sub_self] <;> rfl
  · rw [List.dropLast_concat]
    exact k _ (Z.setAt i h)
end SB
/-! Law k08: the walk of its own freed. -/
namespace SB
open PySem L2
def takenB (bs : List Bool) (os : List Int) : List Int := os.filter fun o => bs.getD o.toNat false
theorem taken_any (bs : List Bool) (os : List Int) : (!(takenB bs os).isEmpty) = os.any fun o => bs.getD o.toNat false := by
  unfold takenB
  induction os with
  | nil => rfl
  | cons a os ih =>
    rw [List.filter_cons, List.any_cons]
    cases bs.getD a.toNat false with
    | true => rfl
    | false => exact ih
theorem taken_all (bs : List Bool) (os : List Int) : decide ((takenB bs os).length = os.length) = os.all fun o => bs.getD o.toNat false := by
  unfold takenB
  induction os with
  | nil => rfl
  | cons a os ih =>
    rw [List.filter_cons, List.all_cons]
    cases bs.getD a.toNat false with
    | true =>
      rw [if_pos rfl, List.length_cons, List.length_cons, Bool.true_and, ← ih]
      by_cases e : (List.filter (fun o => bs.getD o.toNat false) os).length = os.length
      · rw [decide_eq_true e, decide_eq_true (by omega)]
      · rw [decide_eq_false e, decide_eq_false (by omega)]
    | false =>
      have := List.length_filter_le (fun o => bs.getD o.toNat false) os
      rw [if_neg Bool.false_ne_true, Bool.false_and, decide_eq_false (by rw [List.length_cons]; omega)]
def pr_freed (K : PySem.W.Frag) (A : Ad) : V → Hp → VK → XK → Prop := fun w H Q _ => ∃ ws : List Wt, Td H w (dWs ws) ∧ OkWs ws ∧ RetL H Q ((freeB ws).map V.bl)
abbrev sp_freed (K : PySem.W.Frag) (A : Ad) : Sp := sp1 (pr_freed K A)
def t_freed (K : PySem.W.Frag) (A : Ad) : TS :=
    (tSeq (tAsg (tLc (iList K (tVar 0)) (gName 1) tYes (tOp qIsN (tVar 1) (tC .non)) [1]) (gName 2))
    (tSeq (tFor (iRng1 (tCons (tCB (qLen K) (tCons (tVar 0) tNil)) tNil)) (gName 3)
    (tFor (iRng1 (tCons (tCB (qLen K) (tCons (tVar 0) tNil)) tNil)) (gName 4)
    (tIfS (tNot (tB (tOp (rIxL K) (tVar 2) (tVar 4))))
    (tSeq (tAsg (tLc (iList K (tOp (rIxT K) (tOp (rIxL K) (tVar 0) (tVar 4)) (tC (.int 1)))) (gName 5) (tB (tOp (rIxL K) (tVar 2) (tVar 5))) (tVar 5) [5]) (gName 6))
    (tSeq (tAsg (tOp rEq (tCB (qLen K) (tCons (tVar 6) tNil)) (tCB (qLen K) (tCons (tOp (rIxT K) (tOp (rIxL K) (tVar 0) (tVar 4)) (tC (.int 1))) tNil))) (gName 7))
    (tAsg (tAndV (tOp (rNeD K) (tVar 6) (tLst tNil)) (tOrV (tOp rEq (tOp (rIxT K) (tOp (rIxL K) (tVar 0) (tVar 4)) (tC (.int 0))) (tC (.str "any"))) (tVar 7))) (gSub (tVar 2) (tVar 4) rSetL))))
    tNext)))
    (tRet (tVar 2))))
theorem rd_freed {K : PySem.W.Frag} {A : Ad} {w : V} {H : Hp} {Q : VK} {E : XK} (h : pr_freed K A w H Q E) : t_freed K A { nx := fun _ H' => Q .non H', rt := Q } [some w, none, none, none, none, none, none, none] H := by
  obtain ⟨ws, hw, ok, q⟩ := h
  have o1 := ok.pos
  have o2 := ok.most
  obtain ⟨pw, xs, rfl, hp, hx, hl⟩ := Td.inv_ws hw
  unfold t_freed
  walk_at "rd"
  refine lc_lst (SqL.of hp) (Zs.start (Same.refl H)) (fun i acc F' => acc = ((ws.take i).map fun w => w.isNone).map V.bl) rfl (fun F' H' Z' sm => SqL.of (Z'.hh _ _ hp)) ?_ ?_
  · rintro i y Dl F' H' acc hy Z' sm hacc rfl
    obtain ⟨wt, ew, tw⟩ := hx.ws_at hy
    have hlt := (List.getElem?_eq_some_iff.mp ew).1
    walk_at "rd"
    refine ⟨rfl, ?_⟩
    refine r_yes (ifT rfl ?_)
    walk_at "rd"
    have e : decide (y = .non) = wt.isNone := by
      cases wt with
      | none => rw [tw.inv_non]; rfl
      | some p =>
        obtain ⟨b, os⟩ := p
        obtain ⟨a, l, rfl, _, _⟩ := tw.inv_w
        rfl
    rw [e]
    refine cy Z' sm hacc (by omega) ?_
    rw [take_snoc ew, List.map_append, List.map_append] <;> rfl
  rintro pl F1 H1 acc Z sm rfl
  replace Z := Z.weak (Same.refl _) sm
  rw [hl, List.take_length] at Z
  have S0 : SW ws 0 0 (ws.map fun w => w.isNone) := by
    refine ⟨by rw [List.length_map], fun h q => (by cases q), fun h q => absurd q (Nat.not_lt_zero _), fun h q => ?_, fun h q => ?_⟩
    · rw [List.getD_eq_getElem?_getD, List.getElem?_map] at q
      cases e : ws[h]? with
      | none => rw [e] at q; cases q
      | some w =>
        rw [e] at q
        cases w with
        | none => exact fr_end 1 _ (fr_none e)
        | some p => cases q
    · rw [List.getD_eq_getElem?_getD, List.getElem?_map, q] <;> rfl
  generalize (ws.map fun w => w.isNone) = bs0 at Z S0
  walk_at "rd"
  refine r_lenL (SqL.of (Z.hh _ _ hp)) ?_
  rw [hl]
  walk_at "rd"
  refine r_rng1 (by omega) (fun t σ' H' => (∃ y3 y4 y6 y7, σ' = [some (.ref pw), none, some (.ref pl), y3, y4, none, y6, y7]) ∧ ∃ bs, SW ws t 0 bs ∧ Zs H H H H' [(pl, .lst (bs.map V.bl))]) ⟨⟨_, _, _, _, rfl⟩, bs0, S0, Z⟩ ?_ ?_
  · rintro t σ' H2 ht ⟨⟨y3, y4, y6, y7, rfl⟩, bs, hS, Z⟩
    dsimp only [List.set_cons_succ, List.set_cons_zero]
    walk_at "rd"
    refine r_lenL (SqL.of (Z.hh _ _ hp)) ?_
    rw [hl]
    walk_at "rd"
    refine r_rng1 (by omega) (fun i σ' H' => (∃ y3 y4 y6 y7, σ' = [some (.ref pw), none, some (.ref pl), y3, y4, none, y6, y7]) ∧ ∃ bs, SW ws t i bs ∧ Zs H H H H' [(pl, .lst (bs.map V.bl))]) ⟨⟨_, _, _, _, rfl⟩, bs, hS, Z⟩ ?_ ?_
    · rintro i σ' H3 hi ⟨⟨y3, y4, y6, y7, rfl⟩, bs, hS, Z⟩
      have hi2 : i < ws.length := by omega
      have hib : i < bs.length := by rw [hS.len]; exact hi2
      dsimp only [List.set_cons_succ, List.set_cons_zero]
      walk_at "rd"
      refine r_ixL (SqL.of (Z.get (i := 0) rfl)) (atI_nat (get_boolD hib)) ?_
      walk_at "rd"
      refine ifnb (fun e => ?_) (fun e => ?_)
      · obtain ⟨wt, ewt⟩ : ∃ w, ws[i]? = some w := ⟨ws[i], List.getElem?_eq_getElem hi2⟩
        cases wt with
        | none =>
          rw [hS.non i ewt] at e
          cases e
        | some p =>
          obtain ⟨b, os⟩ := p
          obtain ⟨wv, ewv, tw⟩ := hx.ws_get ewt
          obtain ⟨pa, po, rfl, ea, eo⟩ := tw.inv_w
          have hok := ok.all _ (List.mem_of_getElem? ewt)
          have hol := nodup_bound hok.2.1 hok.2.2
          walk_at "rd"
          refine r_ixL (SqL.of (Z.hh _ _ hp)) (atI_nat ewv) ?_
          walk_at "rd"
          refine r_ixT (SqT.of (Z.hh _ _ ea)) (at_i (by decide) rfl) ?_
          refine lc_lst (SqL.of (Z.hh _ _ eo)) Z (fun k acc F' => acc = (takenB bs (os.take k)).map V.int) rfl (fun F' H' Z' sm => SqL.of (Z'.hh _ _ eo)) ?_ ?_
          · rintro k y Dl F' H' acc hy Z' sm hacc rfl
            obtain ⟨o, ho, rfl⟩ := of_get_ints hy
            have hob := hok.2.2 o (List.mem_of_getElem? ho)
            have hlt := (List.getElem?_eq_some_iff.mp ho).1
            walk_at "rd"
            refine ⟨rfl, ?_⟩
            walk_at "rd"
            refine r_ixL (SqL.of (Z'.get (i := 1) rfl)) (at_i hob.1 (get_boolD (by rw [hS.len]; omega))) ?_
            walk_at "rd"
            have etk : takenB bs (os.take (k + 1)) = takenB bs (os.take k) ++ if bs.getD o.toNat false = true then [o] else [] := by
              unfold takenB
              rw [take_snoc ho, List.filter_append, List.filter_cons, List.filter_nil]
            refine ifb (fun e2 => ?_) (fun e2 => ?_)
            · walk_at "rd"
              refine cy Z' sm hacc (by omega) ?_
              rw [etk, if_pos e2, List.map_append] <;> rfl
            · refine cn Z' sm hacc ?_
              rw [etk, if_neg (by rw [e2]; decide), List.append_nil]
          · rintro pc F' H4 acc Z4 sm4 rfl
            replace Z4 := Z4.weak (Same.refl _) sm4
            rw [List.length_map, List.take_length] at Z4
            walk_at "rd"
            refine r_lenL (SqL.of (Z4.get (i := 0) rfl)) ?_
            walk_at "rd"
            refine r_ixL (SqL.of (Z4.hh _ _ hp)) (atI_nat ewv) ?_
            walk_at "rd"
            refine r_ixT (SqT.of (Z4.hh _ _ ea)) (at_i (by decide) rfl) ?_
            walk_at "rd"
            refine r_lenL (SqL.of (Z4.hh _ _ eo)) ?_
            walk_at "rd"
            rw [List.length_map, List.length_map]
            have edl : decide (((takenB bs os).length : Int) = (os.length : Int)) = os.all fun o => bs.getD o.toNat false := by
              rw [← taken_all]
              by_cases z : (takenB bs os).length = os.length
              · rw [decide_eq_true z, decide_eq_true (by omega)]
              · rw [decide_eq_false z, decide_eq_false (by omega)]
            rw [edl]
            refine r_mk sz0 Z4 ?_
            intro pe H5 Z5
            refine r_neD (Td.ints_lst (Z5.get (i := 1) rfl)) (.lst (Z5.get (i := 0) rfl) .nil) (shaped_ints _) (shaped_ints []) ?_
            rw [eqv_nil]
            have eie : ((takenB bs os).map PyData.int).isEmpty = (takenB bs os).isEmpty := by cases takenB bs os <;> rfl
            rw [eie, taken_any]
            have hset := hS.set ok hi2 e ewt
            replace Z5 := (Z5.drop).drop
            walk_at "rd"
            have hres : ∀ v : Bool, v = (if b then os.any (fun o => bs.getD o.toNat false) else os.all (fun o => bs.getD o.toNat false)) → ∀ (R : Hp → Prop), (∀ H', Zs H H H H' [(pl, .lst ((bs.set i (if b then os.any (fun o => bs.getD o.toNat false) else os.all (fun o => bs.getD o.toNat false))).map V.bl))] → R H') → rSetL (.ref pl) (.int (i : Int)) (.bl v) H5 R := by
              intro v ev R k
              refine r_setL (j := i) 0 Z5 rfl rfl (by rw [List.length_map]; exact hib) (fun H' Z' => k H' ?_)
              rw [← ev, List.map_set]
              exact Z'
            cases hany : os.any fun o => bs.getD o.toNat false with
            | false =>
              refine ifF rfl ?_
              walk_at "rd"
              have hv : false = (if b then os.any (fun o => bs.getD o.toNat false) else os.all (fun o => bs.getD o.toNat false)) := by
                cases b with
                | true => rw [if_pos rfl]; exact hany.symm
                | false =>
                  rw [if_neg Bool.false_ne_true]
                  cases hos : os with
                  | nil => exact absurd hos hok.1
                  | cons a os' =>
                    have h1 := List.any_eq_false.mp hany a (by rw [hos]; exact List.mem_cons_self)
                    rw [List.all_cons]
                    cases ha : bs.getD a.toNat false with
                    | true => exact absurd ha h1
                    | false => rfl
              refine hres false hv _ (fun H' Z' => ?_)
              exact ⟨⟨_, _, _, _, rfl⟩, _, hset, Z'⟩
            | true =>
              refine ifT rfl ?_
              walk_at "rd"
              refine r_ixL (SqL.of (Z5.hh _ _ hp)) (atI_nat ewv) ?_
              walk_at "rd"
              refine r_ixT (SqT.of (Z5.hh _ _ ea)) (at_i (by decide) rfl) ?_
              walk_at "rd"
              refine ifd (fun e3 => ?_) (fun e3 => ?_)
              · replace e3 : b = true := by rw [← wd_any b]; exact decide_eq_true e3
                walk_at "rd"
                refine hres true (by rw [e3, if_pos rfl]; exact hany.symm) _ (fun H' Z' => ?_)
                exact ⟨⟨_, _, _, _, rfl⟩, _, hset, Z'⟩
              · replace e3 : b = false := by rw [← wd_any b]; exact decide_eq_false e3
                walk_at "rd"
                refine hres _ (by rw [e3, if_neg Bool.false_ne_true]) _ (fun H' Z' => ?_)
                exact ⟨⟨_, _, _, _, rfl⟩, _, hset, Z'⟩
      · walk_at "rd"
        exact ⟨⟨_, _, _, _, rfl⟩, bs, hS.skip e, Z⟩
    · rintro σ' H3 ⟨⟨y3, y4, y6, y7, rfl⟩, bs, hS, Z⟩
      rw [Int.toNat_natCast] at hS
      exact ⟨⟨_, _, _, _, rfl⟩, bs, hS.next, Z⟩
  · rintro σ' H2 ⟨⟨y3, y4, y6, y7, rfl⟩, bs, hS, Z⟩
    rw [Int.toNat_natCast] at hS
    rw [hS.done] at Z
    walk_at "rd"
    exact q H2 pl Z
end SB
/-! Law k09: who is asked; what is seen of a net. -/
namespace SB
open PySem L2
def othersI (ws : List Wt) (z : Int) : List Int :=
  match ws[z.toNat]? with
  | some (some (_, os)) => os
  | _ => []
theorem othersI_w {ws : List Wt} {z : Int} {b : Bool} {os : List Int} (e : ws[z.toNat]? = some (some (b, os))) : othersI ws z = os := by unfold othersI; rw [e]
theorem othersI_n {ws : List Wt} {z : Int} (e : ws[z.toNat]? = some none) : othersI ws z = [] := by unfold othersI; rw [e]
/-- asking: found so far, the stack (top first), the end -/
inductive AskR (ws : List Wt) : List Int → List Int → List Int → Prop
  | done {f : List Int} : AskR ws f [] f
  | skip {f st r : List Int} {z : Int} : z ∈ f → AskR ws f st r → AskR ws f (z :: st) r
  | take {f st r : List Int} {z : Int} : z ∉ f → AskR ws (f ++ [z]) ((othersI ws z).reverse ++ st) r → AskR ws f (z :: st) r
theorem AskR.det {ws : List Wt} {f st r : List Int} (h : AskR ws f st r) : ∀ {r2 : List Int}, AskR ws f st r2 → r = r2 := by
  induction h with
  | done => intro r2 h2; cases h2; rfl
  | skip hz _ ih =>
    intro r2 h2
    cases h2 with
    | skip _ h3 => exact ih h3
    | take hn _ => exact absurd hz hn
  | take hn _ ih =>
    intro r2 h2
    cases h2 with
    | skip hz _ => exact absurd hz hn
    | take _ h3 => exact ih h3
structure AX (ws : List Wt) (a : Int) (found wt : List Int) : Prop where
  nd : found.Nodup
  f : ∀ x ∈ found, (0 ≤ x ∧ x < (ws.length : Int)) ∧ Reach ws a x
  w : ∀ x ∈ wt, (0 ≤ x ∧ x < (ws.length : Int)) ∧ Reach ws a x
  r : ∀ r, AskR ws found wt.reverse r → AskR ws [] [a] r
def pr_asking (K : PySem.W.Frag) (A : Ad) : V → V → Hp → VK → XK → Prop := fun w a H Q _ => ∃ (ws : List Wt) (x : Int), Td H w (dWs ws) ∧ OkWs ws ∧ a = .int x ∧ 0 ≤ x ∧ x < (ws.length : Int) ∧
  ∀ (H' : Hp) (p : Addr) (ns : List Int), Zs H H H H' [(p, .lst (ns.map V.int))] → ns.length ≤ 40 → AskR ws [] [x] ns → (∀ y ∈ ns, (0 ≤ y ∧ y < (ws.length : Int)) ∧ Reach ws x y) → Q (.ref p) H'
abbrev sp_asking (K : PySem.W.Frag) (A : Ad) : Sp := sp2 (pr_asking K A)
def t_asking (K : PySem.W.Frag) (A : Ad) : TS :=
    (tSeq (tAsg (tLst tNil) (gName 2))
    (tSeq (tAsg (tLst (tCons (tVar 1) tNil)) (gName 3))
    (tSeq (tWhile (tTru K (tVar 3))
    (tSeq (tAsg (tBM0 K "list" rPop (tVar 3)) (gName 4))
    (tIfS (tTest (tOp (rIn K true) (tVar 4) (tVar 2)))
    (tSeq (tDrop (tBM K "list" rAppend (tVar 2) (tCons (tVar 4) tNil)))
    (tIfS (tTest (tOp qNotN (tOp (rIxL K) (tVar 0) (tVar 4)) (tC .non)))
    (tDrop (tBM K "list" rExtend (tVar 3) (tCons (tOp (rIxT K) (tOp (rIxL K) (tVar 0) (tVar 4)) (tC (.int 1))) tNil)))
    tNext))
    tNext)))
    (tRet (tVar 2)))))
theorem rd_asking {K : PySem.W.Frag} {A : Ad} {w a : V} {H : Hp} {Q : VK} {E : XK} (h : pr_asking K A w a H Q E) : t_asking K A { nx := fun _ H' => Q .non H', rt := Q } [some w, some a, none, none, none] H := by
  obtain ⟨ws, x, hw, ok, rfl, x0, x1, q⟩ := h
  have o1 := ok.pos
  have o2 := ok.most
  obtain ⟨pw, xs, rfl, hp, hx, hl⟩ := Td.inv_ws hw
  unfold t_asking
  walk_at "rd"
  refine r_mk sz0 (Zs.start (Same.refl H)) ?_
  intro pf H1 Z
  walk_at "rd"
  refine r_mk sz1 Z ?_
  intro pq H2 Z
  walk_at "rd"
  refine r_while (fun m σ' H' => ∃ (found wt : List Int) (y : Option V), m = (ws.length - found.length) * (ws.length + 1) + wt.length ∧ σ' = [some (.ref pw), some (.int x), some (.ref pf), some (.ref pq), y] ∧ AX ws x found wt ∧ wt.length ≤ 1 + found.length * ws.length ∧ Zs H H H H' [(pq, .lst (wt.map V.int)), (pf, .lst (found.map V.int))]) _ ⟨[], [x], _, rfl, rfl, ?_, ?_, Z⟩ ?_
  · refine ⟨List.nodup_nil, fun y hy => (nomatch hy), fun y hy => ?_, fun r hr => hr⟩
    rw [List.mem_singleton.mp hy]
    exact ⟨⟨x0, x1⟩, .here⟩
  · show 1 ≤ 1 + 0 * ws.length
    omega
  · rintro m σ' H3 ⟨found, wt, y, rfl, rfl, aw, hwl, Z⟩
    have hfl : found.length ≤ ws.length := nodup_bound aw.nd fun z hz => (aw.f z hz).1
    have hmul : found.length * ws.length ≤ 40 * 40 := Nat.mul_le_mul (by omega) (by omega)
    refine ⟨_, rfl, !(wt.map V.int).isEmpty, .inl ⟨_, SqL.of (Z.get (i := 0) rfl), rfl⟩, ?_⟩
    refine ifnb (fun e => ?_) (fun e => ?_)
    · have hne : wt ≠ [] := fun z => by rw [z] at e; cases e
      obtain ⟨wt', z, rfl⟩ : ∃ l z, wt = l ++ [z] := ⟨wt.dropLast, wt.getLast hne, (List.dropLast_concat_getLast hne).symm⟩
      obtain ⟨⟨z0, z1⟩, zr⟩ := aw.w z (by simp)
      have har := aw.r
      rw [List.reverse_append, List.reverse_singleton, List.singleton_append] at har
      rw [List.map_append] at Z
      have hwl2 : wt'.length + 1 ≤ 1 + found.length * ws.length := by rw [List.length_append, List.length_singleton] at hwl; exact hwl
      refine ⟨fun σ2 H2 => ∃ m', m' < (ws.length - found.length) * (ws.length + 1) + (wt' ++ [z]).length ∧ ∃ (found wt : List Int) (y : Option V), m' = (ws.length - found.length) * (ws.length + 1) + wt.length ∧ σ2 = [some (.ref pw), some (.int x), some (.ref pf), some (.ref pq), y] ∧ AX ws x found wt ∧ wt.length ≤ 1 + found.length * ws.length ∧ Zs H H H H2 [(pq, .lst (wt.map V.int)), (pf, .lst (found.map V.int))], fun _ _ h => h, ?_⟩
      walk_at "rd"
      refine ⟨ty_l (SqL.of (Z.get (i := 0) rfl)), ?_⟩
      refine r_pop 0 Z rfl ?_
      intro H4 Z
      replace Z : Zs H H H H4 [(pq, .lst (wt'.map V.int)), (pf, .lst (found.map V.int))] := Z
      obtain ⟨wz, ewz⟩ : ∃ w, ws[z.toNat]? = some w := ⟨ws[z.toNat]'(by omega), List.getElem?_eq_getElem (by omega)⟩
      obtain ⟨wv, ewv, tw⟩ := hx.ws_get ewz
      walk_at "rd"
      refine r_inL (SqL.of (Z.get (i := 1) rfl)) rfl (flat_ints _) ?_
      rw [inV_int]
      walk_at "rd"
      refine ifn (fun e2 => ?_) (fun e2 => ?_)
      · walk_at "rd"
        refine ⟨ty_l (SqL.of (Z.get (i := 1) rfl)), ?_⟩
        walk_at "rd"
        refine r_append 1 Z rfl (by rw [List.length_map]; omega) ?_
        intro H5 Z
        have hnd2 : (found ++ [z]).Nodup := by
          rw [List.nodup_append]
          exact ⟨aw.nd, List.nodup_cons.mpr ⟨List.not_mem_nil, List.nodup_nil⟩, fun a ha b hb e => e2 (by rw [← List.mem_singleton.mp hb, ← e]; exact ha)⟩
        have hf2 : ∀ y ∈ found ++ [z], (0 ≤ y ∧ y < (ws.length : Int)) ∧ Reach ws x y := fun y hy => by
          rcases List.mem_append.mp hy with hy | hy
          · exact aw.f y hy
          · rw [List.mem_singleton.mp hy]; exact ⟨⟨z0, z1⟩, zr⟩
        have hfl2 : found.length + 1 ≤ ws.length := by
          have := nodup_bound hnd2 fun y hy => (hf2 y hy).1
          rw [List.length_append, List.length_singleton] at this
          exact this
        have e5 : ws.length - found.length = (ws.length - (found.length + 1)) + 1 := by omega
        have hdone : ∀ (H6 : Hp) (os : List Int), othersI ws z = os → os.length ≤ ws.length → (∀ o ∈ os, (0 ≤ o ∧ o < (ws.length : Int)) ∧ Reach ws x o) → Zs H H H H6 [(pq, .lst ((wt' ++ os).map V.int)), (pf, .lst ((found ++ [z]).map V.int))] →
            ∃ m', m' < (ws.length - found.length) * (ws.length + 1) + (wt' ++ [z]).length ∧ ∃ (found1 wt1 : List Int) (y : Option V), m' = (ws.length - found1.length) * (ws.length + 1) + wt1.length ∧ ([some (.ref pw), some (.int x), some (.ref pf), some (.ref pq), some (.int z)] : St) = [some (.ref pw), some (.int x), some (.ref pf), some (.ref pq), y] ∧ AX ws x found1 wt1 ∧ wt1.length ≤ 1 + found1.length * ws.length ∧ Zs H H H H6 [(pq, .lst (wt1.map V.int)), (pf, .lst (found1.map V.int))] := by
          intro H6 os eos hol hos Z6
          refine ⟨_, ?_, found ++ [z], wt' ++ os, _, rfl, rfl, ⟨hnd2, hf2, fun y hy => ?_, fun r hr => ?_⟩, ?_, Z6⟩
          · simp only [List.length_append, List.length_singleton]
            rw [e5, Nat.add_mul]
            omega
          · rcases List.mem_append.mp hy with hy | hy
            · exact aw.w y (List.mem_append.mpr (.inl hy))
            · exact hos y hy
          · refine har r (.take e2 ?_)
            rw [eos, ← List.reverse_append]
            exact hr
          · rw [List.length_append, List.length_append, List.length_singleton, Nat.add_mul]
            omega
        walk_at "rd"
        refine r_ixL (SqL.of (Z.hh _ _ hp)) (at_i z0 ewv) ?_
        walk_at "rd"
        cases wz with
        | none =>
          rw [tw.inv_non]
          refine ifF rfl ?_
          walk_at "rd"
          refine hdone H5 [] (othersI_n ewz) (Nat.zero_le _) (fun o ho => nomatch ho) ?_
          rw [List.append_nil, List.map_append]
          exact Z
        | some p =>
          obtain ⟨b, os⟩ := p
          obtain ⟨pa, po, rfl, ea, eo⟩ := tw.inv_w
          have hok := ok.all _ (List.mem_of_getElem? ewz)
          have hol := nodup_bound hok.2.1 hok.2.2
          refine ifT rfl ?_
          walk_at "rd"
          refine ⟨ty_l (SqL.of (Z.get (i := 0) rfl)), ?_⟩
          walk_at "rd"
          refine r_ixL (SqL.of (Z.hh _ _ hp)) (at_i z0 ewv) ?_
          walk_at "rd"
          refine r_ixT (SqT.of (Z.hh _ _ ea)) (at_i (by decide) rfl) ?_
          walk_at "rd"
          refine r_extend 0 Z rfl (Z.hh _ _ eo) (by rw [List.length_map, List.length_map]; omega) ?_
          intro H6 Z
          refine hdone H6 os (othersI_w ewz) hol (fun o ho => ⟨hok.2.2 o ho, .step zr ewz ho⟩) ?_
          rw [List.map_append, List.map_append]
          exact Z
      · walk_at "rd"
        refine ⟨_, ?_, found, wt', _, rfl, rfl, ⟨aw.nd, aw.f, fun y hy => aw.w y (List.mem_append.mpr (.inl hy)), fun r hr => har r (.skip e2 hr)⟩, by omega, Z⟩
        rw [List.length_append, List.length_singleton]; omega
    · have hnil : wt = [] := by
        cases wt with
        | nil => rfl
        | cons a l => cases e
      subst hnil
      walk_at "rd"
      exact q _ pf found (Z.dropAt 0) (by omega) (aw.r _ .done) aw.f
/-! ### what is seen of a net -/
def bellD (s : HS) : PyData := if 0 < s.owed then .none else .bool (!s.free)
def freesB (S : NS) : List Bool := (List.range S.hands.length).map fun (k : Nat) => (hd S (k : Int)).free
def seenD (S : NS) : PyData := .tuple [.list ((freesB S).map PyData.bool), .list ((shownTo S.hands S.hands.length).map PyData.int), .list (dLts S.row), .int S.sent, bellD (hd S S.asker)]
theorem td_bell {F : Hp} (s : HS) : Td F (bellV s) (bellD s) := by
  unfold bellV bellD
  split
  · exact .non
  · exact .bl _
theorem bell_lay (s : HS) : (bellD s).canLay0 = true ∧ (bellD s).depth = 0 := by
  unfold bellD
  split
  · exact ⟨rfl, rfl⟩
  · exact ⟨rfl, rfl⟩
theorem seen_shaped {S : NS} (h : ∀ l ∈ S.row, Wd3 l.1) : SeqAt.shaped (seenD S) = true := by
  have h1 := shaped_bools (freesB S)
  have h2 := shaped_ints (shownTo S.hands S.hands.length)
  have h3 : SeqAt.shaped (.list (dLts S.row)) = true := dLts_shaped h
  have hb := bell_lay (hd S S.asker)
  have c1 := SeqAt.canLay_of_shaped h1
  have c2 := SeqAt.canLay_of_shaped h2
  have c3 := SeqAt.canLay_of_shaped h3
  have d1 : PyData.depthAll ((freesB S).map PyData.bool) ≤ 0 := dep_map (f := PyData.bool) (n := 0) (fun _ => Nat.le_refl 0) _
  have d2 : PyData.depthAll ((shownTo S.hands S.hands.length).map PyData.int) ≤ 0 := dep_map (f := PyData.int) (n := 0) (fun _ => Nat.le_refl 0) _
  have d3 : PyData.depthAll (dLts S.row) ≤ 1 := dep_map (f := dLt) (n := 1) (fun _ => Nat.le_refl 1) S.row
  refine shaped_of ?_ ?_
  · show (PyData.canLay0 (.list ((freesB S).map PyData.bool)) && (PyData.canLay0 (.list ((shownTo S.hands S.hands.length).map PyData.int)) && (PyData.canLay0 (.list (dLts S.row)) && (PyData.canLay0 (.int S.sent) && ((bellD (hd S S.asker)).canLay0 && true))))) = true
    rw [c1, c2, c3, hb.1]
    rfl
  · show max (PyData.depthAll ((freesB S).map PyData.bool) + 1) (max (PyData.depthAll ((shownTo S.hands S.hands.length).map PyData.int) + 1) (max (PyData.depthAll (dLts S.row) + 1) (max 0 (max (bellD (hd S S.asker)).depth 0)))) + 1 ≤ 64
    have := hb.2
    omega
def pr_seen (K : PySem.W.Frag) (A : Ad) : V → V → Hp → VK → XK → Prop := fun x n H Q _ => ∃ (F : Hp) (N : NR) (S : NS) (rv : List V), Same F H ∧ x = .ref N.x ∧ n = .int (S.hands.length : Int) ∧ NetH A H N S ∧ H N.rl = some (.lst rv) ∧ TdA F rv (dLts S.row) ∧ S.hands.length ≤ 1000 ∧ inr S S.asker ∧ Ret F H Q (seenD S)
abbrev sp_seen (K : PySem.W.Frag) (A : Ad) : Sp := sp2 (pr_seen K A)
def t_seen (K : PySem.W.Frag) (A : Ad) : TS :=
    (tSeq (tAsg (tLc (iRng1 (tCons (tVar 1) tNil)) (gName 2) tYes (tMeth A.cNet "freed_yet" (sp_Net_freed_yet K A) [] E0 (tVar 0) (tCons (tVar 2) tNil)) [2]) (gName 3))
    (tRet (tTup (tCons (tVar 3) (tCons (tMeth A.cNet "shown" (sp_Net_shown K A) [] E0 (tVar 0) tNil) (tCons (tMeth A.cNet "letters" (sp_Net_letters K A) [] E0 (tVar 0) tNil) (tCons (tMeth A.cNet "sent" (sp_Net_sent K A) [] E0 (tVar 0) tNil) (tCons (tMeth A.cNet "rung" (sp_Net_rung K A) [] E0 (tVar 0) tNil) tNil))))))))
theorem rd_seen {K : PySem.W.Frag} {A : Ad} {x n : V} {H : Hp} {Q : VK} {E : XK} (h : pr_seen K A x n H Q E) : t_seen K A { nx := fun _ H' => Q .non H', rt := Q } [some x, some n, none, none] H := by
  obtain ⟨F, N, S, rv, sF, rfl, rfl, nh, hrl, hrv, hl, ha, q⟩ := h
  unfold t_seen
  walk_at "rd"
  refine lc_rng (by omega) (Zs.start sF) (fun i acc F' => acc = ((List.range i).map fun (k : Nat) => (hd S (k : Int)).free).map V.bl) (fun _ => rfl) rfl ?_ ?_
  · rintro i Dl F' H' acc hi Z' sm hacc rfl
    dsimp only [wipe, List.foldl_cons, List.foldl_nil, List.set_cons_succ, List.set_cons_zero]
    refine r_yes (ifT rfl ?_)
    walk_at "rd"
    have n2 := nh.up Z'.hh
    refine r_methQ n2.x rfl ?_
    walk_at "rd"
    have hin : inr S (i : Int) := ⟨by omega, by omega⟩
    have es := hd_get hin
    rw [Int.toNat_natCast] at es
    refine ⟨N, S, i, hd S (i : Int), rfl, rfl, n2, es, ?_⟩
    refine cy Z' sm hacc (by omega) ?_
    rw [List.range_succ, List.map_append, List.map_append] <;> rfl
  · rintro p1 F1 H1 acc Z1 sm rfl
    rw [Int.toNat_natCast] at Z1
    replace Z1 : Zs F H F1 H1 [(p1, .lst ((freesB S).map V.bl))] := Z1
    obtain ⟨F2, Z2, s2, e2⟩ := Z1.frzAt 0 rfl
    replace Z2 : Zs F H F2 H1 [] := Z2
    have n2 := nh.up Z2.hh
    walk_at "rd"
    refine r_methQ n2.x rfl ?_
    walk_at "rd"
    refine ⟨N, S, rfl, n2, hl, ?_⟩
    intro H3 p3 Z3
    obtain ⟨F4, Z4, s4, e4⟩ := (Z2.callL Z3).frzAt 0 rfl
    replace Z4 : Zs F H F4 H3 [] := Z4
    have n4 := nh.up Z4.hh
    walk_at "rd"
    refine r_methQ n4.x rfl ?_
    walk_at "rd"
    refine ⟨N, S, rfl, n4, ?_⟩
    intro H5 p5 vs5 Z5 _ h5
    rw [Z4.hh _ _ hrl] at h5
    cases h5
    obtain ⟨F6, Z6, s6, e6⟩ := (Z4.callL Z5).frzAt 0 rfl
    replace Z6 : Zs F H F6 H5 [] := Z6
    have n6 := nh.up Z6.hh
    walk_at "rd"
    refine r_methQ n6.x rfl ?_
    walk_at "rd"
    refine ⟨N, S, rfl, n6, ?_⟩
    walk_at "rd"
    refine r_methQ n6.x rfl ?_
    walk_at "rd"
    refine ⟨N, S, S.asker.toNat, hd S S.asker, rfl, n6, inr_nat ha, hd_get ha, ?_⟩
    walk_at "rd"
    refine r_mk (by show 5 ≤ sizeLine; decide) Z6 ?_
    intro p7 H7 Z7
    obtain ⟨F8, Z8, s8, e8⟩ := Z7.frzAt 0 rfl
    refine q F8 _ _ Z8 ?_
    refine .tup e8 (.cons ?_ (.cons ?_ (.cons ?_ (.cons (.int _) (.cons (td_bell _) .nil)))))
    · exact Td.bools_lst (s8 _ _ (s6 _ _ (s4 _ _ e2)))
    · exact Td.ints_lst (s8 _ _ (s6 _ _ e4))
    · exact .lst (s8 _ _ e6) (hrv.up (((((sm.trans s2).trans s4).trans s6).trans s8)))
end SB
/-! Law k09: is what is seen right. -/
namespace SB
open PySem L2
/-- what a letter never takes away -/
structure Grow (S S' : NS) : Prop where
  len : S'.hands.length = S.hands.length
  free : ∀ x, inr S x → (hd S x).free = true → (hd S' x).free = true
  has : ∀ x, inr S x → (hd S x).has = true → (hd S' x).has = true
theorem Grow.same (S : NS) : Grow S S := ⟨rfl, fun _ _ h => h, fun _ _ h => h⟩
theorem Grow.bring {S : NS} (n : NInv S) {p : Nat} {l : Lt} (hp : S.row[p]? = some l) : Grow S (bringS S p l (hd S l.2.2)) := by
  obtain ⟨hwd, hj, hi⟩ := n.row l (List.mem_of_getElem? hp)
  obtain ⟨b1, m, b2, els, cd⟩ := come_cd (hd S l.2.2) l.1 l.2.1
  have cc := cd.1
  have hg : ∀ x, inr S x → hd (bringS S p l (hd S l.2.2)) x = if x = l.2.2 then (SB.come (hd S l.2.2) l.1 l.2.1).1 else hd S x := fun x hx => hd_bring hi hx
  refine ⟨(stepN n hp).1, fun x hx hf => ?_, fun x hx hf => ?_⟩
  · rw [hg x hx]
    split
    · rename_i e
      rw [e] at hf
      cases ht : (SB.come (hd S l.2.2) l.1 l.2.1).1.free with
      | true => rfl
      | false =>
        have := cc.mono ht
        rw [hf] at this
        cases this
    · exact hf
  · rw [hg x hx]
    split
    · rename_i e
      rw [e] at hf
      cases cc with
      | c0 _ _ a => rw [a]; exact hf
      | c1 _ _ _ a => rw [a]; exact hf
      | c2 _ _ _ _ a => exact a
      | c3 _ _ _ _ a => exact a
      | c4 _ _ _ _ a => rw [a]; exact hf
      | c5 _ _ _ _ _ a => rw [a]; exact hf
    · exact hf
theorem freesB_len (S : NS) : (freesB S).length = S.hands.length := by unfold freesB; rw [List.length_map, List.length_range]
theorem freesB_get {S : NS} {x : Int} (hx : inr S x) : (freesB S).getD x.toNat false = (hd S x).free := by
  unfold freesB
  have h0 := hx.1
  have h1 := hx.2
  rw [List.getD_eq_getElem?_getD, List.getElem?_map, List.getElem?_range (by omega)]
  show (hd S ((x.toNat : Nat) : Int)).free = _
  rw [← inr_nat hx]
theorem sorted_same {ns ms : List Int} (hp : ms.Perm ns) (hs : ms.Pairwise (· ≤ ·)) (hn : ns.Pairwise (· < ·)) : ms = ns := by
  have nd : ns.Nodup := hn.imp fun h => by omega
  have nd2 := hp.nodup_iff.mpr nd
  have h2 := List.Pairwise.and hs (List.nodup_iff_pairwise_ne.mp nd2)
  exact sorted_ext (h2.imp fun h => by omega) hn fun x => hp.mem_iff
/-- one of the five parts of what is seen -/
theorem Td.inv_seen {F : Hp} {v : V} {S : NS} (h : Td F v (seenD S)) : ∃ (p pf ps : Addr) (vl vs vb : V), v = .ref p ∧ F p = some (.tup [.ref pf, .ref ps, vl, vs, vb]) ∧ F pf = some (.lst ((freesB S).map V.bl)) ∧ F ps = some (.lst ((shownTo S.hands S.hands.length).map V.int)) := by
  obtain ⟨p, xs, rfl, h1, h2⟩ := Td.inv_tup h
  cases h2 with
  | cons k1 h2 =>
    cases h2 with
    | cons k2 h2 =>
      cases h2 with
      | cons k3 h2 =>
        cases h2 with
        | cons k4 h2 =>
          cases h2 with
          | cons k5 h2 =>
            cases h2
            obtain ⟨pf, rfl, e1⟩ := Td.inv_bools k1
            obtain ⟨ps, rfl, e2⟩ := Td.inv_ints k2
            exact ⟨p, pf, ps, _, _, _, rfl, h1, e1, e2⟩
def pr_right (K : PySem.W.Frag) (A : Ad) : V → V → V → Hp → VK → XK → Prop := fun a b c H Q _ => ∃ (ws : List Wt) (S S' : NS) (pf : Addr) (come : List Lt), Td H a (seenD S') ∧ Td H b (seenD S) ∧ c = .ref pf ∧ SqL K H pf ((freeB ws).map V.bl) ∧ S.hands.length = ws.length ∧ ws.length ≤ 40 ∧ Grow S S' ∧ FInv ws S' come ∧ ∀ H', Same H H' → Q (.bl true) H'
abbrev sp_right (K : PySem.W.Frag) (A : Ad) : Sp := sp3 (pr_right K A)
def t_right (K : PySem.W.Frag) (A : Ad) : TS :=
    (tSeq (tFor (iRng1 (tCons (tCB (qLen K) (tCons (tVar 2) tNil)) tNil)) (gName 3)
    (tSeq (tAsg (tOp (rIxL K) (tOp (rIxT K) (tVar 0) (tC (.int 0))) (tVar 3)) (gName 4))
    (tIfS (tOr (tNot (tB (tCB (rIsi K) (tCons (tVar 4) (tCons (tC (.ty "bool")) tNil))))) (tOr (tAnd (tB (tVar 4)) (tNot (tB (tOp (rIxL K) (tVar 2) (tVar 3))))) (tAnd (tB (tOp (rIxL K) (tOp (rIxT K) (tVar 1) (tC (.int 0))) (tVar 3))) (tNot (tB (tVar 4))))))
    (tRet (tC (.bl false)))
    tNext)))
    (tSeq (tAsg (tOp (rIxT K) (tVar 0) (tC (.int 1))) (gName 5))
    (tSeq (tIfS (tOr (tNot (tB (tCB (rIsi K) (tCons (tVar 5) (tCons (tC (.ty "list")) tNil))))) (tTest (tOp (rNeD K) (tVar 5) (tCB (rSorted K) (tCons (tVar 5) tNil)))))
    (tRet (tC (.bl false)))
    tNext)
    (tSeq (tFor (iList K (tVar 5)) (gName 6)
    (tIfS (tOr (tB (tCB (rIsi K) (tCons (tVar 6) (tCons (tC (.ty "bool")) tNil)))) (tOr (tNot (tB (tCB (rIsi K) (tCons (tVar 6) (tCons (tC (.ty "int")) tNil))))) (tOr (tB (tOp (rIxL K) (tOp (rIxT K) (tVar 0) (tC (.int 0))) (tVar 6))) (tTest (tOp qGt (tBM K "list" (rCntI K) (tVar 5) (tCons (tVar 6) tNil)) (tC (.int 1)))))))
    (tRet (tC (.bl false)))
    tNext))
    (tSeq (tFor (iList K (tOp (rIxT K) (tVar 1) (tC (.int 1)))) (gName 6)
    (tIfS (tAnd (tTest (tOp (rIn K true) (tVar 6) (tVar 5))) (tNot (tB (tOp (rIxL K) (tOp (rIxT K) (tVar 0) (tC (.int 0))) (tVar 6)))))
    (tRet (tC (.bl false)))
    tNext))
    (tRet (tC (.bl true))))))))
theorem rd_right {K : PySem.W.Frag} {A : Ad} {a b c : V} {H : Hp} {Q : VK} {E : XK} (h : pr_right K A a b c H Q E) : t_right K A { nx := fun _ H' => Q .non H', rt := Q } [some a, some b, some c, none, none, none, none] H := by
  obtain ⟨ws, S, S', pf, come, ha, hb, rfl, hf, hl, hn, gr, fi, q⟩ := h
  obtain ⟨p1, pf1, ps1, vl1, vs1, vb1, rfl, e1, f1, s1⟩ := ha.inv_seen
  obtain ⟨p0, pf0, ps0, vl0, vs0, vb0, rfl, e0, f0, s0⟩ := hb.inv_seen
  have hl' := gr.len
  have hwl := freeB_len ws
  unfold t_right
  walk_at "rd"
  refine r_lenL hf ?_
  rw [List.length_map, hwl]
  walk_at "rd"
  refine r_rng1 (by omega) (fun i σ' H' => (∃ y3 y4, σ' = [some (.ref p1), some (.ref p0), some (.ref pf), y3, y4, none, none]) ∧ H' = H) ⟨⟨_, _, rfl⟩, rfl⟩ ?_ ?_
  · rintro i σ' H' hi ⟨⟨y3, y4, rfl⟩, rfl⟩
    have hi0 : inr S (i : Int) := ⟨by omega, by omega⟩
    have hi1 : inr S' (i : Int) := ⟨by omega, by omega⟩
    have g0 := freesB_get hi0
    have g1 := freesB_get hi1
    rw [Int.toNat_natCast] at g0 g1
    have a0 := get_boolD (l := freesB S) (i := i) (by rw [freesB_len]; omega)
    have a1 := get_boolD (l := freesB S') (i := i) (by rw [freesB_len]; omega)
    have af := get_boolD (l := freeB ws) (i := i) (by rw [hwl]; omega)
    rw [g0] at a0
    rw [g1] at a1
    rw [freeB_get] at af
    have m1 := fi.f1 _ hi1
    have m2 := gr.free _ hi0
    unfold lf at m1
    rw [Int.toNat_natCast] at m1
    generalize (hd S (i : Int)).free = x0 at *
    generalize (hd S' (i : Int)).free = x1 at *
    generalize fr ws ws.length i = xf at *
    dsimp only [List.set_cons_succ, List.set_cons_zero]
    walk_at "rd"
    refine r_ixT (SqT.of e1) (at_i (by decide) rfl) ?_
    walk_at "rd"
    refine r_ixL (SqL.of f1) (atI_nat a1) ?_
    walk_at "rd"
    refine r_isi (.bl _) (ki_bool _) ?_
    walk_at "rd"
    refine ifF rfl ?_
    walk_at "rd"
    cases x1 with
    | true =>
      rw [m1 rfl] at af
      refine ifT rfl ?_
      walk_at "rd"
      refine r_ixL hf (atI_nat af) ?_
      walk_at "rd"
      refine ifF rfl ?_
      walk_at "rd"
      refine r_ixT (SqT.of e0) (at_i (by decide) rfl) ?_
      walk_at "rd"
      refine r_ixL (SqL.of f0) (atI_nat a0) ?_
      walk_at "rd"
      refine ifb (fun z => ?_) (fun z => ?_)
      · walk_at "rd"
        refine ifF rfl ?_
        walk_at "rd"
        exact ⟨⟨_, _, rfl⟩, rfl⟩
      · refine ifF rfl ?_
        walk_at "rd"
        exact ⟨⟨_, _, rfl⟩, rfl⟩
    | false =>
      refine ifF rfl ?_
      refine ifF rfl ?_
      walk_at "rd"
      refine r_ixT (SqT.of e0) (at_i (by decide) rfl) ?_
      walk_at "rd"
      refine r_ixL (SqL.of f0) (atI_nat a0) ?_
      walk_at "rd"
      refine ifF (by cases x0 with | false => rfl | true => exact absurd (m2 rfl) Bool.false_ne_true) ?_
      refine ifF rfl ?_
      walk_at "rd"
      exact ⟨⟨_, _, rfl⟩, rfl⟩
  rintro σ' H' ⟨⟨y3, y4, rfl⟩, rfl⟩
  walk_at "rd"
  refine r_ixT (SqT.of e1) (at_i (by decide) rfl) ?_
  walk_at "rd"
  refine r_isi (Td.ints_lst s1) (ki_list _) ?_
  walk_at "rd"
  refine ifF rfl ?_
  walk_at "rd"
  have hsl := shown_lt S'
  have hsn : ∀ x ∈ shownTo S'.hands S'.hands.length, 0 ≤ x ∧ x < (ws.length : Int) := fun x hx => by
    have := (shown_mem.mp hx).1
    exact ⟨this.1, by have := this.2; omega⟩
  have hnd : (shownTo S'.hands S'.hands.length).Nodup := hsl.imp fun h => by omega
  have hsz : (shownTo S'.hands S'.hands.length).length < 64 := by
    have := nodup_bound hnd hsn
    omega
  refine ⟨ps1, _, rfl, SqL.of s1, hsz, fun ms p2 hperm hsort hp2 => ?_⟩
  have ems := sorted_same hperm hsort hsl
  subst ems
  have Z2 := (Zs.start (Same.refl H')).alloc (o := .lst ((shownTo S'.hands S'.hands.length).map V.int)) hp2
  generalize eH2 : upd H' p2 (.lst ((shownTo S'.hands S'.hands.length).map V.int)) = H2 at Z2
  refine r_neD (Td.ints_lst (Z2.hh _ _ s1)) (Td.ints_lst (Z2.get (i := 0) rfl)) (shaped_ints _) (shaped_ints _) ?_
  rw [eqv_refl (shaped_ints _)]
  walk_at "rd"
  refine ifF rfl ?_
  walk_at "rd"
  have sm := Z2.hh
  refine r_lstI (SqL.of (sm _ _ s1)) (fun i σ' H' => (∃ y3 y4 y6, σ' = [some (.ref p1), some (.ref p0), some (.ref pf), y3, y4, some (.ref ps1), y6]) ∧ H' = H2) ⟨⟨_, _, _, rfl⟩, rfl⟩ ?_ ?_ ?_
  · rintro i σ' H3 _ ⟨_, rfl⟩
    exact SqL.of (sm _ _ s1)
  · rintro i y σ' H3 hy ⟨⟨y3, y4, y6, rfl⟩, rfl⟩
    obtain ⟨h, eh, rfl⟩ := of_get_ints hy
    have hm := List.mem_of_getElem? eh
    obtain ⟨hi1, _, hf1⟩ := shown_mem.mp hm
    have g1 := freesB_get hi1
    have a1 := get_boolD (l := freesB S') (i := h.toNat) (by rw [freesB_len]; have := hi1.1; have := hi1.2; omega)
    rw [g1, hf1] at a1
    walk_at "rd"
    refine r_isi (.int _) (ki_bool _) ?_
    walk_at "rd"
    refine ifF rfl ?_
    walk_at "rd"
    refine r_isi (.int _) (ki_int _) ?_
    walk_at "rd"
    refine ifF rfl ?_
    walk_at "rd"
    refine r_ixT (SqT.of (sm _ _ e1)) (at_i (by decide) rfl) ?_
    walk_at "rd"
    refine r_ixL (SqL.of (sm _ _ f1)) (at_i hi1.1 a1) ?_
    walk_at "rd"
    refine ifF rfl ?_
    walk_at "rd"
    refine ⟨ty_l (SqL.of (sm _ _ s1)), ?_⟩
    walk_at "rd"
    refine ⟨ps1, _, h, rfl, rfl, SqL.of (sm _ _ s1), ?_⟩
    walk_at "rd"
    have hc := count_nodup hnd h
    rw [if_pos hm] at hc
    refine ifF (decide_eq_false (by rw [hc]; decide)) ?_
    walk_at "rd"
    exact ⟨⟨_, _, _, rfl⟩, rfl⟩
  rintro σ' H3 ⟨⟨y3, y4, y6, rfl⟩, rfl⟩
  walk_at "rd"
  refine r_ixT (SqT.of (sm _ _ e0)) (at_i (by decide) rfl) ?_
  refine r_lstI (SqL.of (sm _ _ s0)) (fun i σ' H' => (∃ y3 y4 y6, σ' = [some (.ref p1), some (.ref p0), some (.ref pf), y3, y4, some (.ref ps1), y6]) ∧ H' = H3) ⟨⟨_, _, _, rfl⟩, rfl⟩ ?_ ?_ ?_
  · rintro i σ' H4 _ ⟨_, rfl⟩
    exact SqL.of (sm _ _ s0)
  · rintro i y σ' H4 hy ⟨⟨y3, y4, y6, rfl⟩, rfl⟩
    obtain ⟨h, eh, rfl⟩ := of_get_ints hy
    obtain ⟨hi0, hs0, _⟩ := shown_mem.mp (List.mem_of_getElem? eh)
    have hi1 : inr S' h := ⟨hi0.1, by rw [hl']; exact hi0.2⟩
    have g1 := freesB_get hi1
    have a1 := get_boolD (l := freesB S') (i := h.toNat) (by rw [freesB_len]; have := hi1.1; have := hi1.2; omega)
    rw [g1] at a1
    walk_at "rd"
    refine r_inL (SqL.of (sm _ _ s1)) rfl (flat_ints _) ?_
    rw [inV_int, if_pos rfl]
    walk_at "rd"
    refine ifn (fun e => ?_) (fun e => ?_)
    · walk_at "rd"
      refine r_ixT (SqT.of (sm _ _ e1)) (at_i (by decide) rfl) ?_
      walk_at "rd"
      refine r_ixL (SqL.of (sm _ _ f1)) (at_i hi1.1 a1) ?_
      walk_at "rd"
      have hfr : (hd S' h).free = true := by
        cases q : (hd S' h).free with
        | true => rfl
        | false => exact absurd (shown_mem.mpr ⟨hi1, gr.has h hi0 hs0, q⟩) e
      rw [hfr]
      refine ifF rfl ?_
      walk_at "rd"
      exact ⟨⟨_, _, _, rfl⟩, rfl⟩
    · refine ifF rfl ?_
      walk_at "rd"
      exact ⟨⟨_, _, _, rfl⟩, rfl⟩
  rintro σ' H4 ⟨_, rfl⟩
  walk_at "rd"
  exact q _ sm
end SB
/-! Law k09: the end of the first net. -/
namespace SB
open PySem L2
theorem r_brk {D : Ends} {σ : St} {H : Hp} (h : D.bk σ H) : tBreak D σ H := h
theorem sumH_bound {f : HS → Nat} {c : Nat} : ∀ {hs : List HS}, (∀ s ∈ hs, f s ≤ c) → sumH f hs ≤ c * hs.length
  | [], _ => Nat.zero_le _
  | a :: hs, h => by
    have ih := sumH_bound (f := f) (c := c) (hs := hs) fun s hs' => h s (List.mem_cons_of_mem _ hs')
    have h1 := h a List.mem_cons_self
    show f a + sumH f hs ≤ _
    rw [List.length_cons, Nat.mul_succ]
    omega
def Few3 (ws : List Wt) : Prop := ∀ (k : Nat) (b : Bool) (os : List Int), ws[k]? = some (some (b, os)) → os.length ≤ 3
theorem Few3.sum {ws : List Wt} {S : NS} (h : Few3 ws) (wi : WsI ws S) : sumH (fun s => s.others.length) S.hands ≤ 3 * S.hands.length := by
  refine sumH_bound fun s hs => ?_
  obtain ⟨i, hi⟩ := List.mem_iff_getElem?.mp hs
  have hlt := (List.getElem?_eq_some_iff.mp hi).1
  obtain ⟨w, hw, _, eo⟩ := wi.2 (i : Int) ⟨by omega, by omega⟩
  rw [hd_of hi] at eo
  rw [Int.toNat_natCast] at hw
  show s.others.length ≤ 3
  rw [eo]
  cases w with
  | none => exact Nat.zero_le _
  | some p =>
    obtain ⟨b, os⟩ := p
    exact h i b os hw
structure LE9 (A : Ad) (F0 H0 F F' H' : Hp) (L : List (Addr × HO)) (ws : List Wt) (k : Int) (N : NR) (S : NS) (rv : List V) (sent come : List Lt) : Prop where
  sm : Same F F'
  z : Zs F0 H0 F' H' (nL A N S rv L)
  f : NFz F' N S
  hrv : TdA F' rv (dLts S.row)
  g : GInv ws S sent come
  ak : S.asker = k
section
variable {A : Ad} {F0 H0 F F' H' : Hp} {L : List (Addr × HO)} {ws : List Wt} {k : Int} {N : NR} {S : NS} {rv : List V} {sent come : List Lt}
theorem LE9.nh (h : LE9 A F0 H0 F F' H' L ws k N S rv sent come) : NetH A H' N S := NetH.of h.z h.f h.hrv
theorem LE9.len (h : LE9 A F0 H0 F F' H' L ws k N S rv sent come) (hf : Few3 ws) (hn : ws.length ≤ 12) : S.row.length + come.length ≤ 144 := by
  have h1 := hf.sum h.g.wi
  have h2 := h.g.t.most h.g.s3
  have h3 := h.g.t.len h.g.s3 (fun l hl => (h.g.n.row l hl).1) h.g.c3
  have h4 := h.g.wi.1
  omega
end
def pr_ended (K : PySem.W.Frag) (A : Ad) : V → V → V → V → Hp → VK → XK → Prop := fun x w a c H Q _ => ∃ (F0 H0 F : Hp) (L : List (Addr × HO)) (ws : List Wt) (k : Int) (N : NR) (S : NS) (rv : List V) (sent come : List Lt) (pf : Addr),
  x = .ref N.x ∧ a = .int k ∧ c = .ref pf ∧ LE9 A F0 H0 F F H L ws k N S rv sent come ∧ Td F w (dWs ws) ∧ OkWs ws ∧ Few3 ws ∧ ws.length ≤ 12 ∧ F pf = some (.lst ((freeB ws).map V.bl)) ∧ ∀ H', Q (.bl true) H'
abbrev sp_ended (K : PySem.W.Frag) (A : Ad) : Sp := sp4 (pr_ended K A)
def t_ended (K : PySem.W.Frag) (A : Ad) : TS :=
    (tSeq (tFor (iRng1 (tCons (tC (.int 200)) tNil)) (gName 4)
    (Evl.tCut (tIfS (tTest (tOp (rEqD K) (tMeth A.cNet "letters" (sp_Net_letters K A) [] E0 (tVar 0) tNil) (tLst tNil)))
    tBreak
    tNext)
    (tDrop (tMeth A.cNet "bring" (sp_Net_bring K A) [] E0 (tVar 0) (tCons (tOp qSub (tCB (qLen K) (tCons (tMeth A.cNet "letters" (sp_Net_letters K A) [] E0 (tVar 0) tNil) tNil)) (tC (.int 1))) tNil)))))
    (tSeq (tAsg (tLc (iList K (tCall (sp_asking K A) [] E0 (tCons (tVar 1) (tCons (tVar 2) tNil)))) (gName 5) tYes (tMeth A.cNet "freed_yet" (sp_Net_freed_yet K A) [] E0 (tVar 0) (tCons (tVar 5) tNil)) [5]) (gName 6))
    (tRet (tAndV (tOp (rEqD K) (tMeth A.cNet "letters" (sp_Net_letters K A) [] E0 (tVar 0) tNil) (tLst tNil)) (tOp (rEqD K) (tVar 6) (tLc (iList K (tCall (sp_asking K A) [] E0 (tCons (tVar 1) (tCons (tVar 2) tNil)))) (gName 5) tYes (tOp (rIxL K) (tVar 3) (tVar 5)) [5]))))))
theorem rd_ended {K : PySem.W.Frag} {A : Ad} {x w a c : V} {H : Hp} {Q : VK} {E : XK} (h : pr_ended K A x w a c H Q E) : t_ended K A { nx := fun _ H' => Q .non H', rt := Q } [some x, some w, some a, some c, none, none, none] H := by
  obtain ⟨F0, H0, F, L, ws, k, N, S, rv, sent, come, pf, rfl, rfl, rfl, L0, hw, ok, few, hn12, hpf, q⟩ := h
  have hfl := freeB_len ws
  -- behind the loop
  have rest : ∀ (y4 : Option V) (F' H' : Hp) (S : NS) (rv : List V) (sent come : List Lt), LE9 A F0 H0 F F' H' L ws k N S rv sent come → S.row = [] →
      (tSeq (tAsg (tLc (iList K (tCall (sp_asking K A) [] E0 (tCons (tVar 1) (tCons (tVar 2) tNil)))) (gName 5) tYes (tMeth A.cNet "freed_yet" (sp_Net_freed_yet K A) [] E0 (tVar 0) (tCons (tVar 5) tNil)) [5]) (gName 6))
      (tRet (tAndV (tOp (rEqD K) (tMeth A.cNet "letters" (sp_Net_letters K A) [] E0 (tVar 0) tNil) (tLst tNil)) (tOp (rEqD K) (tVar 6) (tLc (iList K (tCall (sp_asking K A) [] E0 (tCons (tVar 1) (tCons (tVar 2) tNil)))) (gName 5) tYes (tOp (rIxL K) (tVar 3) (tVar 5)) [5])))))
      { nx := fun _ H' => Q .non H', rt := Q } [some (.ref N.x), some w, some (.int k), some (.ref pf), y4, none, none] H' := by
    intro y4 F' H1 S rv sent come L9 er
    have ha1 := L9.g.n.ask1
    have hwl := L9.g.wi.1
    rw [L9.ak] at ha1
    have hw1 := (hw.up L9.sm).up L9.z.fh
    have hfree : ∀ y, (0 ≤ y ∧ y < (ws.length : Int)) ∧ Reach ws k y → inr S y ∧ (hd S y).free = lf ws y := fun y hy => by
      have hr := hy.2
      rw [← L9.ak] at hr
      obtain ⟨h1, h2⟩ := end_reach L9.g.n L9.g.k L9.g.f L9.g.wi er hr
      exact ⟨h1, end_free L9.g.n L9.g.k L9.g.f L9.g.wi er h1 h2⟩
    walk_at "rd"
    refine ⟨ws, k, hw1, ok, rfl, ha1.1, by rw [← hwl]; exact ha1.2, ?_⟩
    intro H2 pn ns Z2 hns hask hmem
    have Z3 := L9.z.callL Z2
    refine lc_lst (SqL.of (Z3.get (i := 0) rfl)) Z3 (fun i acc F' => acc = ((ns.take i).map fun y => lf ws y).map V.bl) rfl (fun F' H' Z' sm => SqL.of (Z'.get (i := 0) rfl)) ?_ ?_
    · rintro i y Dl F'' H3 acc hy Z' sm hacc rfl
      obtain ⟨h, eh, rfl⟩ := of_get_ints hy
      obtain ⟨hi, hf⟩ := hfree h (hmem h (List.mem_of_getElem? eh))
      have hlt := (List.getElem?_eq_some_iff.mp eh).1
      have n2 : NetH A H3 N S := NetH.of (Z'.drop.drop) (L9.f.up sm) (L9.hrv.up sm)
      walk_at "rd"
      refine ⟨rfl, ?_⟩
      refine r_yes (ifT rfl ?_)
      walk_at "rd"
      refine r_methQ n2.x rfl ?_
      walk_at "rd"
      refine ⟨N, S, h.toNat, hd S h, rfl, by rw [← inr_nat hi], n2, hd_get hi, ?_⟩
      refine cy Z' sm hacc (by omega) ?_
      rw [take_snoc eh, List.map_append, List.map_append, hf] <;> rfl
    · rintro p1 F'' H3 acc Z4 sm4 rfl
      rw [List.length_map, List.take_length] at Z4
      have n4 : NetH A H3 N S := NetH.of (Z4.drop.drop) (L9.f.up sm4) (L9.hrv.up sm4)
      walk_at "rd"
      refine r_methQ n4.x rfl ?_
      walk_at "rd"
      refine ⟨N, S, rfl, n4, ?_⟩
      intro H5 p5 vs5 Z5 hv5 _
      rw [er] at hv5
      have Z6 := Z4.callL Z5
      have ev5 : vs5 = [] := by
        have h5 : TdA H3 vs5 [] := hv5
        cases h5
        rfl
      subst ev5
      walk_at "rd"
      refine r_mk sz0 Z6 ?_
      intro p6 H6 Z7
      refine r_eqD (d := .list []) (e := .list []) (.lst (Z7.get (i := 1) rfl) .nil) (.lst (Z7.get (i := 0) rfl) .nil) (shaped_ints []) (shaped_ints []) ?_
      walk_at "rd"
      refine ifT rfl ?_
      walk_at "rd"
      replace Z7 := Z7.drop.drop
      refine ⟨ws, k, (((hw.up L9.sm).up sm4)).up Z7.fh, ok, rfl, ha1.1, by rw [← hwl]; exact ha1.2, ?_⟩
      intro H8 pn2 ns2 Z8 hns2 hask2 hmem2
      have ens := hask.det hask2
      subst ens
      have Z9 := Z7.callL Z8
      refine lc_lst (SqL.of (Z9.get (i := 0) rfl)) Z9 (fun i acc F' => acc = ((ns.take i).map fun y => lf ws y).map V.bl) rfl (fun F' H' Z' sm => SqL.of (Z'.get (i := 0) rfl)) ?_ ?_
      · rintro i y Dl F'' H9 acc hy Z' sm hacc rfl
        obtain ⟨h, eh, rfl⟩ := of_get_ints hy
        have hh := (hmem h (List.mem_of_getElem? eh)).1
        have hlt := (List.getElem?_eq_some_iff.mp eh).1
        have af := get_boolD (l := freeB ws) (i := h.toNat) (by rw [hfl]; omega)
        rw [freeB_get] at af
        walk_at "rd"
        refine ⟨rfl, ?_⟩
        refine r_yes (ifT rfl ?_)
        walk_at "rd"
        refine r_ixL (SqL.of (Z'.fix (sm _ _ (sm4 _ _ (L9.sm _ _ hpf))))) (at_i hh.1 af) ?_
        refine cy Z' sm hacc (by omega) ?_
        rw [take_snoc eh, List.map_append, List.map_append] <;> rfl
      · rintro p2 F3 H10 acc Z10 sm10 rfl
        rw [List.length_map, List.take_length] at Z10
        refine r_eqD (Td.bools_lst (Z10.get (i := 2) rfl)) (Td.bools_lst (Z10.get (i := 0) rfl)) (shaped_bools _) (shaped_bools _) ?_
        rw [eqv_refl (shaped_bools _)]
        exact q _
  unfold t_ended
  walk_at "rd"
  refine r_rng1 (by omega) (fun i σ' H' => ∃ (y4 : Option V) (F' : Hp) (S : NS) (rv : List V) (sent come : List Lt), σ' = [some (.ref N.x), some w, some (.int k), some (.ref pf), y4, none, none] ∧ LE9 A F0 H0 F F' H' L ws k N S rv sent come ∧ i ≤ come.length) ⟨_, F, S, rv, sent, come, rfl, L0, Nat.zero_le _⟩ ?_ ?_
  · rintro i σ' H1 hi ⟨y4, F', S, rv, sent, come, rfl, L9, hic⟩
    dsimp only [List.set_cons_succ, List.set_cons_zero]
    have n9 := L9.nh
    have hlen := L9.len few hn12
    have hw3 : ∀ l ∈ S.row, Wd3 l.1 := fun l hl => (L9.g.n.row l hl).1
    refine r_cut (fun σ' H' => σ' = [some (.ref N.x), some w, some (.int k), some (.ref pf), some (.int (i : Int)), none, none] ∧ 0 < S.row.length ∧ LE9 A F0 H0 F F' H' L ws k N S rv sent come) ?_ ?_
    · walk_at "rd"
      refine r_methQ n9.x rfl ?_
      walk_at "rd"
      refine ⟨N, S, rfl, n9, ?_⟩
      intro H2 p2 vs2 Z2 _ hv2
      have erv : vs2 = rv := by
        have h1 := L9.z.get (i := 1) rfl
        rw [hv2] at h1
        cases h1
        rfl
      subst erv
      have Z3 := L9.z.callL Z2
      walk_at "rd"
      refine r_mk sz0 Z3 ?_
      intro p4 H4 Z4
      refine r_eqD (d := .list (dLts S.row)) (e := .list []) (.lst (Z4.get (i := 1) rfl) (L9.hrv.up Z4.fh)) (.lst (Z4.get (i := 0) rfl) .nil) (dLts_shaped hw3) (shaped_ints []) ?_
      rw [eqv_nil]
      walk_at "rd"
      refine ifb (fun e => ?_) (fun e => ?_)
      · have er : S.row = [] := by
          have h1 : dLts S.row = [] := List.isEmpty_iff.mp e
          have h2 := congrArg List.length h1
          rw [len_dLts] at h2
          exact List.length_eq_zero_iff.mp h2
        refine r_brk ?_
        exact rest _ _ _ _ _ _ _ { L9 with z := Z4.drop.drop } er
      · walk_at "rd"
        refine ⟨rfl, ?_, { L9 with z := Z4.drop.drop }⟩
        have h1 : dLts S.row ≠ [] := fun z => by rw [z] at e; cases e
        have h2 := List.length_pos_iff.mpr h1
        rw [len_dLts] at h2
        exact h2
    rintro σ' H2 ⟨rfl, hpos, L9⟩
    have n9 := L9.nh
    walk_at "rd"
    refine r_methQ n9.x rfl ?_
    walk_at "rd"
    refine r_methQ n9.x rfl ?_
    walk_at "rd"
    refine ⟨N, S, rfl, n9, ?_⟩
    intro H3 p3 vs3 Z3 hv3 _
    have hvl := hv3.len
    rw [len_dLts] at hvl
    have Z4 := L9.z.callL Z3
    walk_at "rd"
    refine r_lenL (SqL.of (Z4.get (i := 0) rfl)) ?_
    rw [hvl]
    walk_at "rd"
    obtain ⟨pcx, hpc, hpcx⟩ : ∃ pcx : Nat, S.row.length - 1 = pcx ∧ pcx < S.row.length := ⟨_, rfl, by omega⟩
    have el : S.row[pcx]? = some S.row[pcx] := List.getElem?_eq_getElem hpcx
    obtain ⟨hwd, hj, hi3⟩ := L9.g.n.row _ (List.getElem_mem hpcx)
    have hstep := stepN L9.g.n el
    have hg2 := L9.g.bring el
    generalize S.row[pcx] = l at *
    have ehd := hd_get hi3
    have ei := inr_nat hi3
    generalize hd S l.2.2 = s0 at *
    have hwn := L9.g.wi.1
    refine ⟨F0, H0, F', L, N, S, rv, pcx, l, l.2.2.toNat, s0, rfl, by rw [show ((S.row.length : Int) - 1) = (pcx : Int) by omega], Z4.drop, L9.f, L9.hrv, L9.g.n.nbd (by omega) (by omega), el, ei, ehd, ?_⟩
    intro F16 H16 pq vs16 rv16 Z16 s16 f16 hrv16 hvs16
    walk_at "rd"
    refine ⟨_, F16, bringS S pcx l s0, rv16, _, come ++ [l], rfl, ⟨L9.sm.trans s16, Z16.drop, f16, hrv16, hg2, by rw [hstep.2.2]; exact L9.ak⟩, ?_⟩
    rw [List.length_append, List.length_singleton]
    omega
  · rintro σ' H1 ⟨y4, F', S, rv, sent, come, rfl, L9, hic⟩
    have := L9.len few hn12
    omega
end SB
/-! Law k09: the law. -/
namespace SB
open PySem L2
def G1 (ws : List Wt) (k : Int) (S : NS) : Prop := S.asker = k ∧ ∃ sent come, GInv ws S sent come
theorem G1.rowb {ws : List Wt} {k : Int} {S : NS} (g : G1 ws k S) (hf : Few3 ws) (hn : ws.length ≤ 12) : S.row.length ≤ 144 := by
  obtain ⟨_, sent, come, g⟩ := g
  have h1 := hf.sum g.wi
  have h2 := g.t.most g.s3
  have h3 := g.t.len g.s3 (fun l hl => (g.n.row l hl).1) g.c3
  have h4 := g.wi.1
  omega
theorem nets_swap {A : Ad} {N0 N1 : NR} {S0 S1 : NS} {rv0 rv1 : List V} {L : List (Addr × HO)} : (nL A N1 S1 rv1 (nL A N0 S0 rv0 L)).Perm (nL A N0 S0 rv0 (nL A N1 S1 rv1 L)) := by
  rw [nL_app (N := N1) (L := nL A N0 S0 rv0 L), nL_app (N := N0) (L := L), nL_app (N := N0) (L := nL A N1 S1 rv1 L), nL_app (N := N1) (L := L)]
  exact List.perm_append_comm_assoc _ _ _
abbrev sl9 (p pw pf pa ph pn : Addr) (m : Int) (y7 sv y10 y11 y12 y13 : Option V) : St := [some (.ref p), some (.ref pw), some (.int m), some (.ref pf), some (.ref pa), some (.ref ph), some (.ref pn), y7, none, sv, y10, y11, y12, y13]
def ordL {α : Type} (w : Int) (x y : α) : List α := if w = 0 then [x, y] else [y, x]
theorem ord_at {α : Type} {w : Int} (x y : α) (hw : w = 0 ∨ w = 1) : (ordL w x y)[w.toNat]? = some x ∧ (ordL w x y)[(1 - w).toNat]? = some y := by
  rcases hw with rfl | rfl
  · exact ⟨rfl, rfl⟩
  · exact ⟨rfl, rfl⟩
/-- both nets are looked at -/
theorem rd_both {K : PySem.W.Frag} {A : Ad} {F0 H0 F H : Hp} {L Mx My : List (Addr × HO)} {Q : VK} {p pw pf pa ph pn : Addr} {m : Int} {y7 sv y10 y11 y12 y13 : Option V} {ws : List Wt} {kx ky : Int} {Nx Ny : NR} {Sx Sy : NS} {rvx rvy : List V}
    (hm : m = (ws.length : Int)) (hn : ws.length ≤ 12) (Z : Zs F0 H0 F H L) (hpn : F pn = some (.lst [.ref Nx.x, .ref Ny.x])) (px : L.Perm (nL A Nx Sx rvx Mx)) (py : L.Perm (nL A Ny Sy rvy My))
    (fx : NFz F Nx Sx) (fy : NFz F Ny Sy) (rx : TdA F rvx (dLts Sx.row)) (ry : TdA F rvy (dLts Sy.row)) (gx : G1 ws kx Sx) (gy : G1 ws ky Sy)
    (k : ∀ F2 H2 Dl xs, Same F F2 → Zs F0 H0 F2 H2 ((Dl, .lst xs) :: L) → TdA F2 xs [seenD Sx, seenD Sy] → Q (.ref Dl) H2) :
    LRL K (gName 8) tYes (tCall (sp_seen K A) [] E0 (tCons (tVar 8) (tCons (tVar 2) tNil))) [8] (sl9 p pw pf pa ph pn m y7 sv y10 y11 y12 y13) Q (.ref pn) H := by
  refine lc_lst (SqL.of (Z.fix hpn)) Z (fun i acc F' => TdA F' acc (([Sx, Sy].map seenD).take i)) .nil (fun F' H' Z' sm => SqL.of (Z'.fix (sm _ _ hpn))) ?_ ?_
  · intro i y Dl F' H' acc hy Z' sm hacc hP
    have key : ∀ {N : NR} {S : NS} {rv : List V} {M : List (Addr × HO)} {k : Int}, y = .ref N.x → L.Perm (nL A N S rv M) → NFz F N S → TdA F rv (dLts S.row) → G1 ws k S → (([Sx, Sy].map seenD).take (i + 1)) = (([Sx, Sy].map seenD).take i) ++ [seenD S] → i < 100000 →
        gName 8 y (wipe (sl9 p pw pf pa ph pn m y7 sv y10 y11 y12 y13) [8]) H' fun σ2 H2 => wipe σ2 [8] = wipe (sl9 p pw pf pa ph pn m y7 sv y10 y11 y12 y13) [8] ∧ tYes σ2 H2 fun b H3 => if b = true then (tCall (sp_seen K A) [] E0 (tCons (tVar 8) (tCons (tVar 2) tNil))) σ2 H3 (CY F0 H0 F L (fun i acc F' => TdA F' acc (([Sx, Sy].map seenD).take i)) Dl i) else CW F0 H0 F L (fun i acc F' => TdA F' acc (([Sx, Sy].map seenD).take i)) Dl (i + 1) H3 := by
      rintro N S rv M k rfl pm f r ⟨ga, sent, come, g⟩ et hi
      have Z2 := (Z'.drop).perm pm
      have nh := NetH.of Z2 (f.up sm) (r.up sm)
      walk_at "rd"
      refine ⟨rfl, ?_⟩
      refine r_yes (ifT rfl ?_)
      walk_at "rd"
      have hwl := g.wi.1
      refine ⟨F', N, S, rv, Z'.fh, rfl, by rw [hm, hwl], nh, Z2.get (i := 1) rfl, r.up sm, by omega, g.n.ask1, fun F2 H2 v Z3 hv => ?_⟩
      refine cy (Z'.call Z3) (sm.trans Z3.ff) hacc hi ?_
      show TdA F2 _ _
      rw [et]
      exact (hP.up Z3.ff).snoc hv
    match i, hy with
    | 0, hy => cases hy; exact key rfl px fx rx gx rfl (by decide)
    | 1, hy => cases hy; exact key rfl py fy ry gy rfl (by decide)
    | i + 2, hy => cases hy
  · intro Dl F' H' acc Z' sm hP
    exact k F' H' Dl acc sm Z' hP
def t_turn9 (K : PySem.W.Frag) (A : Ad) : TS :=
    (tSeq (tAsg (tCB (qLen K) (tCons (tMeth A.cNet "letters" (sp_Net_letters K A) [] E0 (tOp (rIxL K) (tVar 6) (tVar 11)) tNil) tNil)) (gName 12))
    (Evl.tCut (tIfS (tTest (tOp qGt (tVar 12) (tC (.int 0))))
    (tDrop (tMeth A.cNet "bring" (sp_Net_bring K A) [] E0 (tOp (rIxL K) (tVar 6) (tVar 11)) (tCons (tOp qMod (tOp qDiv (tCall (sp_mixed K A) [] E0 (tCons (tVar 0) (tCons (tOp qAdd (tC (.int 16)) (tOp qMod (tVar 10) (tC (.int 47)))) (tCons (tVar 10) tNil)))) (tC (.int 2))) (tVar 12)) tNil)))
    tNext)
    (tSeq (tAsg (tLc (iList K (tVar 6)) (gName 8) tYes (tCall (sp_seen K A) [] E0 (tCons (tVar 8) (tCons (tVar 2) tNil))) [8]) (gName 13))
    (tSeq (tIfS (tOr (tTest (tOp (rNeD K) (tOp (rIxL K) (tVar 13) (tOp qSub (tC (.int 1)) (tVar 11))) (tOp (rIxL K) (tVar 9) (tOp qSub (tC (.int 1)) (tVar 11))))) (tNot (tB (tCall (sp_right K A) [] E0 (tCons (tOp (rIxL K) (tVar 13) (tVar 11)) (tCons (tOp (rIxL K) (tVar 9) (tVar 11)) (tCons (tVar 3) tNil)))))))
    (tRet (tC (.bl false)))
    tNext)
    (tAsg (tVar 13) (gName 9))))))
theorem rd_body {K : PySem.W.Frag} {A : Ad} {D : Ends} {H F' H' : Hp} {p pw pf pa ph pn ps : Addr} {ns : List Int} {ws : List Wt} {ka kb : Int} {Na Nb : NR} {Sa Sb : NS} {rva rvb xs : List V} {m : Int} {y7 y12 y13 : Option V} {w t : Int}
    (hw : w = 0 ∨ w = 1) (hs : SqL K H p (ns.map V.int)) (ok : OkWs ws) (few : Few3 ws) (hn : ws.length ≤ 12) (hm : m = (ws.length : Int)) (ht : 0 ≤ t)
    (hpf : F' pf = some (.lst ((freeB ws).map V.bl))) (hpn : F' pn = some (.lst (ordL w (.ref Na.x) (.ref Nb.x)))) (hps : F' ps = some (.lst xs)) (hxs : TdA F' xs (ordL w (seenD Sa) (seenD Sb)))
    (Z : Zs H H F' H' (nL A Na Sa rva (nL A Nb Sb rvb []))) (fa : NFz F' Na Sa) (fb : NFz F' Nb Sb) (ra : TdA F' rva (dLts Sa.row)) (rb : TdA F' rvb (dLts Sb.row)) (ga : G1 ws ka Sa) (gb : G1 ws kb Sb)
    (hq : ∀ F'' H'' Sa' rva' ps' xs' y12', Same F' F'' → Zs H H F'' H'' (nL A Na Sa' rva' (nL A Nb Sb rvb [])) → NFz F'' Na Sa' → TdA F'' rva' (dLts Sa'.row) → G1 ws ka Sa' → F'' ps' = some (.lst xs') → TdA F'' xs' (ordL w (seenD Sa') (seenD Sb)) → D.nx (sl9 p pw pf pa ph pn m y7 (some (.ref ps')) (some (.int t)) (some (.int w)) y12' (some (.ref ps'))) H'') :
    t_turn9 K A D (sl9 p pw pf pa ph pn m y7 (some (.ref ps)) (some (.int t)) (some (.int w)) y12 y13) H' := by
  have hb0 := ga.rowb few hn
  have hw0 : 0 ≤ w ∧ w < 2 := by omega
  obtain ⟨gaa, sent, come, g⟩ := ga
  obtain ⟨gba, sentb, comeb, gb'⟩ := id gb
  have hwl := g.wi.1
  have nh := NetH.of Z fa ra
  have at1 := (ord_at (V.ref Na.x) (V.ref Nb.x) hw).1
  unfold t_turn9
  walk_at "rd"
  refine r_ixL (SqL.of (Z.fix hpn)) (at_i hw0.1 at1) ?_
  refine r_methQ nh.x rfl ?_
  walk_at "rd"
  refine ⟨Na, Sa, rfl, nh, ?_⟩
  intro H2 p2 vs2 Z2 hv2 _
  have hvl := hv2.len
  rw [len_dLts] at hvl
  have Z3 : Zs H H F' H2 (nL A Na Sa rva (nL A Nb Sb rvb [])) := (Z.callL Z2).drop
  walk_at "rd"
  refine r_lenL (SqL.of (Z2.get (i := 0) rfl)) ?_
  rw [hvl]
  walk_at "rd"
  refine r_cut (fun σ' H'' => ∃ (F'' : Hp) (Sa' : NS) (rva' : List V) (y12 : Option V), σ' = sl9 p pw pf pa ph pn m y7 (some (.ref ps)) (some (.int t)) (some (.int w)) y12 y13 ∧ Same F' F'' ∧ Zs H H F'' H'' (nL A Na Sa' rva' (nL A Nb Sb rvb [])) ∧ NFz F'' Na Sa' ∧ TdA F'' rva' (dLts Sa'.row) ∧ G1 ws ka Sa' ∧ Grow Sa Sa') ?_ ?_
  · walk_at "rd"
    refine ifd (fun e => ?_) (fun e => ?_)
    · have nh3 := NetH.of Z3 fa ra
      walk_at "rd"
      refine r_ixL (SqL.of (Z3.fix hpn)) (at_i hw0.1 at1) ?_
      refine r_methQ nh3.x rfl ?_
      walk_at "rd"
      refine ⟨p, ns, _, _, rfl, rfl, rfl, Z3.hh.seq hs, by omega, ?_⟩
      walk_at "rd"
      have hpos : 0 < Sa.row.length := by omega
      generalize mixBy ns (16 + t % 47) t / 2 = mx
      obtain ⟨pcx, epc, hpcx⟩ : ∃ pc : Nat, mx % (Sa.row.length : Int) = (pc : Int) ∧ pc < Sa.row.length := by
        have h0 := Int.emod_nonneg mx (show (Sa.row.length : Int) ≠ 0 by omega)
        have h1 := Int.emod_lt_of_pos mx (show 0 < (Sa.row.length : Int) by omega)
        exact ⟨(mx % (Sa.row.length : Int)).toNat, by omega, by omega⟩
      rw [epc]
      have el : Sa.row[pcx]? = some Sa.row[pcx] := List.getElem?_eq_getElem hpcx
      obtain ⟨hwd, hj, hi3⟩ := g.n.row _ (List.getElem_mem hpcx)
      have hstep := stepN g.n el
      have hg2 := g.bring el
      have hgr := Grow.bring g.n el
      generalize Sa.row[pcx] = l at *
      have ehd := hd_get hi3
      have ei := inr_nat hi3
      generalize hd Sa l.2.2 = s0 at *
      refine ⟨H, H, F', _, Na, Sa, rva, pcx, l, l.2.2.toNat, s0, rfl, rfl, Z3, fa, ra, g.n.nbd (by omega) (by omega), el, ei, ehd, ?_⟩
      intro F16 H16 pq vs16 rv16 Z16 s16 f16 hrv16 hvs16
      exact ⟨F16, bringS Sa pcx l s0, rv16, _, rfl, s16, Z16.drop, f16, hrv16, ⟨by rw [hstep.2.2]; exact gaa, _, _, hg2⟩, hgr⟩
    · walk_at "rd"
      exact ⟨F', Sa, rva, _, rfl, Same.refl _, Z3, fa, ra, ⟨gaa, sent, come, g⟩, Grow.same Sa⟩
  rintro σ' H3 ⟨F3, Sa', rva', y12', rfl, s3, Z3, fa', ra', ga', gr⟩
  have tail : ∀ F2 H2 Dl xs2, Same F3 F2 → Zs H H F2 H2 ((Dl, .lst xs2) :: nL A Na Sa' rva' (nL A Nb Sb rvb [])) → TdA F2 xs2 (ordL w (seenD Sa') (seenD Sb)) →
      (tSeq (tIfS (tOr (tTest (tOp (rNeD K) (tOp (rIxL K) (tVar 13) (tOp qSub (tC (.int 1)) (tVar 11))) (tOp (rIxL K) (tVar 9) (tOp qSub (tC (.int 1)) (tVar 11))))) (tNot (tB (tCall (sp_right K A) [] E0 (tCons (tOp (rIxL K) (tVar 13) (tVar 11)) (tCons (tOp (rIxL K) (tVar 9) (tVar 11)) (tCons (tVar 3) tNil)))))))
      (tRet (tC (.bl false)))
      tNext)
      (tAsg (tVar 13) (gName 9))) D (sl9 p pw pf pa ph pn m y7 (some (.ref ps)) (some (.int t)) (some (.int w)) y12' (some (.ref Dl))) H2 := by
    intro F2 H2 Dl xs2 s2 Z4 hx2
    obtain ⟨ga1, sent', come', g'⟩ := ga'
    obtain ⟨F5, Z5, s5, e5⟩ := Z4.frzAt 0 rfl
    replace Z5 : Zs H H F5 H2 (nL A Na Sa' rva' (nL A Nb Sb rvb [])) := Z5
    have hx5 := hx2.up s5
    have hx0 := ((hxs.up s3).up s2).up s5
    have hw1 : 0 ≤ 1 - w := by omega
    obtain ⟨ca, ca1, ca2⟩ := hx5.get (ord_at (seenD Sa') (seenD Sb) hw).1
    obtain ⟨cb, cb1, cb2⟩ := hx5.get (ord_at (seenD Sa') (seenD Sb) hw).2
    obtain ⟨oa, oa1, oa2⟩ := hx0.get (ord_at (seenD Sa) (seenD Sb) hw).1
    obtain ⟨ob, ob1, ob2⟩ := hx0.get (ord_at (seenD Sa) (seenD Sb) hw).2
    have hps5 := s5 _ _ (s2 _ _ (s3 _ _ hps))
    have hshb : SeqAt.shaped (seenD Sb) = true := seen_shaped fun l hl => (gb'.n.row l hl).1
    walk_at "rd"
    refine r_ixL (SqL.of (Z5.fix e5)) (at_i hw1 cb1) ?_
    walk_at "rd"
    refine r_ixL (SqL.of (Z5.fix hps5)) (at_i hw1 ob1) ?_
    refine r_neD (cb2.up Z5.fh) (ob2.up Z5.fh) hshb hshb ?_
    rw [eqv_refl hshb]
    walk_at "rd"
    refine ifF rfl ?_
    walk_at "rd"
    refine r_ixL (SqL.of (Z5.fix e5)) (at_i hw0.1 ca1) ?_
    walk_at "rd"
    refine r_ixL (SqL.of (Z5.fix hps5)) (at_i hw0.1 oa1) ?_
    walk_at "rd"
    refine ⟨ws, Sa, Sa', pf, come', ca2.up Z5.fh, oa2.up Z5.fh, rfl, SqL.of (Z5.fix (s5 _ _ (s2 _ _ (s3 _ _ hpf)))), hwl, by omega, gr, g'.f, fun H7 sm7 => ?_⟩
    walk_at "rd"
    refine ifF rfl ?_
    walk_at "rd"
    exact hq F5 H7 Sa' rva' Dl xs2 y12' ((s3.trans s2).trans s5) (Z5.ext sm7) (fa'.up (s2.trans s5)) (ra'.up (s2.trans s5)) ⟨ga1, sent', come', g'⟩ e5 hx5
  walk_at "rd"
  rcases hw with rfl | rfl
  · refine rd_both (Nx := Na) (Ny := Nb) hm hn Z3 (s3 _ _ hpn) (List.Perm.refl _) nets_swap fa' (fb.up s3) ra' (rb.up s3) ga' gb (fun F2 H2 Dl xs2 s2 Z4 hx2 => ?_)
    refine r_gname ?_
    exact tail F2 H2 Dl xs2 s2 Z4 hx2
  · refine rd_both (Nx := Nb) (Ny := Na) hm hn Z3 (s3 _ _ hpn) nets_swap (List.Perm.refl _) (fb.up s3) fa' (rb.up s3) ra' gb ga' (fun F2 H2 Dl xs2 s2 Z4 hx2 => ?_)
    refine r_gname ?_
    exact tail F2 H2 Dl xs2 s2 Z4 hx2
end SB
/-! Law k09: the law, walked. -/
namespace SB
open PySem L2
theorem nets_app {A : Ad} {N0 N1 : NR} {S0 S1 : NS} {rv0 rv1 : List V} {L : List (Addr × HO)} : (nL A N1 S1 rv1 (nL A N0 S0 rv0 L)).Perm (L ++ nL A N1 S1 rv1 (nL A N0 S0 rv0 [])) := by
  have e : nL A N1 S1 rv1 (nL A N0 S0 rv0 L) = nL A N1 S1 rv1 (nL A N0 S0 rv0 []) ++ L := by
    rw [nL_app (N := N1) (L := nL A N0 S0 rv0 L), nL_app (N := N0) (L := L), nL_app (N := N1) (L := nL A N0 S0 rv0 []), List.append_assoc]
  rw [e]
  exact List.perm_append_comm
def t_law (K : PySem.W.Frag) (A : Ad) : TS :=
    (tSeq (tAsg (tCall (sp_waits K A) [] E0 (tCons (tVar 0) tNil)) (gName 1))
    (tSeq (tAsg (tCB (qLen K) (tCons (tVar 1) tNil)) (gName 2))
    (tSeq (tAsg (tCall (sp_freed K A) [] E0 (tCons (tVar 1) tNil)) (gName 3))
    (tSeq (tAsg (tLst (tCons (tOp qMod (tCall (sp_cell_at K A) [] E0 (tCons (tVar 0) (tCons (tC (.int 1)) tNil))) (tVar 2)) (tCons (tOp qMod (tCall (sp_cell_at K A) [] E0 (tCons (tVar 0) (tCons (tC (.int 2)) tNil))) (tVar 2)) tNil))) (gName 4))
    (tSeq (tAsg (tCall (sp_waits K A) [] E0 (tCons (tVar 0) tNil)) (gName 5))
    (tSeq (tAsg (tLst (tCons (tMake A.cNet (sp_Net_init K A) [] E0 (tCons (tVar 5) (tCons (tOp (rIxL K) (tVar 4) (tC (.int 0))) tNil))) (tCons (tMake A.cNet (sp_Net_init K A) [] E0 (tCons (tVar 5) (tCons (tOp (rIxL K) (tVar 4) (tC (.int 1))) tNil))) tNil))) (gName 6))
    (tSeq (tIfS (tTest (tOp (rNeD K) (tVar 5) (tVar 1)))
    (tRet (tC (.bl false)))
    tNext)
    (tSeq (tFor (iList K (tVar 5)) (gName 7)
    (tIfS (tTest (tOp qNotN (tVar 7) (tC .non)))
    (tDrop (tBM0 K "list" rClear (tOp (rIxT K) (tVar 7) (tC (.int 1)))))
    tNext))
    (tSeq (tDrop (tBM K "list" rAppend (tVar 5) (tCons (tC .non) tNil)))
    (tSeq (tAsg (tLc (iList K (tVar 6)) (gName 8) tYes (tCall (sp_seen K A) [] E0 (tCons (tVar 8) (tCons (tVar 2) tNil))) [8]) (gName 9))
    (tSeq (tFor (iRng1 (tCons (tC (.int 60)) tNil)) (gName 10)
    (tSeq (tAsg (tOp qMod (tCall (sp_mixed K A) [] E0 (tCons (tVar 0) (tCons (tOp qAdd (tC (.int 16)) (tOp qMod (tVar 10) (tC (.int 47)))) (tCons (tVar 10) tNil)))) (tC (.int 2))) (gName 11))
    (tSeq (tAsg (tCB (qLen K) (tCons (tMeth A.cNet "letters" (sp_Net_letters K A) [] E0 (tOp (rIxL K) (tVar 6) (tVar 11)) tNil) tNil)) (gName 12))
    (Evl.tCut (tIfS (tTest (tOp qGt (tVar 12) (tC (.int 0))))
    (tDrop (tMeth A.cNet "bring" (sp_Net_bring K A) [] E0 (tOp (rIxL K) (tVar 6) (tVar 11)) (tCons (tOp qMod (tOp qDiv (tCall (sp_mixed K A) [] E0 (tCons (tVar 0) (tCons (tOp qAdd (tC (.int 16)) (tOp qMod (tVar 10) (tC (.int 47)))) (tCons (tVar 10) tNil)))) (tC (.int 2))) (tVar 12)) tNil)))
    tNext)
    (tSeq (tAsg (tLc (iList K (tVar 6)) (gName 8) tYes (tCall (sp_seen K A) [] E0 (tCons (tVar 8) (tCons (tVar 2) tNil))) [8]) (gName 13))
    (tSeq (tIfS (tOr (tTest (tOp (rNeD K) (tOp (rIxL K) (tVar 13) (tOp qSub (tC (.int 1)) (tVar 11))) (tOp (rIxL K) (tVar 9) (tOp qSub (tC (.int 1)) (tVar 11))))) (tNot (tB (tCall (sp_right K A) [] E0 (tCons (tOp (rIxL K) (tVar 13) (tVar 11)) (tCons (tOp (rIxL K) (tVar 9) (tVar 11)) (tCons (tVar 3) tNil)))))))
    (tRet (tC (.bl false)))
    tNext)
    (tAsg (tVar 13) (gName 9))))))))
    (tRet (tCall (sp_ended K A) [] E0 (tCons (tOp (rIxL K) (tVar 6) (tC (.int 0))) (tCons (tVar 1) (tCons (tOp (rIxL K) (tVar 4) (tC (.int 0))) (tCons (tVar 3) tNil)))))))))))))))))
theorem rd_law {K : PySem.W.Frag} {A : Ad} {a : V} {H : Hp} {Q : VK} {E : XK} (h : pr_law K a H Q E) : t_law K A { nx := fun _ H' => Q .non H', rt := Q } [some a, none, none, none, none, none, none, none, none, none, none, none, none, none] H := by
  obtain ⟨p, ns, rfl, hs, hn63, q⟩ := h
  unfold t_law
  walk_at "rd"
  refine ⟨H, p, ns, Same.refl _, rfl, hs, fun F1 H1 D1 vs1 M1 Z1 own1 => ?_⟩
  have ok := waits_ok ns
  have hsz := size_in ns
  have hwl := waits_len ns
  have few : Few3 (waitsOf ns) := fun k b os h => waits_few ns h
  generalize ews : waitsOf ns = ws at ok hwl own1 few
  have o1 := ok.pos
  have o2 := ok.most
  have hn12 : ws.length ≤ 12 := by omega
  have hmod : ∀ c : Int, ∃ k : Nat, c % (ws.length : Int) = (k : Int) ∧ k < ws.length := fun c => by
    have h0 := Int.emod_nonneg c (show (ws.length : Int) ≠ 0 by omega)
    have h1 := Int.emod_lt_of_pos c (show 0 < (ws.length : Int) by omega)
    exact ⟨(c % (ws.length : Int)).toNat, by omega, by omega⟩
  obtain ⟨k0, ek0, hk0⟩ := hmod (cellAt ns 1)
  obtain ⟨k1, ek1, hk1⟩ := hmod (cellAt ns 2)
  obtain ⟨F2, Z2, s2, h2⟩ := Zs.frzs (M := (D1, .lst vs1) :: M1) (L := []) (by rw [List.append_nil]; exact Z1)
  have hp1 : F2 D1 = some (.lst vs1) := h2 (D1, .lst vs1) List.mem_cons_self
  have hv : Td F2 (.ref D1) (dWs ws) := .lst hp1 ((own1.up s2).td fun q hq => h2 q (List.mem_cons_of_mem _ hq))
  have hl1 := own1.len
  walk_at "rd"
  refine r_lenL (SqL.of (Z2.fix hp1)) ?_
  rw [hl1]
  walk_at "rd"
  refine ⟨ws, hv.up Z2.fh, ok, fun H3 pf Z3 => ?_⟩
  obtain ⟨F4, Z4, s4, e4⟩ := (Z2.callL Z3).frzAt 0 rfl
  replace Z4 : Zs H H F4 H3 [] := Z4
  walk_at "rd"
  refine ⟨p, ns, 1, rfl, rfl, Z4.hh.seq hs, by decide, ?_⟩
  walk_at "rd"
  rw [ek0]
  refine ⟨p, ns, 2, rfl, rfl, Z4.hh.seq hs, by decide, ?_⟩
  walk_at "rd"
  rw [ek1]
  refine r_mk sz2 Z4 ?_
  intro pa H5 Z5
  obtain ⟨F6, Z6, s6, e6⟩ := Z5.frzAt 0 rfl
  replace Z6 : Zs H H F6 H5 [] := Z6
  walk_at "rd"
  refine ⟨F6, p, ns, Z6.fh, rfl, Z6.hh.seq hs, fun F7 H7 D2 vs2 M2 Z7 own2 => ?_⟩
  rw [ews] at own2
  have hl2 := own2.len
  have Z8 : Zs H H F7 H7 ((D2, .lst vs2) :: M2) := by
    have := Z6.callM Z7
    rw [List.append_nil] at this
    exact this
  have s7 := Z7.ff
  have mem0 : ((D2, HO.lst vs2) : Addr × HO) ∈ ((D2, HO.lst vs2) :: M2) := List.mem_cons_self
  have memM : ∀ q ∈ M2, q ∈ ((D2, HO.lst vs2) :: M2) := fun q hq => List.mem_cons_of_mem _ hq
  generalize eL7 : ((D2, HO.lst vs2) :: M2) = L7 at Z8 mem0 memM
  walk_at "rd"
  refine r_ixL (SqL.of (Z8.fix (s7 _ _ e6))) (at_i (by decide) rfl) ?_
  refine r_makeQ Z8 ?_
  intro xa dx H9 Z9
  walk_at "rd"
  refine ⟨H, H, F7, L7, xa, dx, ws, k0, rfl, rfl, Z9, own2.wsin mem0 memM, ok, hk0, ?_⟩
  intro F10 H10 N0 rv0 Z10 s10 ex0 nfz0 hrv0
  refine ⟨rfl, ?_⟩
  subst ex0
  walk_at "rd"
  refine r_ixL (SqL.of (Z10.fix (s10 _ _ (s7 _ _ e6)))) (at_i (by decide) rfl) ?_
  refine r_makeQ Z10 ?_
  intro xb dx2 H11 Z11
  walk_at "rd"
  have up0 : ∀ q ∈ L7, q ∈ nL A N0 (netS ws k0) rv0 L7 := fun q hq => by
    rw [nL_app]
    exact List.mem_append.mpr (.inr hq)
  refine ⟨H, H, F10, _, xb, dx2, ws, k1, rfl, rfl, Z11, (own2.up s10).wsin (up0 _ mem0) (fun q hq => up0 _ (memM q hq)), ok, hk1, ?_⟩
  intro F12 H12 N1 rv1 Z12 s12 ex1 nfz1 hrv1
  refine ⟨rfl, ?_⟩
  subst ex1
  walk_at "rd"
  refine r_mk sz2 Z12 ?_
  intro pn H13 Z13
  obtain ⟨F14, Z14, s14, e14⟩ := Z13.frzAt 0 rfl
  have Z14 : Zs H H F14 H13 (L7 ++ nL A N1 (netS ws k1) rv1 (nL A N0 (netS ws k0) rv0 [])) := Z14.perm nets_app
  have sm : Same F2 F14 := ((((s4.trans s6).trans s7).trans s10).trans s12).trans s14
  have own14 := own2.up ((s10.trans s12).trans s14)
  have hv14 : Td H13 (.ref D2) (dWs ws) := WsIn.td (own14.wsin mem0 memM) Z14 fun q hq => List.mem_append.mpr (.inl hq)
  walk_at "rd"
  refine r_neD hv14 ((hv.up sm).up Z14.fh) (dWs_shaped ws) (dWs_shaped ws) ?_
  rw [eqv_refl (dWs_shaped ws)]
  walk_at "rd"
  refine ifF rfl ?_
  walk_at "rd"
  subst eL7
  generalize enets : nL A N1 (netS ws k1) rv1 (nL A N0 (netS ws k0) rv0 []) = nets at Z14
  replace Z14 : Zs H H F14 H13 ((D2, .lst vs2) :: (M2 ++ nets)) := Z14
  refine r_lstI (SqL.of (Z14.get (i := 0) rfl)) (fun i σ' H' => ∃ (y7 : Option V) (M : List (Addr × HO)), σ' = sl9 p D1 pf pa D2 pn (ws.length : Int) y7 none none none none none ∧ Zs H H F14 H' ((D2, .lst vs2) :: (M ++ nets)) ∧ WsOwn F14 (vs2.drop i) (ws.drop i) M) ⟨_, M2, rfl, Z14, own14⟩ ?_ ?_ ?_
  · rintro i σ' H' _ ⟨_, M, _, Z, _⟩
    exact SqL.of (Z.get (i := 0) rfl)
  · rintro i y σ' H' hy ⟨y7, M, rfl, Z, own⟩
    obtain ⟨hlt, ey⟩ := List.getElem?_eq_some_iff.mp hy
    have hlt2 : i < ws.length := by omega
    have e1 : vs2.drop i = y :: vs2.drop (i + 1) := by rw [List.drop_eq_getElem_cons hlt, ey]
    have e2 : ws.drop i = ws[i] :: ws.drop (i + 1) := List.drop_eq_getElem_cons hlt2
    rw [e1, e2] at own
    generalize ws[i] = wt at own
    cases own with
    | cons h1 h2 =>
      walk_at "rd"
      cases h1 with
      | non =>
        refine ifF rfl ?_
        walk_at "rd"
        exact ⟨_, _, rfl, Z, h2⟩
      | own e =>
        refine ifT rfl ?_
        walk_at "rd"
        refine r_ixT (SqT.of (Z.fix e)) (at_i (by decide) rfl) ?_
        refine ⟨ty_l (SqL.of (Z.get (i := 1) rfl)), ?_⟩
        refine r_clear 1 Z rfl ?_
        intro H2 Z2
        walk_at "rd"
        exact ⟨_, _, rfl, Z2.dropAt 1, h2⟩
  rintro σ' H15 ⟨y7, M, rfl, Z, _⟩
  walk_at "rd"
  refine ⟨ty_l (SqL.of (Z.get (i := 0) rfl)), ?_⟩
  walk_at "rd"
  refine r_append 0 Z rfl (by omega) ?_
  intro H16 Z16
  replace Z16 : Zs H H F14 H16 nets := Z16.sub ((List.sublist_append_right M nets).cons _)
  walk_at "rd"
  subst enets
  have G0 : G1 ws (k0 : Int) (netS ws k0) := ⟨rfl, _, _, GInv.start ok hk0⟩
  have G1' : G1 ws (k1 : Int) (netS ws k1) := ⟨rfl, _, _, GInv.start ok hk1⟩
  have f0 := nfz0.up (s12.trans s14)
  have f1 := nfz1.up s14
  have r0 := hrv0.up (s12.trans s14)
  have r1 := hrv1.up s14
  refine rd_both (Nx := N0) (Ny := N1) rfl hn12 Z16 e14 nets_swap (List.Perm.refl _) f0 f1 r0 r1 G0 G1' (fun F17 H17 Dl xs9 s17 Z17 hx17 => ?_)
  obtain ⟨F18, Z18, s18, e18⟩ := Z17.frzAt 0 rfl
  replace Z18 : Zs H H F18 H17 (nL A N0 (netS ws k0) rv0 (nL A N1 (netS ws k1) rv1 [])) := Zs.perm Z18 nets_swap
  have sn := s17.trans s18
  walk_at "rd"
  refine r_rng1 (by omega) (fun i σ' H' => ∃ (F' : Hp) (S0 S1 : NS) (rv0 rv1 : List V) (Dl : Addr) (xs : List V) (y10 y11 y12 y13 : Option V), σ' = sl9 p D1 pf pa D2 pn (ws.length : Int) y7 (some (.ref Dl)) y10 y11 y12 y13 ∧ Same F18 F' ∧ Zs H H F' H' (nL A N0 S0 rv0 (nL A N1 S1 rv1 [])) ∧ NFz F' N0 S0 ∧ NFz F' N1 S1 ∧ TdA F' rv0 (dLts S0.row) ∧ TdA F' rv1 (dLts S1.row) ∧ G1 ws (k0 : Int) S0 ∧ G1 ws (k1 : Int) S1 ∧ F' Dl = some (.lst xs) ∧ TdA F' xs [seenD S0, seenD S1])
    ⟨F18, _, _, rv0, rv1, Dl, xs9, _, _, _, _, rfl, Same.refl _, Z18, f0.up sn, f1.up sn, r0.up sn, r1.up sn, G0, G1', e18, hx17.up s18⟩ ?_ ?_
  · rintro i σ' H6 hi ⟨F', S0, S1, rva, rvb, Ds, xs, y10, y11, y12, y13, rfl, sF, Z, fa, fb, ra, rb, ga, gb, hDs, hxs⟩
    dsimp only [List.set_cons_succ, List.set_cons_zero]
    have hpf := sF _ _ (sn _ _ (s14 _ _ (s12 _ _ (s10 _ _ (s7 _ _ (s6 _ _ e4))))))
    have hpn := sF _ _ (sn _ _ e14)
    refine r_seq ?_
    refine r_asg ?_
    refine r_op ?_
    refine r_call ?_
    walk_at "rd"
    refine ⟨p, ns, _, _, rfl, rfl, rfl, Z.hh.seq hs, by omega, ?_⟩
    refine r_c ?_
    refine r_mod (by decide) ?_
    refine r_gname ?_
    dsimp only [List.set_cons_succ, List.set_cons_zero]
    generalize mixBy ns (16 + (i : Int) % 47) (i : Int) = mx
    obtain ⟨w, ew, hw⟩ : ∃ w : Int, mx % 2 = w ∧ (w = 0 ∨ w = 1) := ⟨_, rfl, by omega⟩
    rw [ew]
    rcases hw with rfl | rfl
    · refine rd_body (w := 0) (.inl rfl) hs ok few hn12 rfl (by omega) hpf hpn hDs hxs Z fa fb ra rb ga gb ?_
      intro F'' H'' Sa' rva' ps' xs' y12' s'' Z'' fa' ra' ga' e' hx'
      exact ⟨F'', Sa', S1, rva', rvb, ps', xs', _, _, _, _, rfl, sF.trans s'', Z'', fa', fb.up s'', ra', rb.up s'', ga', gb, e', hx'⟩
    · refine rd_body (w := 1) (.inr rfl) hs ok few hn12 rfl (by omega) hpf hpn hDs hxs (Zs.perm Z nets_swap) fb fa rb ra gb ga ?_
      intro F'' H'' Sa' rva' ps' xs' y12' s'' Z'' fa' ra' ga' e' hx'
      exact ⟨F'', S0, Sa', rva, rva', ps', xs', _, _, _, _, rfl, sF.trans s'', Zs.perm Z'' nets_swap, fa.up s'', fa', ra.up s'', ra', ga, ga', e', hx'⟩
  · rintro σ' H6 ⟨F', S0, S1, rva, rvb, Ds, xs, y10, y11, y12, y13, rfl, sF, Z, fa, fb, ra, rb, ⟨ga, sent, come, g⟩, gb, hDs, hxs⟩
    have hpf := sF _ _ (sn _ _ (s14 _ _ (s12 _ _ (s10 _ _ (s7 _ _ (s6 _ _ e4))))))
    have hpn := sF _ _ (sn _ _ e14)
    have hpa := sF _ _ (sn _ _ (s14 _ _ (s12 _ _ (s10 _ _ (s7 _ _ e6)))))
    walk_at "rd"
    refine r_ixL (SqL.of (Z.fix hpn)) (at_i (by decide) rfl) ?_
    walk_at "rd"
    refine r_ixL (SqL.of (Z.fix hpa)) (at_i (by decide) rfl) ?_
    walk_at "rd"
    exact ⟨H, H, F', _, ws, (k0 : Int), N0, S0, rva, sent, come, pf, rfl, rfl, rfl, ⟨Same.refl _, Z, fa, ra, g, ga⟩, (hv.up sm).up (sn.trans sF), ok, few, hn12, hpf, q⟩
end SB
/-! ## the text, by places -/
namespace SB
open PySem L2
def top (i : Nat) : Stmt := PySem.Challenge.pw_stuckbell_k09_whole_never_false.main.body.getD i (.Pass ⟨0, 0, 0, 0⟩)
abbrev s_Hand_init : Stmt := inClass (top 7) 0
theorem sc_Hand_init : FnScope ["self", "number", "wait", "is_asker"] ["self", "number", "wait", "is_asker"] (defScope s_Hand_init) := ⟨rfl, rfl, rfl, by decide +kernel, rfl, by decide +kernel, by decide +kernel⟩
abbrev s_Hand_posted : Stmt := inClass (top 7) 1
theorem sc_Hand_posted : FnScope ["self", "word", "receivers", "one"] ["self", "word", "receivers"] (defScope s_Hand_posted) := ⟨rfl, rfl, rfl, by decide +kernel, rfl, by decide +kernel, by decide +kernel⟩
abbrev s_Hand_asking : Stmt := inClass (top 7) 2
theorem sc_Hand_asking : FnScope ["self"] ["self"] (defScope s_Hand_asking) := ⟨rfl, rfl, rfl, by decide +kernel, rfl, by decide +kernel, by decide +kernel⟩
abbrev s_Hand_begin : Stmt := inClass (top 7) 3
theorem sc_Hand_begin : FnScope ["self"] ["self"] (defScope s_Hand_begin) := ⟨rfl, rfl, rfl, by decide +kernel, rfl, by decide +kernel, by decide +kernel⟩
abbrev s_Hand_asked_by : Stmt := inClass (top 7) 4
theorem sc_Hand_asked_by : FnScope ["self", "sender"] ["self", "sender"] (defScope s_Hand_asked_by) := ⟨rfl, rfl, rfl, by decide +kernel, rfl, by decide +kernel, by decide +kernel⟩
abbrev s_Hand_told_by : Stmt := inClass (top 7) 5
theorem sc_Hand_told_by : FnScope ["self", "sender"] ["self", "sender"] (defScope s_Hand_told_by) := ⟨rfl, rfl, rfl, by decide +kernel, rfl, by decide +kernel, by decide +kernel⟩
abbrev s_Hand_come : Stmt := inClass (top 7) 6
theorem sc_Hand_come : FnScope ["self", "letter", "word", "sender", "receiver", "found"] ["self", "letter"] (defScope s_Hand_come) := ⟨rfl, rfl, rfl, by decide +kernel, rfl, by decide +kernel, by decide +kernel⟩
abbrev s_is_hand : Stmt := top 11
theorem sc_is_hand : FnScope ["thing", "many"] ["thing", "many"] (defScope s_is_hand) := ⟨rfl, rfl, rfl, by decide +kernel, rfl, by decide +kernel, by decide +kernel⟩
abbrev s_is_wait : Stmt := top 12
theorem sc_is_wait : FnScope ["wait", "many", "place", "one"] ["wait", "many"] (defScope s_is_wait) := ⟨rfl, rfl, rfl, by decide +kernel, rfl, by decide +kernel, by decide +kernel⟩
abbrev s_need : Stmt := top 13
theorem sc_need : FnScope ["waits", "at", "wait"] ["waits"] (defScope s_need) := ⟨rfl, rfl, rfl, by decide +kernel, rfl, by decide +kernel, by decide +kernel⟩
abbrev s_need_hand : Stmt := top 14
theorem sc_need_hand : FnScope ["many", "hand"] ["many", "hand"] (defScope s_need_hand) := ⟨rfl, rfl, rfl, by decide +kernel, rfl, by decide +kernel, by decide +kernel⟩
abbrev s_Net_init : Stmt := inClass (top 16) 0
theorem sc_Net_init : FnScope ["self", "waits", "asker", "number", "wait"] ["self", "waits", "asker"] (defScope s_Net_init) := ⟨rfl, rfl, rfl, by decide +kernel, rfl, by decide +kernel, by decide +kernel⟩
abbrev s_Net_letters : Stmt := inClass (top 16) 1
theorem sc_Net_letters : FnScope ["self"] ["self"] (defScope s_Net_letters) := ⟨rfl, rfl, rfl, by decide +kernel, rfl, by decide +kernel, by decide +kernel⟩
abbrev s_Net_bring : Stmt := inClass (top 16) 2
theorem sc_Net_bring : FnScope ["self", "place", "letter", "found"] ["self", "place"] (defScope s_Net_bring) := ⟨rfl, rfl, rfl, by decide +kernel, rfl, by decide +kernel, by decide +kernel⟩
abbrev s_Net_sent : Stmt := inClass (top 16) 3
theorem sc_Net_sent : FnScope ["self"] ["self"] (defScope s_Net_sent) := ⟨rfl, rfl, rfl, by decide +kernel, rfl, by decide +kernel, by decide +kernel⟩
abbrev s_Net_hand : Stmt := inClass (top 16) 4
theorem sc_Net_hand : FnScope ["self", "number"] ["self", "number"] (defScope s_Net_hand) := ⟨rfl, rfl, rfl, by decide +kernel, rfl, by decide +kernel, by decide +kernel⟩
abbrev s_Net_rung : Stmt := inClass (top 16) 5
theorem sc_Net_rung : FnScope ["self"] ["self"] (defScope s_Net_rung) := ⟨rfl, rfl, rfl, by decide +kernel, rfl, by decide +kernel, by decide +kernel⟩
abbrev s_Net_shown : Stmt := inClass (top 16) 6
theorem sc_Net_shown : FnScope ["self", "number", "one"] ["self"] (defScope s_Net_shown) := ⟨rfl, rfl, rfl, by decide +kernel, rfl, by decide +kernel, by decide +kernel⟩
abbrev s_Net_freed_yet : Stmt := inClass (top 16) 9
theorem sc_Net_freed_yet : FnScope ["self", "hand"] ["self", "hand"] (defScope s_Net_freed_yet) := ⟨rfl, rfl, rfl, by decide +kernel, rfl, by decide +kernel, by decide +kernel⟩
abbrev s_cell_at : Stmt := top 18
theorem sc_cell_at : FnScope ["_law_script", "_law_k"] ["_law_script", "_law_k"] (defScope s_cell_at) := ⟨rfl, rfl, rfl, by decide +kernel, rfl, by decide +kernel, by decide +kernel⟩
abbrev s_mixed : Stmt := top 19
theorem sc_mixed : FnScope ["_law_script", "_law_k", "_law_salt"] ["_law_script", "_law_k", "_law_salt"] (defScope s_mixed) := ⟨rfl, rfl, rfl, by decide +kernel, rfl, by decide +kernel, by decide +kernel⟩
abbrev s_wait_by : Stmt := top 20
theorem sc_wait_by : FnScope ["_law_number", "_law_size", "_law_few", "_law_others", "_law_k", "_law_more"] ["_law_number", "_law_size", "_law_few"] (defScope s_wait_by) := ⟨rfl, rfl, rfl, by decide +kernel, rfl, by decide +kernel, by decide +kernel⟩
abbrev s_waits : Stmt := top 21
theorem sc_waits : FnScope ["_law_script", "_law_cell", "_law_size", "_law_few", "_law_k"] ["_law_script"] (defScope s_waits) := ⟨rfl, rfl, rfl, by decide +kernel, rfl, by decide +kernel, by decide +kernel⟩
abbrev s_freed : Stmt := top 22
theorem sc_freed : FnScope ["_law_waits_here", "_law_wait", "_law_free", "_law_turn", "_law_hand", "_law_one", "_law_come", "_law_whole"] ["_law_waits_here"] (defScope s_freed) := ⟨rfl, rfl, rfl, by decide +kernel, rfl, by decide +kernel, by decide +kernel⟩
abbrev s_asking : Stmt := top 23
theorem sc_asking : FnScope ["_law_waits_here", "_law_asker", "_law_found", "_law_waiting", "_law_hand"] ["_law_waits_here", "_law_asker"] (defScope s_asking) := ⟨rfl, rfl, rfl, by decide +kernel, rfl, by decide +kernel, by decide +kernel⟩
abbrev s_seen : Stmt := top 24
theorem sc_seen : FnScope ["_law_net", "_law_size", "_law_hand", "_law_told"] ["_law_net", "_law_size"] (defScope s_seen) := ⟨rfl, rfl, rfl, by decide +kernel, rfl, by decide +kernel, by decide +kernel⟩
abbrev s_right : Stmt := top 25
theorem sc_right : FnScope ["_law_seen_here", "_law_before", "_law_free", "_law_hand", "_law_now", "_law_shown", "_law_one"] ["_law_seen_here", "_law_before", "_law_free"] (defScope s_right) := ⟨rfl, rfl, rfl, by decide +kernel, rfl, by decide +kernel, by decide +kernel⟩
abbrev s_ended : Stmt := top 26
theorem sc_ended : FnScope ["_law_net", "_law_waits_here", "_law_asker", "_law_free", "_law_turn", "_law_hand", "_law_told"] ["_law_net", "_law_waits_here", "_law_asker", "_law_free"] (defScope s_ended) := ⟨rfl, rfl, rfl, by decide +kernel, rfl, by decide +kernel, by decide +kernel⟩
abbrev s_law : Stmt := top 27
theorem sc_law : FnScope ["_law_script", "_law_waits_here", "_law_size", "_law_free", "_law_askers", "_law_handed", "_law_nets", "_law_wait", "_law_net", "_law_seen_here", "_law_turn", "_law_which", "_law_many", "_law_now"] ["_law_script"] (defScope s_law) := ⟨rfl, rfl, rfl, by decide +kernel, rfl, by decide +kernel, by decide +kernel⟩
/-- what the top has left -/
structure Tx (K : PySem.W.Frag) (mg : Str → Option Value) (A : Ad) where
  f_Hand_init : Addr
  fd_Hand_init : FuncData
  F_Hand_init : Fun K "__init__" "Hand.__init__" s_Hand_init f_Hand_init fd_Hand_init
  b_Hand_init : Binds K fd_Hand_init ["self", "number", "wait", "is_asker"] []
  mk_Hand : Mk K A.cHand f_Hand_init
  gc_Hand : mg "Hand" = some (.ref A.cHand)
  f_Hand_posted : Addr
  fd_Hand_posted : FuncData
  F_Hand_posted : Fun K "posted" "Hand.posted" s_Hand_posted f_Hand_posted fd_Hand_posted
  b_Hand_posted : Binds K fd_Hand_posted ["self", "word", "receivers"] []
  me_Hand_posted : Meth K A.cHand "posted" f_Hand_posted
  f_Hand_asking : Addr
  fd_Hand_asking : FuncData
  F_Hand_asking : Fun K "asking" "Hand.asking" s_Hand_asking f_Hand_asking fd_Hand_asking
  b_Hand_asking : Binds K fd_Hand_asking ["self"] []
  me_Hand_asking : Meth K A.cHand "asking" f_Hand_asking
  f_Hand_begin : Addr
  fd_Hand_begin : FuncData
  F_Hand_begin : Fun K "begin" "Hand.begin" s_Hand_begin f_Hand_begin fd_Hand_begin
  b_Hand_begin : Binds K fd_Hand_begin ["self"] []
  me_Hand_begin : Meth K A.cHand "begin" f_Hand_begin
  f_Hand_asked_by : Addr
  fd_Hand_asked_by : FuncData
  F_Hand_asked_by : Fun K "asked_by" "Hand.asked_by" s_Hand_asked_by f_Hand_asked_by fd_Hand_asked_by
  b_Hand_asked_by : Binds K fd_Hand_asked_by ["self", "sender"] []
  me_Hand_asked_by : Meth K A.cHand "asked_by" f_Hand_asked_by
  f_Hand_told_by : Addr
  fd_Hand_told_by : FuncData
  F_Hand_told_by : Fun K "told_by" "Hand.told_by" s_Hand_told_by f_Hand_told_by fd_Hand_told_by
  b_Hand_told_by : Binds K fd_Hand_told_by ["self", "sender"] []
  me_Hand_told_by : Meth K A.cHand "told_by" f_Hand_told_by
  f_Hand_come : Addr
  fd_Hand_come : FuncData
  F_Hand_come : Fun K "come" "Hand.come" s_Hand_come f_Hand_come fd_Hand_come
  b_Hand_come : Binds K fd_Hand_come ["self", "letter"] []
  me_Hand_come : Meth K A.cHand "come" f_Hand_come
  f_is_hand : Addr
  fd_is_hand : FuncData
  F_is_hand : Fun K "is_hand" "is_hand" s_is_hand f_is_hand fd_is_hand
  b_is_hand : Binds K fd_is_hand ["thing", "many"] []
  m_is_hand : mg "is_hand" = some (.ref f_is_hand)
  f_is_wait : Addr
  fd_is_wait : FuncData
  F_is_wait : Fun K "is_wait" "is_wait" s_is_wait f_is_wait fd_is_wait
  b_is_wait : Binds K fd_is_wait ["wait", "many"] []
  m_is_wait : mg "is_wait" = some (.ref f_is_wait)
  f_need : Addr
  fd_need : FuncData
  F_need : Fun K "need" "need" s_need f_need fd_need
  b_need : Binds K fd_need ["waits"] []
  m_need : mg "need" = some (.ref f_need)
  f_need_hand : Addr
  fd_need_hand : FuncData
  F_need_hand : Fun K "need_hand" "need_hand" s_need_hand f_need_hand fd_need_hand
  b_need_hand : Binds K fd_need_hand ["many", "hand"] []
  m_need_hand : mg "need_hand" = some (.ref f_need_hand)
  f_Net_init : Addr
  fd_Net_init : FuncData
  F_Net_init : Fun K "__init__" "Net.__init__" s_Net_init f_Net_init fd_Net_init
  b_Net_init : Binds K fd_Net_init ["self", "waits", "asker"] []
  mk_Net : Mk K A.cNet f_Net_init
  gc_Net : mg "Net" = some (.ref A.cNet)
  f_Net_letters : Addr
  fd_Net_letters : FuncData
  F_Net_letters : Fun K "letters" "Net.letters" s_Net_letters f_Net_letters fd_Net_letters
  b_Net_letters : Binds K fd_Net_letters ["self"] []
  me_Net_letters : Meth K A.cNet "letters" f_Net_letters
  f_Net_bring : Addr
  fd_Net_bring : FuncData
  F_Net_bring : Fun K "bring" "Net.bring" s_Net_bring f_Net_bring fd_Net_bring
  b_Net_bring : Binds K fd_Net_bring ["self", "place"] []
  me_Net_bring : Meth K A.cNet "bring" f_Net_bring
  f_Net_sent : Addr
  fd_Net_sent : FuncData
  F_Net_sent : Fun K "sent" "Net.sent" s_Net_sent f_Net_sent fd_Net_sent
  b_Net_sent : Binds K fd_Net_sent ["self"] []
  me_Net_sent : Meth K A.cNet "sent" f_Net_sent
  f_Net_hand : Addr
  fd_Net_hand : FuncData
  F_Net_hand : Fun K "hand" "Net.hand" s_Net_hand f_Net_hand fd_Net_hand
  b_Net_hand : Binds K fd_Net_hand ["self", "number"] []
  me_Net_hand : Meth K A.cNet "hand" f_Net_hand
  f_Net_rung : Addr
  fd_Net_rung : FuncData
  F_Net_rung : Fun K "rung" "Net.rung" s_Net_rung f_Net_rung fd_Net_rung
  b_Net_rung : Binds K fd_Net_rung ["self"] []
  me_Net_rung : Meth K A.cNet "rung" f_Net_rung
  f_Net_shown : Addr
  fd_Net_shown : FuncData
  F_Net_shown : Fun K "shown" "Net.shown" s_Net_shown f_Net_shown fd_Net_shown
  b_Net_shown : Binds K fd_Net_shown ["self"] []
  me_Net_shown : Meth K A.cNet "shown" f_Net_shown
  f_Net_freed_yet : Addr
  fd_Net_freed_yet : FuncData
  F_Net_freed_yet : Fun K "freed_yet" "Net.freed_yet" s_Net_freed_yet f_Net_freed_yet fd_Net_freed_yet
  b_Net_freed_yet : Binds K fd_Net_freed_yet ["self", "hand"] []
  me_Net_freed_yet : Meth K A.cNet "freed_yet" f_Net_freed_yet
  f_cell_at : Addr
  fd_cell_at : FuncData
  F_cell_at : Fun K "_law_cell_at" "_law_cell_at" s_cell_at f_cell_at fd_cell_at
  b_cell_at : Binds K fd_cell_at ["_law_script", "_law_k"] []
  m_cell_at : mg "_law_cell_at" = some (.ref f_cell_at)
  f_mixed : Addr
  fd_mixed : FuncData
  F_mixed : Fun K "_law_mixed" "_law_mixed" s_mixed f_mixed fd_mixed
  b_mixed : Binds K fd_mixed ["_law_script", "_law_k", "_law_salt"] []
  m_mixed : mg "_law_mixed" = some (.ref f_mixed)
  f_wait_by : Addr
  fd_wait_by : FuncData
  F_wait_by : Fun K "_law_wait_by" "_law_wait_by" s_wait_by f_wait_by fd_wait_by
  b_wait_by : Binds K fd_wait_by ["_law_number", "_law_size", "_law_few"] []
  m_wait_by : mg "_law_wait_by" = some (.ref f_wait_by)
  f_waits : Addr
  fd_waits : FuncData
  F_waits : Fun K "_law_waits" "_law_waits" s_waits f_waits fd_waits
  b_waits : Binds K fd_waits ["_law_script"] []
  m_waits : mg "_law_waits" = some (.ref f_waits)
  f_freed : Addr
  fd_freed : FuncData
  F_freed : Fun K "_law_freed" "_law_freed" s_freed f_freed fd_freed
  b_freed : Binds K fd_freed ["_law_waits_here"] []
  m_freed : mg "_law_freed" = some (.ref f_freed)
  f_asking : Addr
  fd_asking : FuncData
  F_asking : Fun K "_law_asking" "_law_asking" s_asking f_asking fd_asking
  b_asking : Binds K fd_asking ["_law_waits_here", "_law_asker"] []
  m_asking : mg "_law_asking" = some (.ref f_asking)
  f_seen : Addr
  fd_seen : FuncData
  F_seen : Fun K "_law_seen" "_law_seen" s_seen f_seen fd_seen
  b_seen : Binds K fd_seen ["_law_net", "_law_size"] []
  m_seen : mg "_law_seen" = some (.ref f_seen)
  f_right : Addr
  fd_right : FuncData
  F_right : Fun K "_law_right" "_law_right" s_right f_right fd_right
  b_right : Binds K fd_right ["_law_seen_here", "_law_before", "_law_free"] []
  m_right : mg "_law_right" = some (.ref f_right)
  f_ended : Addr
  fd_ended : FuncData
  F_ended : Fun K "_law_ended" "_law_ended" s_ended f_ended fd_ended
  b_ended : Binds K fd_ended ["_law_net", "_law_waits_here", "_law_asker", "_law_free"] []
  m_ended : mg "_law_ended" = some (.ref f_ended)
  f_law : Addr
  fd_law : FuncData
  F_law : Fun K "law" "law" s_law f_law fd_law
  b_law : Binds K fd_law ["_law_script"] []
  m_law : mg "law" = some (.ref f_law)
  cl_Hand : Cls K A.cHand
  no_Hand_number : NoAttr K A.cHand "number"
  no_Hand_word : NoAttr K A.cHand "word"
  no_Hand_others : NoAttr K A.cHand "others"
  no_Hand_is_asker : NoAttr K A.cHand "is_asker"
  no_Hand_is_freed : NoAttr K A.cHand "is_freed"
  no_Hand_has_asked : NoAttr K A.cHand "has_asked"
  no_Hand_askers : NoAttr K A.cHand "askers"
  no_Hand_told_so : NoAttr K A.cHand "told_so"
  no_Hand_owed : NoAttr K A.cHand "owed"
  no_Hand_waker : NoAttr K A.cHand "waker"
  cl_Net : Cls K A.cNet
  no_Net_asker : NoAttr K A.cNet "asker"
  no_Net_hands : NoAttr K A.cNet "hands"
  no_Net_row : NoAttr K A.cNet "row"
  no_Net_posted_so_far : NoAttr K A.cNet "posted_so_far"
  t_MOST_HANDS : Tok
  co_MOST_HANDS : mg "MOST_HANDS" = some (.int 40 t_MOST_HANDS)
  co_WORDS : mg "WORDS" = some (.ref A.words)
  words : WordsOk K A
  bi_bool : mg "bool" = none
  bi_enumerate : mg "enumerate" = none
  bi_int : mg "int" = none
  bi_isinstance : mg "isinstance" = none
  bi_len : mg "len" = none
  bi_list : mg "list" = none
  bi_range : mg "range" = none
  bi_sorted : mg "sorted" = none
  bi_str : mg "str" = none
  bi_tuple : mg "tuple" = none
theorem Tx.handOk {K : PySem.W.Frag} {mg : Str → Option Value} {A : Ad} (T : Tx K mg A) : HandOk K A := ⟨T.cl_Hand, T.no_Hand_number, T.no_Hand_word, T.no_Hand_others, T.no_Hand_is_asker, T.no_Hand_is_freed, T.no_Hand_has_asked, T.no_Hand_askers, T.no_Hand_told_so, T.no_Hand_owed, T.no_Hand_waker⟩
theorem Tx.netOk {K : PySem.W.Frag} {mg : Str → Option Value} {A : Ad} (T : Tx K mg A) : NetOk K A := ⟨T.cl_Net, T.no_Net_asker, T.no_Net_hands, T.no_Net_row, T.no_Net_posted_so_far⟩
section
variable {P : Program} {w : World} {K : PySem.W.Frag} {mg : Str → Option Value} {base : Heap} {A : Ad}
theorem ok_Hand_init (T : Tx K mg A) : FnOk P w K mg base CX0 1 T.f_Hand_init T.fd_Hand_init ["self", "number", "wait", "is_asker"] (sp_Hand_init K A) := by
  refine T.F_Hand_init.ok sc_Hand_init (fun vs H Q E h => by obtain ⟨a, b, c, d, rfl, h⟩ := h; rfl) (fun cdv A0 outer s H vs Q E hr h => ?_)
  have hu := hu_of hr
  obtain ⟨a, b, c, d, rfl, h⟩ := h
  exact ⟨t_Hand_init K A, (pss_cons (ps_fld (pv 0) (pv 1) rfl)
    (pss_cons (ps_fld (pv 0) pe_non rfl)
    (pss_cons (ps_fld (pv 0) (pe_lst pa_nil) rfl)
    (Evl.pss_cut (ps_if (pt_cmpR op_notNq (pv 2) pe_non (nomark _))
    (pss_cons (ps_fld (pv 0) (pe_ix ix_tup (pv 2) pe_int (fun _ _ => rfl)) rfl)
    (pss_one (ps_fld (pv 0) (pe_callTy call_listq (by rfl) T.bi_list (by decide +kernel) (pa_cons (pe_ix ix_tup (pv 2) pe_int (fun _ _ => rfl)) pa_nil)) rfl)))
    pss_nil)
    (pss_cons (ps_fld (pv 0) (pv 3) rfl)
    (pss_cons (ps_fld (pv 0) (pe_cmpR op_isNq (pv 2) pe_non (nomark _)) rfl)
    (pss_cons (ps_fld (pv 0) pe_bl rfl)
    (pss_cons (ps_fld (pv 0) (pe_lst pa_nil) rfl)
    (pss_cons (ps_fld (pv 0) (pe_lst pa_nil) rfl)
    (pss_cons (ps_fld (pv 0) pe_int rfl)
    (pss_one (ps_fld (pv 0) pe_non rfl)))))))))))),
    rd_Hand_init T.handOk h⟩
theorem ok_Hand_posted (T : Tx K mg A) : FnOk P w K mg base CX0 1 T.f_Hand_posted T.fd_Hand_posted ["self", "word", "receivers"] (sp_Hand_posted K A) := by
  refine T.F_Hand_posted.ok sc_Hand_posted (fun vs H Q E h => by obtain ⟨a, b, c, rfl, h⟩ := h; rfl) (fun cdv A0 outer s H vs Q E hr h => ?_)
  have hu := hu_of hr
  obtain ⟨a, b, c, rfl, h⟩ := h
  exact ⟨t_Hand_posted K A, (pss_cons (ps_fld (pv 0) (pe_op op_add (pe_fld (pv 0) rfl) (pe_callB call_lenq (by rfl) T.bi_len PySem.boot_len (pa_cons (pv 2) pa_nil))) rfl)
    (pss_one (ps_ret (pe_lc (own := [("one", 3)]) (g := (gName 3)) (tt := tYes) (te := (tTup (tCons (tVar 1) (tCons (tFld K (tVar 0) "number") (tCons (tVar 3) tNil))))) rfl sc_Hand_posted.nd (pi_list (pv 2)) (blkOk_by (own := [("one", 3)]) (N := ["self", "word", "receivers", "one"]) (sc := defScope s_Hand_posted) (by decide +kernel)) (fun _ _ _ _ _ => (pg_name (i := 3) sc_Hand_posted.nd rfl (Or.inl rfl))) (fun _ _ _ _ _ => pts_nil) (fun _ _ _ _ _ => (pe_tup (pa_cons (pv 1) (pa_cons (pe_fld (pv 0) rfl) (pa_cons (pv 3) pa_nil))))))))),
    rd_Hand_posted T.handOk h⟩
theorem ok_Hand_asking (T : Tx K mg A) : FnOk P w K mg base CX0 2 T.f_Hand_asking T.fd_Hand_asking ["self"] (sp_Hand_asking K A) := by
  refine T.F_Hand_asking.ok sc_Hand_asking (fun vs H Q E h => by obtain ⟨a, rfl, h⟩ := h; rfl) (fun cdv A0 outer s H vs Q E hr h => ?_)
  have hu := hu_of hr
  obtain ⟨a, rfl, h⟩ := h
  exact ⟨t_Hand_asking K A, (pss_cons (ps_fld (pv 0) pe_bl rfl)
    (pss_one (ps_ret (pe_meth (pv 0) T.cl_Hand T.me_Hand_posted (ok_Hand_posted T) (hr.mono (by decide)) T.b_Hand_posted .nil pass0 (pa_cons pe_str (pa_cons (pe_fld (pv 0) rfl) pa_nil)))))),
    rd_Hand_asking T.handOk h⟩
theorem ok_Hand_begin (T : Tx K mg A) : FnOk P w K mg base CX0 3 T.f_Hand_begin T.fd_Hand_begin ["self"] (sp_Hand_begin K A) := by
  refine T.F_Hand_begin.ok sc_Hand_begin (fun vs H Q E h => by obtain ⟨a, rfl, h⟩ := h; rfl) (fun cdv A0 outer s H vs Q E hr h => ?_)
  have hu := hu_of hr
  obtain ⟨a, rfl, h⟩ := h
  exact ⟨t_Hand_begin K A, (pss_cons (ps_if (pt_val (pe_fld (pv 0) rfl))
    (pss_one (ps_ret (pe_lst pa_nil)))
    pss_nil)
    (pss_one (ps_ret (pe_meth0 (pv 0) T.cl_Hand T.me_Hand_asking (ok_Hand_asking T) (hr.mono (by decide)) T.b_Hand_asking .nil pass0)))),
    rd_Hand_begin T.handOk h⟩
theorem ok_Hand_asked_by (T : Tx K mg A) : FnOk P w K mg base CX0 3 T.f_Hand_asked_by T.fd_Hand_asked_by ["self", "sender"] (sp_Hand_asked_by K A) := by
  refine T.F_Hand_asked_by.ok sc_Hand_asked_by (fun vs H Q E h => by obtain ⟨a, b, rfl, h⟩ := h; rfl) (fun cdv A0 outer s H vs Q E hr h => ?_)
  have hu := hu_of hr
  obtain ⟨a, b, rfl, h⟩ := h
  exact ⟨t_Hand_asked_by K A, (pss_cons (ps_if (pt_val (pe_fld (pv 0) rfl))
    (pss_one (ps_ret (pe_meth (pv 0) T.cl_Hand T.me_Hand_posted (ok_Hand_posted T) (hr.mono (by decide)) T.b_Hand_posted .nil pass0 (pa_cons pe_str (pa_cons (pe_lst (pa_cons (pv 1) pa_nil)) pa_nil)))))
    pss_nil)
    (pss_cons (ps_expr (pe_bm PySem.F.plainAttrs_list PySem.F.slot_list_append PySem.F.type_list_append mt_append (pe_fld (pv 0) rfl) (pa_cons (pv 1) pa_nil)))
    (pss_cons (ps_if (pt_val (pe_fld (pv 0) rfl))
    (pss_one (ps_ret (pe_lst pa_nil)))
    pss_nil)
    (pss_one (ps_ret (pe_meth0 (pv 0) T.cl_Hand T.me_Hand_asking (ok_Hand_asking T) (hr.mono (by decide)) T.b_Hand_asking .nil pass0)))))),
    rd_Hand_asked_by T.handOk h⟩
theorem ok_Hand_told_by (T : Tx K mg A) : FnOk P w K mg base CX0 2 T.f_Hand_told_by T.fd_Hand_told_by ["self", "sender"] (sp_Hand_told_by K A) := by
  refine T.F_Hand_told_by.ok sc_Hand_told_by (fun vs H Q E h => by obtain ⟨a, b, rfl, h⟩ := h; rfl) (fun cdv A0 outer s H vs Q E hr h => ?_)
  have hu := hu_of hr
  obtain ⟨a, b, rfl, h⟩ := h
  exact ⟨t_Hand_told_by K A, (pss_cons (ps_expr (pe_bm PySem.F.plainAttrs_list PySem.F.slot_list_append PySem.F.type_list_append mt_append (pe_fld (pv 0) rfl) (pa_cons (pv 1) pa_nil)))
    (pss_cons (ps_if (PW.pt (pw_or (pt_val (pe_fld (pv 0) rfl)) (pw_or1 (PW.pt (pw_and (pt_cmpR op_eq (pe_fld (pv 0) rfl) pe_str (nomark _)) (pw_and1 (pt_cmpR op_lt (pe_callB call_lenq (by rfl) T.bi_len PySem.boot_len (pa_cons (pe_fld (pv 0) rfl) pa_nil)) (pe_callB call_lenq (by rfl) T.bi_len PySem.boot_len (pa_cons (pe_fld (pv 0) rfl) pa_nil)) (nomark _))))))))
    (pss_one (ps_ret (pe_lst pa_nil)))
    pss_nil)
    (pss_cons (ps_fld (pv 0) pe_bl rfl)
    (pss_one (ps_ret (pe_meth (pv 0) T.cl_Hand T.me_Hand_posted (ok_Hand_posted T) (hr.mono (by decide)) T.b_Hand_posted .nil pass0 (pa_cons pe_str (pa_cons (pe_fld (pv 0) rfl) pa_nil)))))))),
    rd_Hand_told_by T.handOk h⟩
theorem ok_Hand_come (T : Tx K mg A) : FnOk P w K mg base CX0 4 T.f_Hand_come T.fd_Hand_come ["self", "letter"] (sp_Hand_come K A) := by
  refine T.F_Hand_come.ok sc_Hand_come (fun vs H Q E h => by obtain ⟨a, b, rfl, h⟩ := h; rfl) (fun cdv A0 outer s H vs Q E hr h => ?_)
  have hu := hu_of hr
  obtain ⟨a, b, rfl, h⟩ := h
  exact ⟨t_Hand_come K A, (pss_cons (ps_asg (pv 1) (pg_tup (by rfl) (pgs_cons (pg_name (i := 2) sc_Hand_come.nd rfl (Or.inl rfl)) (pgs_cons (pg_name (i := 3) sc_Hand_come.nd rfl (Or.inl rfl)) (pgs_cons (pg_name (i := 4) sc_Hand_come.nd rfl (Or.inl rfl)) pgs_nil)))))
    (pss_cons (ps_set (i := 5) sc_Hand_come.nd rfl (Or.inl rfl) (pe_lst pa_nil))
    (Evl.pss_cut (ps_if (pt_cmpR op_eq (pv 2) pe_str (nomark _))
    (pss_one (ps_fld (pv 0) (pe_op op_sub (pe_fld (pv 0) rfl) pe_int) rfl))
    (Evl.pss_cut (ps_if (PW.pt (pw_or (pt_val (pe_fld (pv 0) rfl)) (pw_or1 (pt_cmpR op_notNq (pe_fld (pv 0) rfl) pe_non (nomark _)))))
    (pss_one (ps_expr (pe_bm PySem.F.plainAttrs_list PySem.F.slot_list_append PySem.F.type_list_append mt_append (pv 5) (pa_cons (pe_tup (pa_cons pe_str (pa_cons (pe_fld (pv 0) rfl) (pa_cons (pv 3) pa_nil)))) pa_nil))))
    (pss_one (ps_fld (pv 0) (pv 3) rfl)))
    (pss_one (ps_if (pt_cmpR op_eq (pv 2) pe_str (nomark _))
    (pss_one (ps_expr (pe_bm PySem.F.plainAttrs_list PySem.F.slot_list_extend PySem.F.type_list_extend mt_extend (pv 5) (pa_cons (pe_meth (pv 0) T.cl_Hand T.me_Hand_asked_by (ok_Hand_asked_by T) (hr.mono (by decide)) T.b_Hand_asked_by .nil pass0 (pa_cons (pv 3) pa_nil)) pa_nil))))
    (pss_one (ps_expr (pe_bm PySem.F.plainAttrs_list PySem.F.slot_list_extend PySem.F.type_list_extend mt_extend (pv 5) (pa_cons (pe_meth (pv 0) T.cl_Hand T.me_Hand_told_by (ok_Hand_told_by T) (hr.mono (by decide)) T.b_Hand_told_by .nil pass0 (pa_cons (pv 3) pa_nil)) pa_nil))))))))
    (Evl.pss_cut (ps_if (PW.pt (pw_and (pt_cmpR op_eq (pe_fld (pv 0) rfl) pe_int (nomark _)) (pw_and1 (pt_cmpR op_notNq (pe_fld (pv 0) rfl) pe_non (nomark _)))))
    (pss_cons (ps_expr (pe_bm PySem.F.plainAttrs_list PySem.F.slot_list_append PySem.F.type_list_append mt_append (pv 5) (pa_cons (pe_tup (pa_cons pe_str (pa_cons (pe_fld (pv 0) rfl) (pa_cons (pe_fld (pv 0) rfl) pa_nil)))) pa_nil)))
    (pss_one (ps_fld (pv 0) pe_non rfl)))
    pss_nil)
    (pss_one (ps_ret (pv 5))))))),
    rd_Hand_come T.handOk h⟩
theorem ok_is_hand (T : Tx K mg A) : FnOk P w K mg base CX0 1 T.f_is_hand T.fd_is_hand ["thing", "many"] (sp_is_hand K A) := by
  refine T.F_is_hand.ok sc_is_hand (fun vs H Q E h => by obtain ⟨a, b, rfl, h⟩ := h; rfl) (fun cdv A0 outer s H vs Q E hr h => ?_)
  have hu := hu_of hr
  obtain ⟨a, b, rfl, h⟩ := h
  exact ⟨t_is_hand K A, (pss_one (ps_ret (pe_and (pe_callB call_isi (by rfl) T.bi_isinstance (by decide +kernel) (pa_cons (pv 0) (pa_cons (pe_bltn (by rfl) T.bi_int (by decide +kernel) rfl) pa_nil))) (pe_and (pe_not (pe_callB call_isi (by rfl) T.bi_isinstance (by decide +kernel) (pa_cons (pv 0) (pa_cons (pe_bltn (by rfl) T.bi_bool (by decide +kernel) rfl) pa_nil)))) (pe_one (pe_chain op_le op_lt pe_int (pv 0) (pv 1))))))),
    rd_is_hand h⟩
theorem ok_is_wait (T : Tx K mg A) : FnOk P w K mg base CX0 2 T.f_is_wait T.fd_is_wait ["wait", "many"] (sp_is_wait K A) := by
  refine T.F_is_wait.ok sc_is_wait (fun vs H Q E h => by obtain ⟨a, b, rfl, h⟩ := h; rfl) (fun cdv A0 outer s H vs Q E hr h => ?_)
  have hu := hu_of hr
  obtain ⟨a, b, rfl, h⟩ := h
  exact ⟨t_is_wait K A, (pss_cons (ps_if (pt_cmpR op_isNq (pv 0) pe_non (nomark _))
    (pss_one (ps_ret pe_bl))
    pss_nil)
    (pss_cons (ps_if (PW.pt (pw_or (pt_not (pt_val (pe_callB call_isi (by rfl) T.bi_isinstance (by decide +kernel) (pa_cons (pv 0) (pa_cons (pe_bltn (by rfl) T.bi_tuple (by decide +kernel) rfl) pa_nil))))) (pw_or (pt_cmpR op_ne (pe_callB call_lenq (by rfl) T.bi_len PySem.boot_len (pa_cons (pv 0) pa_nil)) pe_int (nomark _)) (pw_or (pt_not (pt_val (pe_callB call_isi (by rfl) T.bi_isinstance (by decide +kernel) (pa_cons (pe_ix ix_tup (pv 0) pe_int (fun _ _ => rfl)) (pa_cons (pe_bltn (by rfl) T.bi_str (by decide +kernel) rfl) pa_nil))))) (pw_or1 (pt_cmpR op_notIn_seq (pe_ix ix_tup (pv 0) pe_int (fun _ _ => rfl)) (pe_glob rfl T.co_WORDS rfl) rfl))))))
    (pss_one (ps_ret pe_bl))
    pss_nil)
    (pss_cons (ps_if (PW.pt (pw_or (pt_not (pt_val (pe_callB call_isi (by rfl) T.bi_isinstance (by decide +kernel) (pa_cons (pe_ix ix_tup (pv 0) pe_int (fun _ _ => rfl)) (pa_cons (pe_bltn (by rfl) T.bi_list (by decide +kernel) rfl) pa_nil))))) (pw_or1 (pt_cmpR (op_eqD hr.units) (pe_ix ix_tup (pv 0) pe_int (fun _ _ => rfl)) (pe_lst pa_nil) (nomark _)))))
    (pss_one (ps_ret pe_bl))
    pss_nil)
    (pss_cons (ps_for PassesOwn.never rfl (pi_enum (by rfl) T.bi_enumerate (pa_cons (pe_ix ix_tup (pv 0) pe_int (fun _ _ => rfl)) pa_nil)) (pg_tup (by rfl) (pgs_cons (pg_name (i := 2) sc_is_wait.nd rfl (Or.inl rfl)) (pgs_cons (pg_name (i := 3) sc_is_wait.nd rfl (Or.inl rfl)) pgs_nil)))
    (pss_one (ps_if (PW.pt (pw_or (pt_not (pt_val (pe_call (ok_is_hand T) (hr.mono (by decide)) rfl T.m_is_hand T.F_is_hand.kp T.b_is_hand .nil pass0 (pa_cons (pv 3) (pa_cons (pv 1) pa_nil))))) (pw_or1 (pt_cmpR op_in_seq (pv 3) (pe_slice sl_list (pe_ix ix_tup (pv 0) pe_int (fun _ _ => rfl)) po_none (po_some (pv 2))) rfl))))
    (pss_one (ps_ret pe_bl))
    pss_nil)))
    (pss_one (ps_ret pe_bl)))))),
    rd_is_wait T.words h⟩
theorem ok_need (T : Tx K mg A) : FnOk P w K mg base CX0 3 T.f_need T.fd_need ["waits"] (sp_need K A) := by
  refine T.F_need.ok sc_need (fun vs H Q E h => by obtain ⟨a, rfl, h⟩ := h; rfl) (fun cdv A0 outer s H vs Q E hr h => ?_)
  have hu := hu_of hr
  obtain ⟨a, rfl, h⟩ := h
  exact ⟨t_need K A, (pss_cons (ps_if (PW.pt (pw_or (pt_not (pt_val (pe_callB call_isi (by rfl) T.bi_isinstance (by decide +kernel) (pa_cons (pv 0) (pa_cons (pe_bltn (by rfl) T.bi_list (by decide +kernel) rfl) pa_nil))))) (pw_or1 (pt_not (pt_chain op_le op_le pe_int (pe_callB call_lenq (by rfl) T.bi_len PySem.boot_len (pa_cons (pv 0) pa_nil)) (pe_glob rfl T.co_MOST_HANDS ⟨_, rfl⟩))))))
    (pss_one ps_never)
    pss_nil)
    (pss_cons (ps_for PassesOwn.never rfl (pi_enum (by rfl) T.bi_enumerate (pa_cons (pv 0) pa_nil)) (pg_tup (by rfl) (pgs_cons (pg_name (i := 1) sc_need.nd rfl (Or.inl rfl)) (pgs_cons (pg_name (i := 2) sc_need.nd rfl (Or.inl rfl)) pgs_nil)))
    (pss_one (ps_if (pt_not (pt_val (pe_call (ok_is_wait T) (hr.mono (by decide)) rfl T.m_is_wait T.F_is_wait.kp T.b_is_wait .nil pass0 (pa_cons (pv 2) (pa_cons (pe_callB call_lenq (by rfl) T.bi_len PySem.boot_len (pa_cons (pv 0) pa_nil)) pa_nil)))))
    (pss_one ps_never)
    pss_nil)))
    (pss_one (ps_ret pe_bl)))),
    rd_need h⟩
theorem ok_need_hand (T : Tx K mg A) : FnOk P w K mg base CX0 2 T.f_need_hand T.fd_need_hand ["many", "hand"] (sp_need_hand K A) := by
  refine T.F_need_hand.ok sc_need_hand (fun vs H Q E h => by obtain ⟨a, b, rfl, h⟩ := h; rfl) (fun cdv A0 outer s H vs Q E hr h => ?_)
  have hu := hu_of hr
  obtain ⟨a, b, rfl, h⟩ := h
  exact ⟨t_need_hand K A, (pss_cons (ps_if (pt_not (pt_val (pe_call (ok_is_hand T) (hr.mono (by decide)) rfl T.m_is_hand T.F_is_hand.kp T.b_is_hand .nil pass0 (pa_cons (pv 1) (pa_cons (pv 0) pa_nil)))))
    (pss_one ps_never)
    pss_nil)
    (pss_one (ps_ret (pv 1)))),
    rd_need_hand h⟩
theorem ok_Net_init (T : Tx K mg A) : FnOk P w K mg base CX0 4 T.f_Net_init T.fd_Net_init ["self", "waits", "asker"] (sp_Net_init K A) := by
  refine T.F_Net_init.ok sc_Net_init (fun vs H Q E h => by obtain ⟨a, b, c, rfl, h⟩ := h; rfl) (fun cdv A0 outer s H vs Q E hr h => ?_)
  have hu := hu_of hr
  obtain ⟨a, b, c, rfl, h⟩ := h
  exact ⟨t_Net_init K A, (pss_cons (ps_expr (pe_call (ok_need T) (hr.mono (by decide)) rfl T.m_need T.F_need.kp T.b_need .nil pass0 (pa_cons (pv 1) pa_nil)))
    (pss_cons (ps_fld (pv 0) (pe_call (ok_need_hand T) (hr.mono (by decide)) rfl T.m_need_hand T.F_need_hand.kp T.b_need_hand .nil pass0 (pa_cons (pe_callB call_lenq (by rfl) T.bi_len PySem.boot_len (pa_cons (pv 1) pa_nil)) (pa_cons (pv 2) pa_nil))) rfl)
    (pss_cons (ps_fld (pv 0) (pe_lc (own := [("number", 3), ("wait", 4)]) (g := (gTup K 2 (gCons (gName 3) (gCons (gName 4) gNil)))) (tt := tYes) (te := (tMake A.cHand (sp_Hand_init K A) [] E0 (tCons (tVar 3) (tCons (tVar 4) (tCons (tOp rEq (tVar 3) (tVar 2)) tNil))))) rfl sc_Net_init.nd (pi_enum (by rfl) T.bi_enumerate (pa_cons (pv 1) pa_nil)) (blkOk_by (own := [("number", 3), ("wait", 4)]) (N := ["self", "waits", "asker", "number", "wait"]) (sc := defScope s_Net_init) (by decide +kernel)) (fun _ _ _ _ _ => (pg_tup (by rfl) (pgs_cons (pg_name (i := 3) sc_Net_init.nd rfl (Or.inl rfl)) (pgs_cons (pg_name (i := 4) sc_Net_init.nd rfl (Or.inl rfl)) pgs_nil)))) (fun _ _ _ _ _ => pts_nil) (fun _ _ _ _ _ => (pe_make T.mk_Hand (ok_Hand_init T) (hr.mono (by decide)) rfl T.gc_Hand T.b_Hand_init .nil pass0 (pa_cons (pv 3) (pa_cons (pv 4) (pa_cons (pe_cmpR op_eq (pv 3) (pv 2) (nomark _)) pa_nil)))))) rfl)
    (pss_cons (ps_fld (pv 0) (pe_meth0 (pe_ix ix_list (pe_fld (pv 0) rfl) (pv 2) (fun _ _ => rfl)) T.cl_Hand T.me_Hand_begin (ok_Hand_begin T) (hr.mono (by decide)) T.b_Hand_begin .nil pass0) rfl)
    (pss_one (ps_fld (pv 0) (pe_callB call_lenq (by rfl) T.bi_len PySem.boot_len (pa_cons (pe_fld (pv 0) rfl) pa_nil)) rfl)))))),
    rd_Net_init T.netOk T.handOk h⟩
theorem ok_Net_letters (T : Tx K mg A) : FnOk P w K mg base CX0 1 T.f_Net_letters T.fd_Net_letters ["self"] (sp_Net_letters K A) := by
  refine T.F_Net_letters.ok sc_Net_letters (fun vs H Q E h => by obtain ⟨a, rfl, h⟩ := h; rfl) (fun cdv A0 outer s H vs Q E hr h => ?_)
  have hu := hu_of hr
  obtain ⟨a, rfl, h⟩ := h
  exact ⟨t_Net_letters K A, (pss_one (ps_ret (pe_callTy call_listq (by rfl) T.bi_list (by decide +kernel) (pa_cons (pe_fld (pv 0) rfl) pa_nil)))),
    rd_Net_letters T.netOk h⟩
theorem ok_Net_bring (T : Tx K mg A) : FnOk P w K mg base CX0 5 T.f_Net_bring T.fd_Net_bring ["self", "place"] (sp_Net_bring K A) := by
  refine T.F_Net_bring.ok sc_Net_bring (fun vs H Q E h => by obtain ⟨a, b, rfl, h⟩ := h; rfl) (fun cdv A0 outer s H vs Q E hr h => ?_)
  have hu := hu_of hr
  obtain ⟨a, b, rfl, h⟩ := h
  exact ⟨t_Net_bring K A, (pss_cons (ps_if (pt_not (pt_val (pe_call (ok_is_hand T) (hr.mono (by decide)) rfl T.m_is_hand T.F_is_hand.kp T.b_is_hand .nil pass0 (pa_cons (pv 1) (pa_cons (pe_callB call_lenq (by rfl) T.bi_len PySem.boot_len (pa_cons (pe_fld (pv 0) rfl) pa_nil)) pa_nil)))))
    (pss_one ps_never)
    pss_nil)
    (pss_cons (ps_set (i := 2) sc_Net_bring.nd rfl (Or.inl rfl) (pe_bm PySem.F.plainAttrs_list PySem.F.slot_list_pop PySem.F.type_list_pop mt_popAt (pe_fld (pv 0) rfl) (pa_cons (pv 1) pa_nil)))
    (pss_cons (ps_set (i := 3) sc_Net_bring.nd rfl (Or.inl rfl) (pe_meth (pe_ix ix_list (pe_fld (pv 0) rfl) (pe_ix ix_tup (pv 2) pe_int (fun _ _ => rfl)) (fun _ _ => rfl)) T.cl_Hand T.me_Hand_come (ok_Hand_come T) (hr.mono (by decide)) T.b_Hand_come .nil pass0 (pa_cons (pv 2) pa_nil)))
    (pss_cons (ps_expr (pe_bm PySem.F.plainAttrs_list PySem.F.slot_list_extend PySem.F.type_list_extend mt_extend (pe_fld (pv 0) rfl) (pa_cons (pv 3) pa_nil)))
    (pss_cons (ps_fld (pv 0) (pe_op op_add (pe_fld (pv 0) rfl) (pe_callB call_lenq (by rfl) T.bi_len PySem.boot_len (pa_cons (pv 3) pa_nil))) rfl)
    (pss_one (ps_ret (pe_callTy call_listq (by rfl) T.bi_list (by decide +kernel) (pa_cons (pv 3) pa_nil))))))))),
    rd_Net_bring T.netOk T.handOk h⟩
theorem ok_Net_sent (T : Tx K mg A) : FnOk P w K mg base CX0 1 T.f_Net_sent T.fd_Net_sent ["self"] (sp_Net_sent K A) := by
  refine T.F_Net_sent.ok sc_Net_sent (fun vs H Q E h => by obtain ⟨a, rfl, h⟩ := h; rfl) (fun cdv A0 outer s H vs Q E hr h => ?_)
  have hu := hu_of hr
  obtain ⟨a, rfl, h⟩ := h
  exact ⟨t_Net_sent K A, (pss_one (ps_ret (pe_fld (pv 0) rfl))),
    rd_Net_sent T.netOk h⟩
theorem ok_Net_hand (T : Tx K mg A) : FnOk P w K mg base CX0 3 T.f_Net_hand T.fd_Net_hand ["self", "number"] (sp_Net_hand K A) := by
  refine T.F_Net_hand.ok sc_Net_hand (fun vs H Q E h => by obtain ⟨a, b, rfl, h⟩ := h; rfl) (fun cdv A0 outer s H vs Q E hr h => ?_)
  have hu := hu_of hr
  obtain ⟨a, b, rfl, h⟩ := h
  exact ⟨t_Net_hand K A, (pss_one (ps_ret (pe_ix ix_list (pe_fld (pv 0) rfl) (pe_call (ok_need_hand T) (hr.mono (by decide)) rfl T.m_need_hand T.F_need_hand.kp T.b_need_hand .nil pass0 (pa_cons (pe_callB call_lenq (by rfl) T.bi_len PySem.boot_len (pa_cons (pe_fld (pv 0) rfl) pa_nil)) (pa_cons (pv 1) pa_nil))) (fun _ _ => rfl)))),
    rd_Net_hand T.netOk h⟩
theorem ok_Net_rung (T : Tx K mg A) : FnOk P w K mg base CX0 1 T.f_Net_rung T.fd_Net_rung ["self"] (sp_Net_rung K A) := by
  refine T.F_Net_rung.ok sc_Net_rung (fun vs H Q E h => by obtain ⟨a, rfl, h⟩ := h; rfl) (fun cdv A0 outer s H vs Q E hr h => ?_)
  have hu := hu_of hr
  obtain ⟨a, rfl, h⟩ := h
  exact ⟨t_Net_rung K A, (pss_cons (ps_if (pt_cmpR op_gt (pe_fld (pe_ix ix_list (pe_fld (pv 0) rfl) (pe_fld (pv 0) rfl) (fun _ _ => rfl)) rfl) pe_int (nomark _))
    (pss_one (ps_ret pe_non))
    pss_nil)
    (pss_one (ps_ret (pe_not (pe_fld (pe_ix ix_list (pe_fld (pv 0) rfl) (pe_fld (pv 0) rfl) (fun _ _ => rfl)) rfl))))),
    rd_Net_rung T.netOk T.handOk h⟩
theorem ok_Net_shown (T : Tx K mg A) : FnOk P w K mg base CX0 1 T.f_Net_shown T.fd_Net_shown ["self"] (sp_Net_shown K A) := by
  refine T.F_Net_shown.ok sc_Net_shown (fun vs H Q E h => by obtain ⟨a, rfl, h⟩ := h; rfl) (fun cdv A0 outer s H vs Q E hr h => ?_)
  have hu := hu_of hr
  obtain ⟨a, rfl, h⟩ := h
  exact ⟨t_Net_shown K A, (pss_one (ps_ret (pe_lc (own := [("number", 1), ("one", 2)]) (g := (gTup K 2 (gCons (gName 1) (gCons (gName 2) gNil)))) (tt := (tAnd (tB (tFld K (tVar 2) "has_asked")) (tNot (tB (tFld K (tVar 2) "is_freed"))))) (te := (tVar 1)) rfl sc_Net_shown.nd (pi_enum (by rfl) T.bi_enumerate (pa_cons (pe_fld (pv 0) rfl) pa_nil)) (blkOk_by (own := [("number", 1), ("one", 2)]) (N := ["self", "number", "one"]) (sc := defScope s_Net_shown) (by decide +kernel)) (fun _ _ _ _ _ => (pg_tup (by rfl) (pgs_cons (pg_name (i := 1) sc_Net_shown.nd rfl (Or.inl rfl)) (pgs_cons (pg_name (i := 2) sc_Net_shown.nd rfl (Or.inl rfl)) pgs_nil)))) (fun _ _ _ _ _ => (pts_one (PW.pt (pw_and (pt_val (pe_fld (pv 2) rfl)) (pw_and1 (pt_not (pt_val (pe_fld (pv 2) rfl)))))))) (fun _ _ _ _ _ => (pv 1))))),
    rd_Net_shown T.netOk T.handOk h⟩
theorem ok_Net_freed_yet (T : Tx K mg A) : FnOk P w K mg base CX0 4 T.f_Net_freed_yet T.fd_Net_freed_yet ["self", "hand"] (sp_Net_freed_yet K A) := by
  refine T.F_Net_freed_yet.ok sc_Net_freed_yet (fun vs H Q E h => by obtain ⟨a, b, rfl, h⟩ := h; rfl) (fun cdv A0 outer s H vs Q E hr h => ?_)
  have hu := hu_of hr
  obtain ⟨a, b, rfl, h⟩ := h
  exact ⟨t_Net_freed_yet K A, (pss_one (ps_ret (pe_fld (pe_meth (pv 0) T.cl_Net T.me_Net_hand (ok_Net_hand T) (hr.mono (by decide)) T.b_Net_hand .nil pass0 (pa_cons (pv 1) pa_nil)) rfl))),
    rd_Net_freed_yet T.netOk T.handOk h⟩
theorem ok_cell_at (T : Tx K mg A) : FnOk P w K mg base CX0 1 T.f_cell_at T.fd_cell_at ["_law_script", "_law_k"] (sp_cell_at K A) := by
  refine T.F_cell_at.ok sc_cell_at (fun vs H Q E h => by obtain ⟨a, b, rfl, h⟩ := h; rfl) (fun cdv A0 outer s H vs Q E hr h => ?_)
  have hu := hu_of hr
  obtain ⟨a, b, rfl, h⟩ := h
  exact ⟨t_cell_at K A, (pss_cons (ps_if (pt_cmpR op_lt (pv 1) (pe_callB call_lenq (by rfl) T.bi_len PySem.boot_len (pa_cons (pv 0) pa_nil)) (nomark _))
    (pss_one (ps_ret (pe_ix ix_list (pv 0) (pv 1) (fun _ _ => rfl))))
    pss_nil)
    (pss_one (ps_ret pe_int))),
    rd_cell_at h⟩
theorem ok_mixed (T : Tx K mg A) : FnOk P w K mg base CX0 2 T.f_mixed T.fd_mixed ["_law_script", "_law_k", "_law_salt"] (sp_mixed K A) := by
  refine T.F_mixed.ok sc_mixed (fun vs H Q E h => by obtain ⟨a, b, c, rfl, h⟩ := h; rfl) (fun cdv A0 outer s H vs Q E hr h => ?_)
  have hu := hu_of hr
  obtain ⟨a, b, c, rfl, h⟩ := h
  exact ⟨t_mixed K A, (pss_one (ps_ret (pe_op op_mod (pe_op op_add (pe_op op_mul (pe_call (ok_cell_at T) (hr.mono (by decide)) rfl T.m_cell_at T.F_cell_at.kp T.b_cell_at .nil pass0 (pa_cons (pv 0) (pa_cons (pv 1) pa_nil))) pe_int) (pe_op op_mul (pv 2) pe_int)) pe_int))),
    rd_mixed h⟩
theorem ok_wait_by (T : Tx K mg A) : FnOk P w K mg base CX0 1 T.f_wait_by T.fd_wait_by ["_law_number", "_law_size", "_law_few"] (sp_wait_by K A) := by
  refine T.F_wait_by.ok sc_wait_by (fun vs H Q E h => by obtain ⟨a, b, c, rfl, h⟩ := h; rfl) (fun cdv A0 outer s H vs Q E hr h => ?_)
  have hu := hu_of hr
  obtain ⟨a, b, c, rfl, h⟩ := h
  exact ⟨t_wait_by K A, (pss_cons (ps_if (pt_cmpR op_eq (pe_op op_mod (pv 0) (pe_ix ix_list (pe_lst (pa_cons pe_int (pa_cons pe_int pa_nil))) (pv 2) (fun _ _ => rfl))) pe_int (nomark _))
    (pss_one (ps_ret pe_non))
    pss_nil)
    (pss_cons (ps_set (i := 3) sc_wait_by.nd rfl (Or.inl rfl) (pe_lst (pa_cons (pe_op op_mod (pe_op op_fdiv (pv 0) pe_int) (pv 1)) pa_nil)))
    (pss_cons (ps_for PassesOwn.never rfl (pi_range1 rfl T.bi_range (pa_cons (pe_op op_mod (pe_op op_fdiv (pv 0) pe_int) pe_int) pa_nil)) (pg_name (i := 4) sc_wait_by.nd rfl (Or.inl rfl))
    (pss_cons (ps_set (i := 5) sc_wait_by.nd rfl (Or.inl rfl) (pe_op op_mod (pe_op op_add (pe_op op_add (pe_ix ix_list (pv 3) pe_int (fun _ _ => rfl)) pe_int) (pe_op op_mod (pe_op op_fdiv (pv 0) (pe_op op_add pe_int (pe_op op_mul pe_int (pv 4)))) (pv 1))) (pv 1)))
    (pss_one (ps_if (pt_cmpR op_notIn_seq (pv 5) (pv 3) rfl)
    (pss_one (ps_expr (pe_bm PySem.F.plainAttrs_list PySem.F.slot_list_append PySem.F.type_list_append mt_append (pv 3) (pa_cons (pv 5) pa_nil))))
    pss_nil))))
    (pss_one (ps_ret (pe_tup (pa_cons (pe_ix ix_list (pe_lst (pa_cons pe_str (pa_cons pe_str pa_nil))) (pe_op op_mod (pe_op op_fdiv (pv 0) pe_int) pe_int) (fun _ _ => rfl)) (pa_cons (pv 3) pa_nil)))))))),
    rd_wait_by h⟩
theorem ok_waits (T : Tx K mg A) : FnOk P w K mg base CX0 3 T.f_waits T.fd_waits ["_law_script"] (sp_waits K A) := by
  refine T.F_waits.ok sc_waits (fun vs H Q E h => by obtain ⟨a, rfl, h⟩ := h; rfl) (fun cdv A0 outer s H vs Q E hr h => ?_)
  have hu := hu_of hr
  obtain ⟨a, rfl, h⟩ := h
  exact ⟨t_waits K A, (pss_cons (ps_set (i := 1) sc_waits.nd rfl (Or.inl rfl) (pe_call (ok_cell_at T) (hr.mono (by decide)) rfl T.m_cell_at T.F_cell_at.kp T.b_cell_at .nil pass0 (pa_cons (pv 0) (pa_cons pe_int pa_nil))))
    (pss_cons (ps_set (i := 2) sc_waits.nd rfl (Or.inr rfl) (pe_op op_add pe_int (pe_op op_mod (pv 1) pe_int)))
    (Evl.pss_cut (ps_if (pt_cmpR op_eq (pe_op op_mod (pe_op op_fdiv (pv 1) pe_int) pe_int) pe_int (nomark _))
    (pss_one (ps_set (i := 2) sc_waits.nd rfl (Or.inr rfl) (pe_op op_add pe_int (pe_op op_mod (pe_op op_fdiv (pv 1) pe_int) pe_int))))
    pss_nil)
    (pss_cons (ps_set (i := 3) sc_waits.nd rfl (Or.inr rfl) (pe_op op_mod (pe_op op_fdiv (pe_call (ok_cell_at T) (hr.mono (by decide)) rfl T.m_cell_at T.F_cell_at.kp T.b_cell_at .nil pass0 (pa_cons (pv 0) (pa_cons pe_int pa_nil))) pe_int) pe_int))
    (pss_one (ps_ret (pe_lc (own := [("_law_k", 4)]) (g := (gName 4)) (tt := tYes) (te := (tCall (sp_wait_by K A) [] E0 (tCons (tCall (sp_mixed K A) [] E0 (tCons (tVar 0) (tCons (tOp qAdd (tC (.int 3)) (tVar 4)) (tCons (tVar 4) tNil)))) (tCons (tVar 2) (tCons (tVar 3) tNil))))) rfl sc_waits.nd (pi_range1 rfl T.bi_range (pa_cons (pv 2) pa_nil)) (blkOk_by (own := [("_law_k", 4)]) (N := ["_law_script", "_law_cell", "_law_size", "_law_few", "_law_k"]) (sc := defScope s_waits) (by decide +kernel)) (fun _ _ _ _ _ => (pg_name (i := 4) sc_waits.nd rfl (Or.inl rfl))) (fun _ _ _ _ _ => pts_nil) (fun _ _ _ _ _ => (pe_call (ok_wait_by T) (hr.mono (by decide)) rfl T.m_wait_by T.F_wait_by.kp T.b_wait_by .nil pass0 (pa_cons (pe_call (ok_mixed T) (hr.mono (by decide)) rfl T.m_mixed T.F_mixed.kp T.b_mixed .nil pass0 (pa_cons (pv 0) (pa_cons (pe_op op_add pe_int (pv 4)) (pa_cons (pv 4) pa_nil)))) (pa_cons (pv 2) (pa_cons (pv 3) pa_nil)))))))))))),
    rd_waits h⟩
theorem ok_freed (T : Tx K mg A) : FnOk P w K mg base CX0 1 T.f_freed T.fd_freed ["_law_waits_here"] (sp_freed K A) := by
  refine T.F_freed.ok sc_freed (fun vs H Q E h => by obtain ⟨a, rfl, h⟩ := h; rfl) (fun cdv A0 outer s H vs Q E hr h => ?_)
  have hu := hu_of hr
  obtain ⟨a, rfl, h⟩ := h
  exact ⟨t_freed K A, (pss_cons (ps_set (i := 2) sc_freed.nd rfl (Or.inr rfl) (pe_lc (own := [("_law_wait", 1)]) (g := (gName 1)) (tt := tYes) (te := (tOp qIsN (tVar 1) (tC .non))) rfl sc_freed.nd (pi_list (pv 0)) (blkOk_by (own := [("_law_wait", 1)]) (N := ["_law_waits_here", "_law_wait", "_law_free", "_law_turn", "_law_hand", "_law_one", "_law_come", "_law_whole"]) (sc := defScope s_freed) (by decide +kernel)) (fun _ _ _ _ _ => (pg_name (i := 1) sc_freed.nd rfl (Or.inl rfl))) (fun _ _ _ _ _ => pts_nil) (fun _ _ _ _ _ => (pe_cmpR op_isNq (pv 1) pe_non (nomark _)))))
    (pss_cons (ps_for PassesOwn.never rfl (pi_range1 rfl T.bi_range (pa_cons (pe_callB call_lenq (by rfl) T.bi_len PySem.boot_len (pa_cons (pv 0) pa_nil)) pa_nil)) (pg_name (i := 3) sc_freed.nd rfl (Or.inl rfl))
    (pss_one (ps_for PassesOwn.never rfl (pi_range1 rfl T.bi_range (pa_cons (pe_callB call_lenq (by rfl) T.bi_len PySem.boot_len (pa_cons (pv 0) pa_nil)) pa_nil)) (pg_name (i := 4) sc_freed.nd rfl (Or.inl rfl))
    (pss_one (ps_if (pt_not (pt_val (pe_ix ix_list (pv 2) (pv 4) (fun _ _ => rfl))))
    (pss_cons (ps_setLc (i := 6) (own := [("_law_one", 5)]) (g := (gName 5)) (tt := (tB (tOp (rIxL K) (tVar 2) (tVar 5)))) (te := (tVar 5)) rfl sc_freed.nd rfl rfl (sw_true rfl rfl rfl (by decide +kernel)) (pi_list (pe_ix ix_tup (pe_ix ix_list (pv 0) (pv 4) (fun _ _ => rfl)) pe_int (fun _ _ => rfl))) (blkOk_by (own := [("_law_one", 5)]) (N := ["_law_waits_here", "_law_wait", "_law_free", "_law_turn", "_law_hand", "_law_one", "_law_come", "_law_whole"]) (sc := defScope s_freed) (by decide +kernel)) (fun _ _ _ _ _ => (pg_name (i := 5) sc_freed.nd rfl (Or.inl rfl))) (fun _ _ _ _ _ => (pts_one (pt_val (pe_ix ix_list (pv 2) (pv 5) (fun _ _ => rfl))))) (fun _ _ _ _ _ => (pv 5)))
    (pss_cons (ps_set (i := 7) sc_freed.nd rfl (Or.inl rfl) (pe_cmpR op_eq (pe_callB call_lenq (by rfl) T.bi_len PySem.boot_len (pa_cons (pv 6) pa_nil)) (pe_callB call_lenq (by rfl) T.bi_len PySem.boot_len (pa_cons (pe_ix ix_tup (pe_ix ix_list (pv 0) (pv 4) (fun _ _ => rfl)) pe_int (fun _ _ => rfl)) pa_nil)) (nomark _)))
    (pss_one (ps_asg (pe_and (pe_cmpR (op_neD hr.units) (pv 6) (pe_lst pa_nil) (nomark _)) (pe_one (pe_or (pe_cmpR op_eq (pe_ix ix_tup (pe_ix ix_list (pv 0) (pv 4) (fun _ _ => rfl)) pe_int (fun _ _ => rfl)) pe_str (nomark _)) (pe_one (pv 7))))) (pg_sub (pv 2) (pv 4) set_list)))))
    pss_nil)))))
    (pss_one (ps_ret (pv 2))))),
    rd_freed h⟩
theorem ok_asking (T : Tx K mg A) : FnOk P w K mg base CX0 1 T.f_asking T.fd_asking ["_law_waits_here", "_law_asker"] (sp_asking K A) := by
  refine T.F_asking.ok sc_asking (fun vs H Q E h => by obtain ⟨a, b, rfl, h⟩ := h; rfl) (fun cdv A0 outer s H vs Q E hr h => ?_)
  have hu := hu_of hr
  obtain ⟨a, b, rfl, h⟩ := h
  exact ⟨t_asking K A, (pss_cons (ps_set (i := 2) sc_asking.nd rfl (Or.inl rfl) (pe_lst pa_nil))
    (pss_cons (ps_set (i := 3) sc_asking.nd rfl (Or.inl rfl) (pe_lst (pa_cons (pv 1) pa_nil)))
    (pss_cons (ps_while PassesOwn.never (pt_truth (pv 3) (by intro _; rfl))
    (pss_cons (ps_set (i := 4) sc_asking.nd rfl (Or.inl rfl) (pe_bm0 PySem.F.plainAttrs_list PySem.F.slot_list_pop PySem.F.type_list_pop mt_pop (pv 3)))
    (pss_one (ps_if (pt_cmpR op_notIn_seq (pv 4) (pv 2) rfl)
    (pss_cons (ps_expr (pe_bm PySem.F.plainAttrs_list PySem.F.slot_list_append PySem.F.type_list_append mt_append (pv 2) (pa_cons (pv 4) pa_nil)))
    (pss_one (ps_if (pt_cmpR op_notNq (pe_ix ix_list (pv 0) (pv 4) (fun _ _ => rfl)) pe_non (nomark _))
    (pss_one (ps_expr (pe_bm PySem.F.plainAttrs_list PySem.F.slot_list_extend PySem.F.type_list_extend mt_extend (pv 3) (pa_cons (pe_ix ix_tup (pe_ix ix_list (pv 0) (pv 4) (fun _ _ => rfl)) pe_int (fun _ _ => rfl)) pa_nil))))
    pss_nil)))
    pss_nil))))
    (pss_one (ps_ret (pv 2)))))),
    rd_asking h⟩
theorem ok_seen (T : Tx K mg A) : FnOk P w K mg base CX0 5 T.f_seen T.fd_seen ["_law_net", "_law_size"] (sp_seen K A) := by
  refine T.F_seen.ok sc_seen (fun vs H Q E h => by obtain ⟨a, b, rfl, h⟩ := h; rfl) (fun cdv A0 outer s H vs Q E hr h => ?_)
  have hu := hu_of hr
  obtain ⟨a, b, rfl, h⟩ := h
  exact ⟨t_seen K A, (pss_cons (ps_setLc (i := 3) (own := [("_law_hand", 2)]) (g := (gName 2)) (tt := tYes) (te := (tMeth A.cNet "freed_yet" (sp_Net_freed_yet K A) [] E0 (tVar 0) (tCons (tVar 2) tNil))) rfl sc_seen.nd rfl rfl (sw_true rfl rfl rfl (by decide +kernel)) (pi_range1 rfl T.bi_range (pa_cons (pv 1) pa_nil)) (blkOk_by (own := [("_law_hand", 2)]) (N := ["_law_net", "_law_size", "_law_hand", "_law_told"]) (sc := defScope s_seen) (by decide +kernel)) (fun _ _ _ _ _ => (pg_name (i := 2) sc_seen.nd rfl (Or.inl rfl))) (fun _ _ _ _ _ => pts_nil) (fun _ _ _ _ _ => (pe_meth (pv 0) T.cl_Net T.me_Net_freed_yet (ok_Net_freed_yet T) (hr.mono (by decide)) T.b_Net_freed_yet .nil pass0 (pa_cons (pv 2) pa_nil))))
    (pss_one (ps_ret (pe_tup (pa_cons (pv 3) (pa_cons (pe_meth0 (pv 0) T.cl_Net T.me_Net_shown (ok_Net_shown T) (hr.mono (by decide)) T.b_Net_shown .nil pass0) (pa_cons (pe_meth0 (pv 0) T.cl_Net T.me_Net_letters (ok_Net_letters T) (hr.mono (by decide)) T.b_Net_letters .nil pass0) (pa_cons (pe_meth0 (pv 0) T.cl_Net T.me_Net_sent (ok_Net_sent T) (hr.mono (by decide)) T.b_Net_sent .nil pass0) (pa_cons (pe_meth0 (pv 0) T.cl_Net T.me_Net_rung (ok_Net_rung T) (hr.mono (by decide)) T.b_Net_rung .nil pass0) pa_nil))))))))),
    rd_seen h⟩
theorem ok_right (T : Tx K mg A) : FnOk P w K mg base CX0 1 T.f_right T.fd_right ["_law_seen_here", "_law_before", "_law_free"] (sp_right K A) := by
  refine T.F_right.ok sc_right (fun vs H Q E h => by obtain ⟨a, b, c, rfl, h⟩ := h; rfl) (fun cdv A0 outer s H vs Q E hr h => ?_)
  have hu := hu_of hr
  obtain ⟨a, b, c, rfl, h⟩ := h
  exact ⟨t_right K A, (pss_cons (ps_for PassesOwn.never rfl (pi_range1 rfl T.bi_range (pa_cons (pe_callB call_lenq (by rfl) T.bi_len PySem.boot_len (pa_cons (pv 2) pa_nil)) pa_nil)) (pg_name (i := 3) sc_right.nd rfl (Or.inl rfl))
    (pss_cons (ps_set (i := 4) sc_right.nd rfl (Or.inl rfl) (pe_ix ix_list (pe_ix ix_tup (pv 0) pe_int (fun _ _ => rfl)) (pv 3) (fun _ _ => rfl)))
    (pss_one (ps_if (PW.pt (pw_or (pt_not (pt_val (pe_callB call_isi (by rfl) T.bi_isinstance (by decide +kernel) (pa_cons (pv 4) (pa_cons (pe_bltn (by rfl) T.bi_bool (by decide +kernel) rfl) pa_nil))))) (pw_or (PW.pt (pw_and (pt_val (pv 4)) (pw_and1 (pt_not (pt_val (pe_ix ix_list (pv 2) (pv 3) (fun _ _ => rfl))))))) (pw_or1 (PW.pt (pw_and (pt_val (pe_ix ix_list (pe_ix ix_tup (pv 1) pe_int (fun _ _ => rfl)) (pv 3) (fun _ _ => rfl))) (pw_and1 (pt_not (pt_val (pv 4))))))))))
    (pss_one (ps_ret pe_bl))
    pss_nil))))
    (pss_cons (ps_set (i := 5) sc_right.nd rfl (Or.inl rfl) (pe_ix ix_tup (pv 0) pe_int (fun _ _ => rfl)))
    (pss_cons (ps_if (PW.pt (pw_or (pt_not (pt_val (pe_callB call_isi (by rfl) T.bi_isinstance (by decide +kernel) (pa_cons (pv 5) (pa_cons (pe_bltn (by rfl) T.bi_list (by decide +kernel) rfl) pa_nil))))) (pw_or1 (pt_cmpR (op_neD hr.units) (pv 5) (pe_callB cr_sorted (by rfl) T.bi_sorted (by decide +kernel) (pa_cons (pv 5) pa_nil)) (nomark _)))))
    (pss_one (ps_ret pe_bl))
    pss_nil)
    (pss_cons (ps_for PassesOwn.never rfl (pi_list (pv 5)) (pg_name (i := 6) sc_right.nd rfl (Or.inl rfl))
    (pss_one (ps_if (PW.pt (pw_or (pt_val (pe_callB call_isi (by rfl) T.bi_isinstance (by decide +kernel) (pa_cons (pv 6) (pa_cons (pe_bltn (by rfl) T.bi_bool (by decide +kernel) rfl) pa_nil)))) (pw_or (pt_not (pt_val (pe_callB call_isi (by rfl) T.bi_isinstance (by decide +kernel) (pa_cons (pv 6) (pa_cons (pe_bltn (by rfl) T.bi_int (by decide +kernel) rfl) pa_nil))))) (pw_or (pt_val (pe_ix ix_list (pe_ix ix_tup (pv 0) pe_int (fun _ _ => rfl)) (pv 6) (fun _ _ => rfl))) (pw_or1 (pt_cmpR op_gt (pe_bm PySem.F.plainAttrs_list PySem.F.slot_list_count PySem.F.type_list_count mt_lcount (pv 5) (pa_cons (pv 6) pa_nil)) pe_int (nomark _)))))))
    (pss_one (ps_ret pe_bl))
    pss_nil)))
    (pss_cons (ps_for PassesOwn.never rfl (pi_list (pe_ix ix_tup (pv 1) pe_int (fun _ _ => rfl))) (pg_name (i := 6) sc_right.nd rfl (Or.inl rfl))
    (pss_one (ps_if (PW.pt (pw_and (pt_cmpR op_notIn_seq (pv 6) (pv 5) rfl) (pw_and1 (pt_not (pt_val (pe_ix ix_list (pe_ix ix_tup (pv 0) pe_int (fun _ _ => rfl)) (pv 6) (fun _ _ => rfl)))))))
    (pss_one (ps_ret pe_bl))
    pss_nil)))
    (pss_one (ps_ret pe_bl))))))),
    rd_right h⟩
theorem ok_ended (T : Tx K mg A) : FnOk P w K mg base CX0 6 T.f_ended T.fd_ended ["_law_net", "_law_waits_here", "_law_asker", "_law_free"] (sp_ended K A) := by
  refine T.F_ended.ok sc_ended (fun vs H Q E h => by obtain ⟨a, b, c, d, rfl, h⟩ := h; rfl) (fun cdv A0 outer s H vs Q E hr h => ?_)
  have hu := hu_of hr
  obtain ⟨a, b, c, d, rfl, h⟩ := h
  exact ⟨t_ended K A, (pss_cons (ps_for PassesOwn.never rfl (pi_range1 rfl T.bi_range (pa_cons pe_int pa_nil)) (pg_name (i := 4) sc_ended.nd rfl (Or.inl rfl))
    (Evl.pss_cut (ps_if (pt_cmpR (op_eqD hr.units) (pe_meth0 (pv 0) T.cl_Net T.me_Net_letters (ok_Net_letters T) (hr.mono (by decide)) T.b_Net_letters .nil pass0) (pe_lst pa_nil) (nomark _))
    (pss_one ps_break)
    pss_nil)
    (pss_one (ps_expr (pe_meth (pv 0) T.cl_Net T.me_Net_bring (ok_Net_bring T) (hr.mono (by decide)) T.b_Net_bring .nil pass0 (pa_cons (pe_op op_sub (pe_callB call_lenq (by rfl) T.bi_len PySem.boot_len (pa_cons (pe_meth0 (pv 0) T.cl_Net T.me_Net_letters (ok_Net_letters T) (hr.mono (by decide)) T.b_Net_letters .nil pass0) pa_nil)) pe_int) pa_nil))))))
    (pss_cons (ps_setLc (i := 6) (own := [("_law_hand", 5)]) (g := (gName 5)) (tt := tYes) (te := (tMeth A.cNet "freed_yet" (sp_Net_freed_yet K A) [] E0 (tVar 0) (tCons (tVar 5) tNil))) rfl sc_ended.nd rfl rfl (sw_true rfl rfl rfl (by decide +kernel)) (pi_list (pe_call (ok_asking T) (hr.mono (by decide)) rfl T.m_asking T.F_asking.kp T.b_asking .nil pass0 (pa_cons (pv 1) (pa_cons (pv 2) pa_nil)))) (blkOk_by (own := [("_law_hand", 5)]) (N := ["_law_net", "_law_waits_here", "_law_asker", "_law_free", "_law_turn", "_law_hand", "_law_told"]) (sc := defScope s_ended) (by decide +kernel)) (fun _ _ _ _ _ => (pg_name (i := 5) sc_ended.nd rfl (Or.inl rfl))) (fun _ _ _ _ _ => pts_nil) (fun _ _ _ _ _ => (pe_meth (pv 0) T.cl_Net T.me_Net_freed_yet (ok_Net_freed_yet T) (hr.mono (by decide)) T.b_Net_freed_yet .nil pass0 (pa_cons (pv 5) pa_nil))))
    (pss_one (ps_ret (pe_and (pe_cmpR (op_eqD hr.units) (pe_meth0 (pv 0) T.cl_Net T.me_Net_letters (ok_Net_letters T) (hr.mono (by decide)) T.b_Net_letters .nil pass0) (pe_lst pa_nil) (nomark _)) (pe_one (pe_cmpR (op_eqD hr.units) (pv 6) (pe_lc (own := [("_law_hand", 5)]) (g := (gName 5)) (tt := tYes) (te := (tOp (rIxL K) (tVar 3) (tVar 5))) rfl sc_ended.nd (pi_list (pe_call (ok_asking T) (hr.mono (by decide)) rfl T.m_asking T.F_asking.kp T.b_asking .nil pass0 (pa_cons (pv 1) (pa_cons (pv 2) pa_nil)))) (blkOk_by (own := [("_law_hand", 5)]) (N := ["_law_net", "_law_waits_here", "_law_asker", "_law_free", "_law_turn", "_law_hand", "_law_told"]) (sc := defScope s_ended) (by decide +kernel)) (fun _ _ _ _ _ => (pg_name (i := 5) sc_ended.nd rfl (Or.inl rfl))) (fun _ _ _ _ _ => pts_nil) (fun _ _ _ _ _ => (pe_ix ix_list (pv 3) (pv 5) (fun _ _ => rfl)))) (nomark _)))))))),
    rd_ended h⟩
theorem ok_law (T : Tx K mg A) : FnOk P w K mg base CX0 7 T.f_law T.fd_law ["_law_script"] (sp_law K A) := by
  refine T.F_law.ok sc_law (fun vs H Q E h => by obtain ⟨a, rfl, h⟩ := h; rfl) (fun cdv A0 outer s H vs Q E hr h => ?_)
  have hu := hu_of hr
  obtain ⟨a, rfl, h⟩ := h
  exact ⟨t_law K A, (pss_cons (ps_set (i := 1) sc_law.nd rfl (Or.inl rfl) (pe_call (ok_waits T) (hr.mono (by decide)) rfl T.m_waits T.F_waits.kp T.b_waits .nil pass0 (pa_cons (pv 0) pa_nil)))
    (pss_cons (ps_set (i := 2) sc_law.nd rfl (Or.inr rfl) (pe_callB call_lenq (by rfl) T.bi_len PySem.boot_len (pa_cons (pv 1) pa_nil)))
    (pss_cons (ps_set (i := 3) sc_law.nd rfl (Or.inl rfl) (pe_call (ok_freed T) (hr.mono (by decide)) rfl T.m_freed T.F_freed.kp T.b_freed .nil pass0 (pa_cons (pv 1) pa_nil)))
    (pss_cons (ps_set (i := 4) sc_law.nd rfl (Or.inl rfl) (pe_lst (pa_cons (pe_op op_mod (pe_call (ok_cell_at T) (hr.mono (by decide)) rfl T.m_cell_at T.F_cell_at.kp T.b_cell_at .nil pass0 (pa_cons (pv 0) (pa_cons pe_int pa_nil))) (pv 2)) (pa_cons (pe_op op_mod (pe_call (ok_cell_at T) (hr.mono (by decide)) rfl T.m_cell_at T.F_cell_at.kp T.b_cell_at .nil pass0 (pa_cons (pv 0) (pa_cons pe_int pa_nil))) (pv 2)) pa_nil))))
    (pss_cons (ps_set (i := 5) sc_law.nd rfl (Or.inl rfl) (pe_call (ok_waits T) (hr.mono (by decide)) rfl T.m_waits T.F_waits.kp T.b_waits .nil pass0 (pa_cons (pv 0) pa_nil)))
    (pss_cons (ps_set (i := 6) sc_law.nd rfl (Or.inl rfl) (pe_lst (pa_cons (pe_make T.mk_Net (ok_Net_init T) (hr.mono (by decide)) rfl T.gc_Net T.b_Net_init .nil pass0 (pa_cons (pv 5) (pa_cons (pe_ix ix_list (pv 4) pe_int (fun _ _ => rfl)) pa_nil))) (pa_cons (pe_make T.mk_Net (ok_Net_init T) (hr.mono (by decide)) rfl T.gc_Net T.b_Net_init .nil pass0 (pa_cons (pv 5) (pa_cons (pe_ix ix_list (pv 4) pe_int (fun _ _ => rfl)) pa_nil))) pa_nil))))
    (pss_cons (ps_if (pt_cmpR (op_neD hr.units) (pv 5) (pv 1) (nomark _))
    (pss_one (ps_ret pe_bl))
    pss_nil)
    (pss_cons (ps_for PassesOwn.never rfl (pi_list (pv 5)) (pg_name (i := 7) sc_law.nd rfl (Or.inl rfl))
    (pss_one (ps_if (pt_cmpR op_notNq (pv 7) pe_non (nomark _))
    (pss_one (ps_expr (pe_bm0 PySem.F.plainAttrs_list PySem.F.slot_list_clear PySem.F.type_list_clear mt_clear (pe_ix ix_tup (pv 7) pe_int (fun _ _ => rfl)))))
    pss_nil)))
    (pss_cons (ps_expr (pe_bm PySem.F.plainAttrs_list PySem.F.slot_list_append PySem.F.type_list_append mt_append (pv 5) (pa_cons pe_non pa_nil)))
    (pss_cons (ps_setLc (i := 9) (own := [("_law_net", 8)]) (g := (gName 8)) (tt := tYes) (te := (tCall (sp_seen K A) [] E0 (tCons (tVar 8) (tCons (tVar 2) tNil)))) rfl sc_law.nd rfl rfl (sw_true rfl rfl rfl (by decide +kernel)) (pi_list (pv 6)) (blkOk_by (own := [("_law_net", 8)]) (N := ["_law_script", "_law_waits_here", "_law_size", "_law_free", "_law_askers", "_law_handed", "_law_nets", "_law_wait", "_law_net", "_law_seen_here", "_law_turn", "_law_which", "_law_many", "_law_now"]) (sc := defScope s_law) (by decide +kernel)) (fun _ _ _ _ _ => (pg_name (i := 8) sc_law.nd rfl (Or.inl rfl))) (fun _ _ _ _ _ => pts_nil) (fun _ _ _ _ _ => (pe_call (ok_seen T) (hr.mono (by decide)) rfl T.m_seen T.F_seen.kp T.b_seen .nil pass0 (pa_cons (pv 8) (pa_cons (pv 2) pa_nil)))))
    (pss_cons (ps_for PassesOwn.never rfl (pi_range1 rfl T.bi_range (pa_cons pe_int pa_nil)) (pg_name (i := 10) sc_law.nd rfl (Or.inl rfl))
    (pss_cons (ps_set (i := 11) sc_law.nd rfl (Or.inl rfl) (pe_op op_mod (pe_call (ok_mixed T) (hr.mono (by decide)) rfl T.m_mixed T.F_mixed.kp T.b_mixed .nil pass0 (pa_cons (pv 0) (pa_cons (pe_op op_add pe_int (pe_op op_mod (pv 10) pe_int)) (pa_cons (pv 10) pa_nil)))) pe_int))
    (pss_cons (ps_set (i := 12) sc_law.nd rfl (Or.inl rfl) (pe_callB call_lenq (by rfl) T.bi_len PySem.boot_len (pa_cons (pe_meth0 (pe_ix ix_list (pv 6) (pv 11) (fun _ _ => rfl)) T.cl_Net T.me_Net_letters (ok_Net_letters T) (hr.mono (by decide)) T.b_Net_letters .nil pass0) pa_nil)))
    (Evl.pss_cut (ps_if (pt_cmpR op_gt (pv 12) pe_int (nomark _))
    (pss_one (ps_expr (pe_meth (pe_ix ix_list (pv 6) (pv 11) (fun _ _ => rfl)) T.cl_Net T.me_Net_bring (ok_Net_bring T) (hr.mono (by decide)) T.b_Net_bring .nil pass0 (pa_cons (pe_op op_mod (pe_op op_fdiv (pe_call (ok_mixed T) (hr.mono (by decide)) rfl T.m_mixed T.F_mixed.kp T.b_mixed .nil pass0 (pa_cons (pv 0) (pa_cons (pe_op op_add pe_int (pe_op op_mod (pv 10) pe_int)) (pa_cons (pv 10) pa_nil)))) pe_int) (pv 12)) pa_nil))))
    pss_nil)
    (pss_cons (ps_setLc (i := 13) (own := [("_law_net", 8)]) (g := (gName 8)) (tt := tYes) (te := (tCall (sp_seen K A) [] E0 (tCons (tVar 8) (tCons (tVar 2) tNil)))) rfl sc_law.nd rfl rfl (sw_true rfl rfl rfl (by decide +kernel)) (pi_list (pv 6)) (blkOk_by (own := [("_law_net", 8)]) (N := ["_law_script", "_law_waits_here", "_law_size", "_law_free", "_law_askers", "_law_handed", "_law_nets", "_law_wait", "_law_net", "_law_seen_here", "_law_turn", "_law_which", "_law_many", "_law_now"]) (sc := defScope s_law) (by decide +kernel)) (fun _ _ _ _ _ => (pg_name (i := 8) sc_law.nd rfl (Or.inl rfl))) (fun _ _ _ _ _ => pts_nil) (fun _ _ _ _ _ => (pe_call (ok_seen T) (hr.mono (by decide)) rfl T.m_seen T.F_seen.kp T.b_seen .nil pass0 (pa_cons (pv 8) (pa_cons (pv 2) pa_nil)))))
    (pss_cons (ps_if (PW.pt (pw_or (pt_cmpR (op_neD hr.units) (pe_ix ix_list (pv 13) (pe_op op_sub pe_int (pv 11)) (fun _ _ => rfl)) (pe_ix ix_list (pv 9) (pe_op op_sub pe_int (pv 11)) (fun _ _ => rfl)) (nomark _)) (pw_or1 (pt_not (pt_val (pe_call (ok_right T) (hr.mono (by decide)) rfl T.m_right T.F_right.kp T.b_right .nil pass0 (pa_cons (pe_ix ix_list (pv 13) (pv 11) (fun _ _ => rfl)) (pa_cons (pe_ix ix_list (pv 9) (pv 11) (fun _ _ => rfl)) (pa_cons (pv 3) pa_nil)))))))))
    (pss_one (ps_ret pe_bl))
    pss_nil)
    (pss_one (ps_set (i := 9) sc_law.nd rfl (Or.inl rfl) (pv 13)))))))))
    (pss_one (ps_ret (pe_call (ok_ended T) (hr.mono (by decide)) rfl T.m_ended T.F_ended.kp T.b_ended .nil pass0 (pa_cons (pe_ix ix_list (pv 6) pe_int (fun _ _ => rfl)) (pa_cons (pv 1) (pa_cons (pe_ix ix_list (pv 4) pe_int (fun _ _ => rfl)) (pa_cons (pv 3) pa_nil)))))))))))))))))),
    rd_law h⟩
end
theorem all_mk {l : PySem.W.OpenLaw} {w : World} {K : PySem.W.Frag} {h : Heap} {mg : Str → Option Value} {fa : Addr} (X : K.In h) (G : h.Ns mainGlobals mg) (hfa : mg "law" = some (.ref fa))
    {cHand : Addr} {cNet : Addr} {f1 : Addr} {od1 an1 : Option Addr} {sl1 : Array (Option Value)} {oc1 kV1 dc1 pm1 cd1 ct1 : Value} {f2 : Addr} {od2 an2 : Option Addr} {sl2 : Array (Option Value)} {oc2 kV2 dc2 pm2 cd2 ct2 : Value} {f3 : Addr} {od3 an3 : Option Addr} {sl3 : Array (Option Value)} {oc3 kV3 dc3 pm3 cd3 ct3 : Value} {f4 : Addr} {od4 an4 : Option Addr} {sl4 : Array (Option Value)} {oc4 kV4 dc4 pm4 cd4 ct4 : Value} {f5 : Addr} {od5 an5 : Option Addr} {sl5 : Array (Option Value)} {oc5 kV5 dc5 pm5 cd5 ct5 : Value} {f6 : Addr} {od6 an6 : Option Addr} {sl6 : Array (Option Value)} {oc6 kV6 dc6 pm6 cd6 ct6 : Value} {f7 : Addr} {od7 an7 : Option Addr} {sl7 : Array (Option Value)} {oc7 kV7 dc7 pm7 cd7 ct7 : Value} {f8 : Addr} {od8 an8 : Option Addr} {sl8 : Array (Option Value)} {oc8 kV8 dc8 pm8 cd8 ct8 : Value} {f9 : Addr} {od9 an9 : Option Addr} {sl9 : Array (Option Value)} {oc9 kV9 dc9 pm9 cd9 ct9 : Value} {f10 : Addr} {od10 an10 : Option Addr} {sl10 : Array (Option Value)} {oc10 kV10 dc10 pm10 cd10 ct10 : Value} {f11 : Addr} {od11 an11 : Option Addr} {sl11 : Array (Option Value)} {oc11 kV11 dc11 pm11 cd11 ct11 : Value} {f12 : Addr} {od12 an12 : Option Addr} {sl12 : Array (Option Value)} {oc12 kV12 dc12 pm12 cd12 ct12 : Value} {f13 : Addr} {od13 an13 : Option Addr} {sl13 : Array (Option Value)} {oc13 kV13 dc13 pm13 cd13 ct13 : Value} {f14 : Addr} {od14 an14 : Option Addr} {sl14 : Array (Option Value)} {oc14 kV14 dc14 pm14 cd14 ct14 : Value} {f15 : Addr} {od15 an15 : Option Addr} {sl15 : Array (Option Value)} {oc15 kV15 dc15 pm15 cd15 ct15 : Value} {f16 : Addr} {od16 an16 : Option Addr} {sl16 : Array (Option Value)} {oc16 kV16 dc16 pm16 cd16 ct16 : Value} {f17 : Addr} {od17 an17 : Option Addr} {sl17 : Array (Option Value)} {oc17 kV17 dc17 pm17 cd17 ct17 : Value} {f18 : Addr} {od18 an18 : Option Addr} {sl18 : Array (Option Value)} {oc18 kV18 dc18 pm18 cd18 ct18 : Value} {f19 : Addr} {od19 an19 : Option Addr} {sl19 : Array (Option Value)} {oc19 kV19 dc19 pm19 cd19 ct19 : Value} {f20 : Addr} {od20 an20 : Option Addr} {sl20 : Array (Option Value)} {oc20 kV20 dc20 pm20 cd20 ct20 : Value} {f21 : Addr} {od21 an21 : Option Addr} {sl21 : Array (Option Value)} {oc21 kV21 dc21 pm21 cd21 ct21 : Value} {f22 : Addr} {od22 an22 : Option Addr} {sl22 : Array (Option Value)} {oc22 kV22 dc22 pm22 cd22 ct22 : Value} {f23 : Addr} {od23 an23 : Option Addr} {sl23 : Array (Option Value)} {oc23 kV23 dc23 pm23 cd23 ct23 : Value} {f24 : Addr} {od24 an24 : Option Addr} {sl24 : Array (Option Value)} {oc24 kV24 dc24 pm24 cd24 ct24 : Value} {f25 : Addr} {od25 an25 : Option Addr} {sl25 : Array (Option Value)} {oc25 kV25 dc25 pm25 cd25 ct25 : Value} {f26 : Addr} {od26 an26 : Option Addr} {sl26 : Array (Option Value)} {oc26 kV26 dc26 pm26 cd26 ct26 : Value} {f27 : Addr} {od27 an27 : Option Addr} {sl27 : Array (Option Value)} {oc27 kV27 dc27 pm27 cd27 ct27 : Value} {f28 : Addr} {od28 an28 : Option Addr} {sl28 : Array (Option Value)} {oc28 kV28 dc28 pm28 cd28 ct28 : Value} {f29 : Addr} {od29 an29 : Option Addr} {sl29 : Array (Option Value)} {oc29 kV29 dc29 pm29 cd29 ct29 : Value} {tMOST_HANDS : Tok} {aW : Addr} {dW0 : Option Addr} {t1W t2W : Tok} {nW : Nat} {slW : Array (Option Value)}
    (gHand : PySem.W.nsIn K mainGlobals "Hand" = some (some (.ref cHand)))
    (gNet : PySem.W.nsIn K mainGlobals "Net" = some (some (.ref cNet)))
    (a1 : PySem.W.findIn K (.ref cHand) "__init__" = some (some (.ref f1)))
    (i1 : PySem.W.isFn K (.ref f1) = true)
    (l1 : K.lookup f1 = some ⟨oc1, od1, .func (PySem.W.fnOf "__init__" "Hand.__init__" (defArgs s_Hand_init) (defBody s_Hand_init) (defScope s_Hand_init) .none kV1 dc1 pm1 an1 cd1 ct1), sl1⟩)
    (c1 : PySem.W.codeIn K cd1 "Hand.__init__" = true)
    (k1 : PySem.W.keepIn K (.ref f1) = true)
    (mkHand : PySem.W.makesIn K cHand = true)
    (kcHand : PySem.W.keepIn K (.ref cHand) = true)
    (a2 : PySem.W.findIn K (.ref cHand) "posted" = some (some (.ref f2)))
    (i2 : PySem.W.isFn K (.ref f2) = true)
    (l2 : K.lookup f2 = some ⟨oc2, od2, .func (PySem.W.fnOf "posted" "Hand.posted" (defArgs s_Hand_posted) (defBody s_Hand_posted) (defScope s_Hand_posted) .none kV2 dc2 pm2 an2 cd2 ct2), sl2⟩)
    (c2 : PySem.W.codeIn K cd2 "Hand.posted" = true)
    (k2 : PySem.W.keepIn K (.ref f2) = true)
    (a3 : PySem.W.findIn K (.ref cHand) "asking" = some (some (.ref f3)))
    (i3 : PySem.W.isFn K (.ref f3) = true)
    (l3 : K.lookup f3 = some ⟨oc3, od3, .func (PySem.W.fnOf "asking" "Hand.asking" (defArgs s_Hand_asking) (defBody s_Hand_asking) (defScope s_Hand_asking) .none kV3 dc3 pm3 an3 cd3 ct3), sl3⟩)
    (c3 : PySem.W.codeIn K cd3 "Hand.asking" = true)
    (k3 : PySem.W.keepIn K (.ref f3) = true)
    (a4 : PySem.W.findIn K (.ref cHand) "begin" = some (some (.ref f4)))
    (i4 : PySem.W.isFn K (.ref f4) = true)
    (l4 : K.lookup f4 = some ⟨oc4, od4, .func (PySem.W.fnOf "begin" "Hand.begin" (defArgs s_Hand_begin) (defBody s_Hand_begin) (defScope s_Hand_begin) .none kV4 dc4 pm4 an4 cd4 ct4), sl4⟩)
    (c4 : PySem.W.codeIn K cd4 "Hand.begin" = true)
    (k4 : PySem.W.keepIn K (.ref f4) = true)
    (a5 : PySem.W.findIn K (.ref cHand) "asked_by" = some (some (.ref f5)))
    (i5 : PySem.W.isFn K (.ref f5) = true)
    (l5 : K.lookup f5 = some ⟨oc5, od5, .func (PySem.W.fnOf "asked_by" "Hand.asked_by" (defArgs s_Hand_asked_by) (defBody s_Hand_asked_by) (defScope s_Hand_asked_by) .none kV5 dc5 pm5 an5 cd5 ct5), sl5⟩)
    (c5 : PySem.W.codeIn K cd5 "Hand.asked_by" = true)
    (k5 : PySem.W.keepIn K (.ref f5) = true)
    (a6 : PySem.W.findIn K (.ref cHand) "told_by" = some (some (.ref f6)))
    (i6 : PySem.W.isFn K (.ref f6) = true)
    (l6 : K.lookup f6 = some ⟨oc6, od6, .func (PySem.W.fnOf "told_by" "Hand.told_by" (defArgs s_Hand_told_by) (defBody s_Hand_told_by) (defScope s_Hand_told_by) .none kV6 dc6 pm6 an6 cd6 ct6), sl6⟩)
    (c6 : PySem.W.codeIn K cd6 "Hand.told_by" = true)
    (k6 : PySem.W.keepIn K (.ref f6) = true)
    (a7 : PySem.W.findIn K (.ref cHand) "come" = some (some (.ref f7)))
    (i7 : PySem.W.isFn K (.ref f7) = true)
    (l7 : K.lookup f7 = some ⟨oc7, od7, .func (PySem.W.fnOf "come" "Hand.come" (defArgs s_Hand_come) (defBody s_Hand_come) (defScope s_Hand_come) .none kV7 dc7 pm7 an7 cd7 ct7), sl7⟩)
    (c7 : PySem.W.codeIn K cd7 "Hand.come" = true)
    (k7 : PySem.W.keepIn K (.ref f7) = true)
    (a8 : PySem.W.nsIn K mainGlobals "is_hand" = some (some (.ref f8)))
    (l8 : K.lookup f8 = some ⟨oc8, od8, .func (PySem.W.fnOf "is_hand" "is_hand" (defArgs s_is_hand) (defBody s_is_hand) (defScope s_is_hand) .none kV8 dc8 pm8 an8 cd8 ct8), sl8⟩)
    (c8 : PySem.W.codeIn K cd8 "is_hand" = true)
    (k8 : PySem.W.keepIn K (.ref f8) = true)
    (a9 : PySem.W.nsIn K mainGlobals "is_wait" = some (some (.ref f9)))
    (l9 : K.lookup f9 = some ⟨oc9, od9, .func (PySem.W.fnOf "is_wait" "is_wait" (defArgs s_is_wait) (defBody s_is_wait) (defScope s_is_wait) .none kV9 dc9 pm9 an9 cd9 ct9), sl9⟩)
    (c9 : PySem.W.codeIn K cd9 "is_wait" = true)
    (k9 : PySem.W.keepIn K (.ref f9) = true)
    (a10 : PySem.W.nsIn K mainGlobals "need" = some (some (.ref f10)))
    (l10 : K.lookup f10 = some ⟨oc10, od10, .func (PySem.W.fnOf "need" "need" (defArgs s_need) (defBody s_need) (defScope s_need) .none kV10 dc10 pm10 an10 cd10 ct10), sl10⟩)
    (c10 : PySem.W.codeIn K cd10 "need" = true)
    (k10 : PySem.W.keepIn K (.ref f10) = true)
    (a11 : PySem.W.nsIn K mainGlobals "need_hand" = some (some (.ref f11)))
    (l11 : K.lookup f11 = some ⟨oc11, od11, .func (PySem.W.fnOf "need_hand" "need_hand" (defArgs s_need_hand) (defBody s_need_hand) (defScope s_need_hand) .none kV11 dc11 pm11 an11 cd11 ct11), sl11⟩)
    (c11 : PySem.W.codeIn K cd11 "need_hand" = true)
    (k11 : PySem.W.keepIn K (.ref f11) = true)
    (a12 : PySem.W.findIn K (.ref cNet) "__init__" = some (some (.ref f12)))
    (i12 : PySem.W.isFn K (.ref f12) = true)
    (l12 : K.lookup f12 = some ⟨oc12, od12, .func (PySem.W.fnOf "__init__" "Net.__init__" (defArgs s_Net_init) (defBody s_Net_init) (defScope s_Net_init) .none kV12 dc12 pm12 an12 cd12 ct12), sl12⟩)
    (c12 : PySem.W.codeIn K cd12 "Net.__init__" = true)
    (k12 : PySem.W.keepIn K (.ref f12) = true)
    (mkNet : PySem.W.makesIn K cNet = true)
    (kcNet : PySem.W.keepIn K (.ref cNet) = true)
    (a13 : PySem.W.findIn K (.ref cNet) "letters" = some (some (.ref f13)))
    (i13 : PySem.W.isFn K (.ref f13) = true)
    (l13 : K.lookup f13 = some ⟨oc13, od13, .func (PySem.W.fnOf "letters" "Net.letters" (defArgs s_Net_letters) (defBody s_Net_letters) (defScope s_Net_letters) .none kV13 dc13 pm13 an13 cd13 ct13), sl13⟩)
    (c13 : PySem.W.codeIn K cd13 "Net.letters" = true)
    (k13 : PySem.W.keepIn K (.ref f13) = true)
    (a14 : PySem.W.findIn K (.ref cNet) "bring" = some (some (.ref f14)))
    (i14 : PySem.W.isFn K (.ref f14) = true)
    (l14 : K.lookup f14 = some ⟨oc14, od14, .func (PySem.W.fnOf "bring" "Net.bring" (defArgs s_Net_bring) (defBody s_Net_bring) (defScope s_Net_bring) .none kV14 dc14 pm14 an14 cd14 ct14), sl14⟩)
    (c14 : PySem.W.codeIn K cd14 "Net.bring" = true)
    (k14 : PySem.W.keepIn K (.ref f14) = true)
    (a15 : PySem.W.findIn K (.ref cNet) "sent" = some (some (.ref f15)))
    (i15 : PySem.W.isFn K (.ref f15) = true)
    (l15 : K.lookup f15 = some ⟨oc15, od15, .func (PySem.W.fnOf "sent" "Net.sent" (defArgs s_Net_sent) (defBody s_Net_sent) (defScope s_Net_sent) .none kV15 dc15 pm15 an15 cd15 ct15), sl15⟩)
    (c15 : PySem.W.codeIn K cd15 "Net.sent" = true)
    (k15 : PySem.W.keepIn K (.ref f15) = true)
    (a16 : PySem.W.findIn K (.ref cNet) "hand" = some (some (.ref f16)))
    (i16 : PySem.W.isFn K (.ref f16) = true)
    (l16 : K.lookup f16 = some ⟨oc16, od16, .func (PySem.W.fnOf "hand" "Net.hand" (defArgs s_Net_hand) (defBody s_Net_hand) (defScope s_Net_hand) .none kV16 dc16 pm16 an16 cd16 ct16), sl16⟩)
    (c16 : PySem.W.codeIn K cd16 "Net.hand" = true)
    (k16 : PySem.W.keepIn K (.ref f16) = true)
    (a17 : PySem.W.findIn K (.ref cNet) "rung" = some (some (.ref f17)))
    (i17 : PySem.W.isFn K (.ref f17) = true)
    (l17 : K.lookup f17 = some ⟨oc17, od17, .func (PySem.W.fnOf "rung" "Net.rung" (defArgs s_Net_rung) (defBody s_Net_rung) (defScope s_Net_rung) .none kV17 dc17 pm17 an17 cd17 ct17), sl17⟩)
    (c17 : PySem.W.codeIn K cd17 "Net.rung" = true)
    (k17 : PySem.W.keepIn K (.ref f17) = true)
    (a18 : PySem.W.findIn K (.ref cNet) "shown" = some (some (.ref f18)))
    (i18 : PySem.W.isFn K (.ref f18) = true)
    (l18 : K.lookup f18 = some ⟨oc18, od18, .func (PySem.W.fnOf "shown" "Net.shown" (defArgs s_Net_shown) (defBody s_Net_shown) (defScope s_Net_shown) .none kV18 dc18 pm18 an18 cd18 ct18), sl18⟩)
    (c18 : PySem.W.codeIn K cd18 "Net.shown" = true)
    (k18 : PySem.W.keepIn K (.ref f18) = true)
    (a19 : PySem.W.findIn K (.ref cNet) "freed_yet" = some (some (.ref f19)))
    (i19 : PySem.W.isFn K (.ref f19) = true)
    (l19 : K.lookup f19 = some ⟨oc19, od19, .func (PySem.W.fnOf "freed_yet" "Net.freed_yet" (defArgs s_Net_freed_yet) (defBody s_Net_freed_yet) (defScope s_Net_freed_yet) .none kV19 dc19 pm19 an19 cd19 ct19), sl19⟩)
    (c19 : PySem.W.codeIn K cd19 "Net.freed_yet" = true)
    (k19 : PySem.W.keepIn K (.ref f19) = true)
    (a20 : PySem.W.nsIn K mainGlobals "_law_cell_at" = some (some (.ref f20)))
    (l20 : K.lookup f20 = some ⟨oc20, od20, .func (PySem.W.fnOf "_law_cell_at" "_law_cell_at" (defArgs s_cell_at) (defBody s_cell_at) (defScope s_cell_at) .none kV20 dc20 pm20 an20 cd20 ct20), sl20⟩)
    (c20 : PySem.W.codeIn K cd20 "_law_cell_at" = true)
    (k20 : PySem.W.keepIn K (.ref f20) = true)
    (a21 : PySem.W.nsIn K mainGlobals "_law_mixed" = some (some (.ref f21)))
    (l21 : K.lookup f21 = some ⟨oc21, od21, .func (PySem.W.fnOf "_law_mixed" "_law_mixed" (defArgs s_mixed) (defBody s_mixed) (defScope s_mixed) .none kV21 dc21 pm21 an21 cd21 ct21), sl21⟩)
    (c21 : PySem.W.codeIn K cd21 "_law_mixed" = true)
    (k21 : PySem.W.keepIn K (.ref f21) = true)
    (a22 : PySem.W.nsIn K mainGlobals "_law_wait_by" = some (some (.ref f22)))
    (l22 : K.lookup f22 = some ⟨oc22, od22, .func (PySem.W.fnOf "_law_wait_by" "_law_wait_by" (defArgs s_wait_by) (defBody s_wait_by) (defScope s_wait_by) .none kV22 dc22 pm22 an22 cd22 ct22), sl22⟩)
    (c22 : PySem.W.codeIn K cd22 "_law_wait_by" = true)
    (k22 : PySem.W.keepIn K (.ref f22) = true)
    (a23 : PySem.W.nsIn K mainGlobals "_law_waits" = some (some (.ref f23)))
    (l23 : K.lookup f23 = some ⟨oc23, od23, .func (PySem.W.fnOf "_law_waits" "_law_waits" (defArgs s_waits) (defBody s_waits) (defScope s_waits) .none kV23 dc23 pm23 an23 cd23 ct23), sl23⟩)
    (c23 : PySem.W.codeIn K cd23 "_law_waits" = true)
    (k23 : PySem.W.keepIn K (.ref f23) = true)
    (a24 : PySem.W.nsIn K mainGlobals "_law_freed" = some (some (.ref f24)))
    (l24 : K.lookup f24 = some ⟨oc24, od24, .func (PySem.W.fnOf "_law_freed" "_law_freed" (defArgs s_freed) (defBody s_freed) (defScope s_freed) .none kV24 dc24 pm24 an24 cd24 ct24), sl24⟩)
    (c24 : PySem.W.codeIn K cd24 "_law_freed" = true)
    (k24 : PySem.W.keepIn K (.ref f24) = true)
    (a25 : PySem.W.nsIn K mainGlobals "_law_asking" = some (some (.ref f25)))
    (l25 : K.lookup f25 = some ⟨oc25, od25, .func (PySem.W.fnOf "_law_asking" "_law_asking" (defArgs s_asking) (defBody s_asking) (defScope s_asking) .none kV25 dc25 pm25 an25 cd25 ct25), sl25⟩)
    (c25 : PySem.W.codeIn K cd25 "_law_asking" = true)
    (k25 : PySem.W.keepIn K (.ref f25) = true)
    (a26 : PySem.W.nsIn K mainGlobals "_law_seen" = some (some (.ref f26)))
    (l26 : K.lookup f26 = some ⟨oc26, od26, .func (PySem.W.fnOf "_law_seen" "_law_seen" (defArgs s_seen) (defBody s_seen) (defScope s_seen) .none kV26 dc26 pm26 an26 cd26 ct26), sl26⟩)
    (c26 : PySem.W.codeIn K cd26 "_law_seen" = true)
    (k26 : PySem.W.keepIn K (.ref f26) = true)
    (a27 : PySem.W.nsIn K mainGlobals "_law_right" = some (some (.ref f27)))
    (l27 : K.lookup f27 = some ⟨oc27, od27, .func (PySem.W.fnOf "_law_right" "_law_right" (defArgs s_right) (defBody s_right) (defScope s_right) .none kV27 dc27 pm27 an27 cd27 ct27), sl27⟩)
    (c27 : PySem.W.codeIn K cd27 "_law_right" = true)
    (k27 : PySem.W.keepIn K (.ref f27) = true)
    (a28 : PySem.W.nsIn K mainGlobals "_law_ended" = some (some (.ref f28)))
    (l28 : K.lookup f28 = some ⟨oc28, od28, .func (PySem.W.fnOf "_law_ended" "_law_ended" (defArgs s_ended) (defBody s_ended) (defScope s_ended) .none kV28 dc28 pm28 an28 cd28 ct28), sl28⟩)
    (c28 : PySem.W.codeIn K cd28 "_law_ended" = true)
    (k28 : PySem.W.keepIn K (.ref f28) = true)
    (a29 : PySem.W.nsIn K mainGlobals "law" = some (some (.ref f29)))
    (l29 : K.lookup f29 = some ⟨oc29, od29, .func (PySem.W.fnOf "law" "law" (defArgs s_law) (defBody s_law) (defScope s_law) .none kV29 dc29 pm29 an29 cd29 ct29), sl29⟩)
    (c29 : PySem.W.codeIn K cd29 "law" = true)
    (k29 : PySem.W.keepIn K (.ref f29) = true)
    (pgHand : PySem.W.plainGet K cHand Str.empty = true)
    (hdHand : PySem.W.hasDictIn K cHand = true)
    (poHand : PySem.W.plainOver K cHand = true)
    (saHand : PySem.W.findIn K (.ref cHand) "__setattr__" = some (some (.builtin "object.__setattr__")))
    (nHand_number : PySem.W.findIn K (.ref cHand) "number" = some none)
    (nHand_word : PySem.W.findIn K (.ref cHand) "word" = some none)
    (nHand_others : PySem.W.findIn K (.ref cHand) "others" = some none)
    (nHand_is_asker : PySem.W.findIn K (.ref cHand) "is_asker" = some none)
    (nHand_is_freed : PySem.W.findIn K (.ref cHand) "is_freed" = some none)
    (nHand_has_asked : PySem.W.findIn K (.ref cHand) "has_asked" = some none)
    (nHand_askers : PySem.W.findIn K (.ref cHand) "askers" = some none)
    (nHand_told_so : PySem.W.findIn K (.ref cHand) "told_so" = some none)
    (nHand_owed : PySem.W.findIn K (.ref cHand) "owed" = some none)
    (nHand_waker : PySem.W.findIn K (.ref cHand) "waker" = some none)
    (pgNet : PySem.W.plainGet K cNet Str.empty = true)
    (hdNet : PySem.W.hasDictIn K cNet = true)
    (poNet : PySem.W.plainOver K cNet = true)
    (saNet : PySem.W.findIn K (.ref cNet) "__setattr__" = some (some (.builtin "object.__setattr__")))
    (nNet_asker : PySem.W.findIn K (.ref cNet) "asker" = some none)
    (nNet_hands : PySem.W.findIn K (.ref cNet) "hands" = some none)
    (nNet_row : PySem.W.findIn K (.ref cNet) "row" = some none)
    (nNet_posted_so_far : PySem.W.findIn K (.ref cNet) "posted_so_far" = some none)
    (vMOST_HANDS : PySem.W.nsIn K mainGlobals "MOST_HANDS" = some (some (.int 40 tMOST_HANDS)))
    (vWORDS : PySem.W.nsIn K mainGlobals "WORDS" = some (some (.ref aW)))
    (xW : K.lookup aW = some ⟨.type "tuple", dW0, .seq #[.str "all" t1W, .str "any" t2W] nW, slW⟩)
    (z_bool : PySem.W.nsIn K mainGlobals "bool" = some none)
    (z_enumerate : PySem.W.nsIn K mainGlobals "enumerate" = some none)
    (z_int : PySem.W.nsIn K mainGlobals "int" = some none)
    (z_isinstance : PySem.W.nsIn K mainGlobals "isinstance" = some none)
    (z_len : PySem.W.nsIn K mainGlobals "len" = some none)
    (z_list : PySem.W.nsIn K mainGlobals "list" = some none)
    (z_range : PySem.W.nsIn K mainGlobals "range" = some none)
    (z_sorted : PySem.W.nsIn K mainGlobals "sorted" = some none)
    (z_str : PySem.W.nsIn K mainGlobals "str" = some none)
    (z_tuple : PySem.W.nsIn K mainGlobals "tuple" = some none) :
    ∃ fd : FuncData, (∀ (s : Shared) (v : Value), BindsTo s fd ⟨[v], []⟩ [("_law_script", v)]) ∧ ∀ base : Heap, K.In base → base.Ns mainGlobals mg → FnOk l.prog w K mg base CX0 7 fa fd ["_law_script"] (sp_law K ⟨aW, cHand, cNet, 0, 0, 0, 0⟩) := by
  have e := hfa.symm.trans (PySem.W.mg_of X G a29)
  cases e
  have F1 := fun_mk (st := s_Hand_init) l1 c1 k1
  have b1 := F1.binds (ps := ["self", "number", "wait", "is_asker"]) fun _ _ _ _ _ _ us hl => match us, hl with | [_, _, _, _], _ => rfl
  have F2 := fun_mk (st := s_Hand_posted) l2 c2 k2
  have b2 := F2.binds (ps := ["self", "word", "receivers"]) fun _ _ _ _ _ _ us hl => match us, hl with | [_, _, _], _ => rfl
  have F3 := fun_mk (st := s_Hand_asking) l3 c3 k3
  have b3 := F3.binds (ps := ["self"]) fun _ _ _ _ _ _ us hl => match us, hl with | [_], _ => rfl
  have F4 := fun_mk (st := s_Hand_begin) l4 c4 k4
  have b4 := F4.binds (ps := ["self"]) fun _ _ _ _ _ _ us hl => match us, hl with | [_], _ => rfl
  have F5 := fun_mk (st := s_Hand_asked_by) l5 c5 k5
  have b5 := F5.binds (ps := ["self", "sender"]) fun _ _ _ _ _ _ us hl => match us, hl with | [_, _], _ => rfl
  have F6 := fun_mk (st := s_Hand_told_by) l6 c6 k6
  have b6 := F6.binds (ps := ["self", "sender"]) fun _ _ _ _ _ _ us hl => match us, hl with | [_, _], _ => rfl
  have F7 := fun_mk (st := s_Hand_come) l7 c7 k7
  have b7 := F7.binds (ps := ["self", "letter"]) fun _ _ _ _ _ _ us hl => match us, hl with | [_, _], _ => rfl
  have F8 := fun_mk (st := s_is_hand) l8 c8 k8
  have b8 := F8.binds (ps := ["thing", "many"]) fun _ _ _ _ _ _ us hl => match us, hl with | [_, _], _ => rfl
  have F9 := fun_mk (st := s_is_wait) l9 c9 k9
  have b9 := F9.binds (ps := ["wait", "many"]) fun _ _ _ _ _ _ us hl => match us, hl with | [_, _], _ => rfl
  have F10 := fun_mk (st := s_need) l10 c10 k10
  have b10 := F10.binds (ps := ["waits"]) fun _ _ _ _ _ _ us hl => match us, hl with | [_], _ => rfl
  have F11 := fun_mk (st := s_need_hand) l11 c11 k11
  have b11 := F11.binds (ps := ["many", "hand"]) fun _ _ _ _ _ _ us hl => match us, hl with | [_, _], _ => rfl
  have F12 := fun_mk (st := s_Net_init) l12 c12 k12
  have b12 := F12.binds (ps := ["self", "waits", "asker"]) fun _ _ _ _ _ _ us hl => match us, hl with | [_, _, _], _ => rfl
  have F13 := fun_mk (st := s_Net_letters) l13 c13 k13
  have b13 := F13.binds (ps := ["self"]) fun _ _ _ _ _ _ us hl => match us, hl with | [_], _ => rfl
  have F14 := fun_mk (st := s_Net_bring) l14 c14 k14
  have b14 := F14.binds (ps := ["self", "place"]) fun _ _ _ _ _ _ us hl => match us, hl with | [_, _], _ => rfl
  have F15 := fun_mk (st := s_Net_sent) l15 c15 k15
  have b15 := F15.binds (ps := ["self"]) fun _ _ _ _ _ _ us hl => match us, hl with | [_], _ => rfl
  have F16 := fun_mk (st := s_Net_hand) l16 c16 k16
  have b16 := F16.binds (ps := ["self", "number"]) fun _ _ _ _ _ _ us hl => match us, hl with | [_, _], _ => rfl
  have F17 := fun_mk (st := s_Net_rung) l17 c17 k17
  have b17 := F17.binds (ps := ["self"]) fun _ _ _ _ _ _ us hl => match us, hl with | [_], _ => rfl
  have F18 := fun_mk (st := s_Net_shown) l18 c18 k18
  have b18 := F18.binds (ps := ["self"]) fun _ _ _ _ _ _ us hl => match us, hl with | [_], _ => rfl
  have F19 := fun_mk (st := s_Net_freed_yet) l19 c19 k19
  have b19 := F19.binds (ps := ["self", "hand"]) fun _ _ _ _ _ _ us hl => match us, hl with | [_, _], _ => rfl
  have F20 := fun_mk (st := s_cell_at) l20 c20 k20
  have b20 := F20.binds (ps := ["_law_script", "_law_k"]) fun _ _ _ _ _ _ us hl => match us, hl with | [_, _], _ => rfl
  have F21 := fun_mk (st := s_mixed) l21 c21 k21
  have b21 := F21.binds (ps := ["_law_script", "_law_k", "_law_salt"]) fun _ _ _ _ _ _ us hl => match us, hl with | [_, _, _], _ => rfl
  have F22 := fun_mk (st := s_wait_by) l22 c22 k22
  have b22 := F22.binds (ps := ["_law_number", "_law_size", "_law_few"]) fun _ _ _ _ _ _ us hl => match us, hl with | [_, _, _], _ => rfl
  have F23 := fun_mk (st := s_waits) l23 c23 k23
  have b23 := F23.binds (ps := ["_law_script"]) fun _ _ _ _ _ _ us hl => match us, hl with | [_], _ => rfl
  have F24 := fun_mk (st := s_freed) l24 c24 k24
  have b24 := F24.binds (ps := ["_law_waits_here"]) fun _ _ _ _ _ _ us hl => match us, hl with | [_], _ => rfl
  have F25 := fun_mk (st := s_asking) l25 c25 k25
  have b25 := F25.binds (ps := ["_law_waits_here", "_law_asker"]) fun _ _ _ _ _ _ us hl => match us, hl with | [_, _], _ => rfl
  have F26 := fun_mk (st := s_seen) l26 c26 k26
  have b26 := F26.binds (ps := ["_law_net", "_law_size"]) fun _ _ _ _ _ _ us hl => match us, hl with | [_, _], _ => rfl
  have F27 := fun_mk (st := s_right) l27 c27 k27
  have b27 := F27.binds (ps := ["_law_seen_here", "_law_before", "_law_free"]) fun _ _ _ _ _ _ us hl => match us, hl with | [_, _, _], _ => rfl
  have F28 := fun_mk (st := s_ended) l28 c28 k28
  have b28 := F28.binds (ps := ["_law_net", "_law_waits_here", "_law_asker", "_law_free"]) fun _ _ _ _ _ _ us hl => match us, hl with | [_, _, _, _], _ => rfl
  have F29 := fun_mk (st := s_law) l29 c29 k29
  have b29 := F29.binds (ps := ["_law_script"]) fun _ _ _ _ _ _ us hl => match us, hl with | [_], _ => rfl
  let T : Tx K mg ⟨aW, cHand, cNet, 0, 0, 0, 0⟩ := {
    f_Hand_init := f1,
    fd_Hand_init := PySem.W.fnOf "__init__" "Hand.__init__" (defArgs s_Hand_init) (defBody s_Hand_init) (defScope s_Hand_init) .none kV1 dc1 pm1 an1 cd1 ct1,
    F_Hand_init := F1,
    b_Hand_init := b1,
    mk_Hand := ⟨mkHand, a1, i1, kcHand⟩,
    gc_Hand := PySem.W.mg_of X G gHand,
    f_Hand_posted := f2,
    fd_Hand_posted := PySem.W.fnOf "posted" "Hand.posted" (defArgs s_Hand_posted) (defBody s_Hand_posted) (defScope s_Hand_posted) .none kV2 dc2 pm2 an2 cd2 ct2,
    F_Hand_posted := F2,
    b_Hand_posted := b2,
    me_Hand_posted := ⟨a2, i2, k2⟩,
    f_Hand_asking := f3,
    fd_Hand_asking := PySem.W.fnOf "asking" "Hand.asking" (defArgs s_Hand_asking) (defBody s_Hand_asking) (defScope s_Hand_asking) .none kV3 dc3 pm3 an3 cd3 ct3,
    F_Hand_asking := F3,
    b_Hand_asking := b3,
    me_Hand_asking := ⟨a3, i3, k3⟩,
    f_Hand_begin := f4,
    fd_Hand_begin := PySem.W.fnOf "begin" "Hand.begin" (defArgs s_Hand_begin) (defBody s_Hand_begin) (defScope s_Hand_begin) .none kV4 dc4 pm4 an4 cd4 ct4,
    F_Hand_begin := F4,
    b_Hand_begin := b4,
    me_Hand_begin := ⟨a4, i4, k4⟩,
    f_Hand_asked_by := f5,
    fd_Hand_asked_by := PySem.W.fnOf "asked_by" "Hand.asked_by" (defArgs s_Hand_asked_by) (defBody s_Hand_asked_by) (defScope s_Hand_asked_by) .none kV5 dc5 pm5 an5 cd5 ct5,
    F_Hand_asked_by := F5,
    b_Hand_asked_by := b5,
    me_Hand_asked_by := ⟨a5, i5, k5⟩,
    f_Hand_told_by := f6,
    fd_Hand_told_by := PySem.W.fnOf "told_by" "Hand.told_by" (defArgs s_Hand_told_by) (defBody s_Hand_told_by) (defScope s_Hand_told_by) .none kV6 dc6 pm6 an6 cd6 ct6,
    F_Hand_told_by := F6,
    b_Hand_told_by := b6,
    me_Hand_told_by := ⟨a6, i6, k6⟩,
    f_Hand_come := f7,
    fd_Hand_come := PySem.W.fnOf "come" "Hand.come" (defArgs s_Hand_come) (defBody s_Hand_come) (defScope s_Hand_come) .none kV7 dc7 pm7 an7 cd7 ct7,
    F_Hand_come := F7,
    b_Hand_come := b7,
    me_Hand_come := ⟨a7, i7, k7⟩,
    f_is_hand := f8,
    fd_is_hand := PySem.W.fnOf "is_hand" "is_hand" (defArgs s_is_hand) (defBody s_is_hand) (defScope s_is_hand) .none kV8 dc8 pm8 an8 cd8 ct8,
    F_is_hand := F8,
    b_is_hand := b8,
    m_is_hand := PySem.W.mg_of X G a8,
    f_is_wait := f9,
    fd_is_wait := PySem.W.fnOf "is_wait" "is_wait" (defArgs s_is_wait) (defBody s_is_wait) (defScope s_is_wait) .none kV9 dc9 pm9 an9 cd9 ct9,
    F_is_wait := F9,
    b_is_wait := b9,
    m_is_wait := PySem.W.mg_of X G a9,
    f_need := f10,
    fd_need := PySem.W.fnOf "need" "need" (defArgs s_need) (defBody s_need) (defScope s_need) .none kV10 dc10 pm10 an10 cd10 ct10,
    F_need := F10,
    b_need := b10,
    m_need := PySem.W.mg_of X G a10,
    f_need_hand := f11,
    fd_need_hand := PySem.W.fnOf "need_hand" "need_hand" (defArgs s_need_hand) (defBody s_need_hand) (defScope s_need_hand) .none kV11 dc11 pm11 an11 cd11 ct11,
    F_need_hand := F11,
    b_need_hand := b11,
    m_need_hand := PySem.W.mg_of X G a11,
    f_Net_init := f12,
    fd_Net_init := PySem.W.fnOf "__init__" "Net.__init__" (defArgs s_Net_init) (defBody s_Net_init) (defScope s_Net_init) .none kV12 dc12 pm12 an12 cd12 ct12,
    F_Net_init := F12,
    b_Net_init := b12,
    mk_Net := ⟨mkNet, a12, i12, kcNet⟩,
    gc_Net := PySem.W.mg_of X G gNet,
    f_Net_letters := f13,
    fd_Net_letters := PySem.W.fnOf "letters" "Net.letters" (defArgs s_Net_letters) (defBody s_Net_letters) (defScope s_Net_letters) .none kV13 dc13 pm13 an13 cd13 ct13,
    F_Net_letters := F13,
    b_Net_letters := b13,
    me_Net_letters := ⟨a13, i13, k13⟩,
    f_Net_bring := f14,
    fd_Net_bring := PySem.W.fnOf "bring" "Net.bring" (defArgs s_Net_bring) (defBody s_Net_bring) (defScope s_Net_bring) .none kV14 dc14 pm14 an14 cd14 ct14,
    F_Net_bring := F14,
    b_Net_bring := b14,
    me_Net_bring := ⟨a14, i14, k14⟩,
    f_Net_sent := f15,
    fd_Net_sent := PySem.W.fnOf "sent" "Net.sent" (defArgs s_Net_sent) (defBody s_Net_sent) (defScope s_Net_sent) .none kV15 dc15 pm15 an15 cd15 ct15,
    F_Net_sent := F15,
    b_Net_sent := b15,
    me_Net_sent := ⟨a15, i15, k15⟩,
    f_Net_hand := f16,
    fd_Net_hand := PySem.W.fnOf "hand" "Net.hand" (defArgs s_Net_hand) (defBody s_Net_hand) (defScope s_Net_hand) .none kV16 dc16 pm16 an16 cd16 ct16,
    F_Net_hand := F16,
    b_Net_hand := b16,
    me_Net_hand := ⟨a16, i16, k16⟩,
    f_Net_rung := f17,
    fd_Net_rung := PySem.W.fnOf "rung" "Net.rung" (defArgs s_Net_rung) (defBody s_Net_rung) (defScope s_Net_rung) .none kV17 dc17 pm17 an17 cd17 ct17,
    F_Net_rung := F17,
    b_Net_rung := b17,
    me_Net_rung := ⟨a17, i17, k17⟩,
    f_Net_shown := f18,
    fd_Net_shown := PySem.W.fnOf "shown" "Net.shown" (defArgs s_Net_shown) (defBody s_Net_shown) (defScope s_Net_shown) .none kV18 dc18 pm18 an18 cd18 ct18,
    F_Net_shown := F18,
    b_Net_shown := b18,
    me_Net_shown := ⟨a18, i18, k18⟩,
    f_Net_freed_yet := f19,
    fd_Net_freed_yet := PySem.W.fnOf "freed_yet" "Net.freed_yet" (defArgs s_Net_freed_yet) (defBody s_Net_freed_yet) (defScope s_Net_freed_yet) .none kV19 dc19 pm19 an19 cd19 ct19,
    F_Net_freed_yet := F19,
    b_Net_freed_yet := b19,
    me_Net_freed_yet := ⟨a19, i19, k19⟩,
    f_cell_at := f20,
    fd_cell_at := PySem.W.fnOf "_law_cell_at" "_law_cell_at" (defArgs s_cell_at) (defBody s_cell_at) (defScope s_cell_at) .none kV20 dc20 pm20 an20 cd20 ct20,
    F_cell_at := F20,
    b_cell_at := b20,
    m_cell_at := PySem.W.mg_of X G a20,
    f_mixed := f21,
    fd_mixed := PySem.W.fnOf "_law_mixed" "_law_mixed" (defArgs s_mixed) (defBody s_mixed) (defScope s_mixed) .none kV21 dc21 pm21 an21 cd21 ct21,
    F_mixed := F21,
    b_mixed := b21,
    m_mixed := PySem.W.mg_of X G a21,
    f_wait_by := f22,
    fd_wait_by := PySem.W.fnOf "_law_wait_by" "_law_wait_by" (defArgs s_wait_by) (defBody s_wait_by) (defScope s_wait_by) .none kV22 dc22 pm22 an22 cd22 ct22,
    F_wait_by := F22,
    b_wait_by := b22,
    m_wait_by := PySem.W.mg_of X G a22,
    f_waits := f23,
    fd_waits := PySem.W.fnOf "_law_waits" "_law_waits" (defArgs s_waits) (defBody s_waits) (defScope s_waits) .none kV23 dc23 pm23 an23 cd23 ct23,
    F_waits := F23,
    b_waits := b23,
    m_waits := PySem.W.mg_of X G a23,
    f_freed := f24,
    fd_freed := PySem.W.fnOf "_law_freed" "_law_freed" (defArgs s_freed) (defBody s_freed) (defScope s_freed) .none kV24 dc24 pm24 an24 cd24 ct24,
    F_freed := F24,
    b_freed := b24,
    m_freed := PySem.W.mg_of X G a24,
    f_asking := f25,
    fd_asking := PySem.W.fnOf "_law_asking" "_law_asking" (defArgs s_asking) (defBody s_asking) (defScope s_asking) .none kV25 dc25 pm25 an25 cd25 ct25,
    F_asking := F25,
    b_asking := b25,
    m_asking := PySem.W.mg_of X G a25,
    f_seen := f26,
    fd_seen := PySem.W.fnOf "_law_seen" "_law_seen" (defArgs s_seen) (defBody s_seen) (defScope s_seen) .none kV26 dc26 pm26 an26 cd26 ct26,
    F_seen := F26,
    b_seen := b26,
    m_seen := PySem.W.mg_of X G a26,
    f_right := f27,
    fd_right := PySem.W.fnOf "_law_right" "_law_right" (defArgs s_right) (defBody s_right) (defScope s_right) .none kV27 dc27 pm27 an27 cd27 ct27,
    F_right := F27,
    b_right := b27,
    m_right := PySem.W.mg_of X G a27,
    f_ended := f28,
    fd_ended := PySem.W.fnOf "_law_ended" "_law_ended" (defArgs s_ended) (defBody s_ended) (defScope s_ended) .none kV28 dc28 pm28 an28 cd28 ct28,
    F_ended := F28,
    b_ended := b28,
    m_ended := PySem.W.mg_of X G a28,
    f_law := fa,
    fd_law := PySem.W.fnOf "law" "law" (defArgs s_law) (defBody s_law) (defScope s_law) .none kV29 dc29 pm29 an29 cd29 ct29,
    F_law := F29,
    b_law := b29,
    m_law := PySem.W.mg_of X G a29,
    cl_Hand := ⟨pgHand, hdHand, poHand, saHand⟩,
    no_Hand_number := nHand_number,
    no_Hand_word := nHand_word,
    no_Hand_others := nHand_others,
    no_Hand_is_asker := nHand_is_asker,
    no_Hand_is_freed := nHand_is_freed,
    no_Hand_has_asked := nHand_has_asked,
    no_Hand_askers := nHand_askers,
    no_Hand_told_so := nHand_told_so,
    no_Hand_owed := nHand_owed,
    no_Hand_waker := nHand_waker,
    cl_Net := ⟨pgNet, hdNet, poNet, saNet⟩,
    no_Net_asker := nNet_asker,
    no_Net_hands := nNet_hands,
    no_Net_row := nNet_row,
    no_Net_posted_so_far := nNet_posted_so_far,
    t_MOST_HANDS := tMOST_HANDS,
    co_MOST_HANDS := PySem.W.mg_of X G vMOST_HANDS,
    co_WORDS := PySem.W.mg_of X G vWORDS,
    words := fun H => .inr ⟨_, _, _, xW, rfl, rfl, by show 2 ≤ sizeLine; decide, .cons ⟨_, rfl⟩ (.cons ⟨_, rfl⟩ .nil)⟩,
    bi_bool := PySem.W.mg_none_of X G z_bool,
    bi_enumerate := PySem.W.mg_none_of X G z_enumerate,
    bi_int := PySem.W.mg_none_of X G z_int,
    bi_isinstance := PySem.W.mg_none_of X G z_isinstance,
    bi_len := PySem.W.mg_none_of X G z_len,
    bi_list := PySem.W.mg_none_of X G z_list,
    bi_range := PySem.W.mg_none_of X G z_range,
    bi_sorted := PySem.W.mg_none_of X G z_sorted,
    bi_str := PySem.W.mg_none_of X G z_str,
    bi_tuple := PySem.W.mg_none_of X G z_tuple }
  exact ⟨PySem.W.fnOf "law" "law" (defArgs s_law) (defBody s_law) (defScope s_law) .none kV29 dc29 pm29 an29 cd29 ct29, fun s v => .of_eq rfl, fun base _ _ => ok_law T⟩
end SB
open PySem PySem.W PyProof.Rows in
set_option maxRecDepth 100000 in
set_option maxHeartbeats 0 in
theorem PySem.Challenge.cw_stuckbell_k09_whole_never_false_holds : PySem.Challenge.rw_stuckbell_k09_whole_never_false.Holds := by
  w_on; o_law; k_head; (case hw => w_witness2)
  k_fill
  refine L2.walk_ofK (l := PySem.Challenge.rw_stuckbell_k09_whole_never_false) (n := 63) (k := 7) (x := "_law_script") (CX := L2.CX0) (sp := SB.spL) rfl (by decide) rfl ⟨rfl, by decide, by decide⟩ (fun w h Y => PySem.W.kIn_of Y) ?F (fun _ _ a ns hl _ hS => ⟨_, rfl, a, ns, rfl, hS, hl, fun _ => rfl⟩) (fun _ _ _ _ z => z)
  case F =>
    intro w mg fa h KX G hmg
    refine' SB.all_mk KX G hmg ?gHand ?gNet ?a1 ?i1 ?l1 ?c1 ?k1 ?mkHand ?kcHand ?a2 ?i2 ?l2 ?c2 ?k2 ?a3 ?i3 ?l3 ?c3 ?k3 ?a4 ?i4 ?l4 ?c4 ?k4 ?a5 ?i5 ?l5 ?c5 ?k5 ?a6 ?i6 ?l6 ?c6 ?k6 ?a7 ?i7 ?l7 ?c7 ?k7 ?a8 ?l8 ?c8 ?k8 ?a9 ?l9 ?c9 ?k9 ?a10 ?l10 ?c10 ?k10 ?a11 ?l11 ?c11 ?k11 ?a12 ?i12 ?l12 ?c12 ?k12 ?mkNet ?kcNet ?a13 ?i13 ?l13 ?c13 ?k13 ?a14 ?i14 ?l14 ?c14 ?k14 ?a15 ?i15 ?l15 ?c15 ?k15 ?a16 ?i16 ?l16 ?c16 ?k16 ?a17 ?i17 ?l17 ?c17 ?k17 ?a18 ?i18 ?l18 ?c18 ?k18 ?a19 ?i19 ?l19 ?c19 ?k19 ?a20 ?l20 ?c20 ?k20 ?a21 ?l21 ?c21 ?k21 ?a22 ?l22 ?c22 ?k22 ?a23 ?l23 ?c23 ?k23 ?a24 ?l24 ?c24 ?k24 ?a25 ?l25 ?c25 ?k25 ?a26 ?l26 ?c26 ?k26 ?a27 ?l27 ?c27 ?k27 ?a28 ?l28 ?c28 ?k28 ?a29 ?l29 ?c29 ?k29 ?pgHand ?hdHand ?poHand ?saHand ?nHand_number ?nHand_word ?nHand_others ?nHand_is_asker ?nHand_is_freed ?nHand_has_asked ?nHand_askers ?nHand_told_so ?nHand_owed ?nHand_waker ?pgNet ?hdNet ?poNet ?saNet ?nNet_asker ?nNet_hands ?nNet_row ?nNet_posted_so_far ?vMOST_HANDS ?vWORDS ?xW ?z_bool ?z_enumerate ?z_int ?z_isinstance ?z_len ?z_list ?z_range ?z_sorted ?z_str ?z_tuple
    (case gHand => k_is)
    (case gNet => k_is)
    (case a1 => k_is)
    (case i1 => k_is)
    (case l1 => k_is)
    (case c1 => k_is)
    (case k1 => k_is)
    (case mkHand => k_is)
    (case kcHand => k_is)
    (case a2 => k_is)
    (case i2 => k_is)
    (case l2 => k_is)
    (case c2 => k_is)
    (case k2 => k_is)
    (case a3 => k_is)
    (case i3 => k_is)
    (case l3 => k_is)
    (case c3 => k_is)
    (case k3 => k_is)
    (case a4 => k_is)
    (case i4 => k_is)
    (case l4 => k_is)
    (case c4 => k_is)
    (case k4 => k_is)
    (case a5 => k_is)
    (case i5 => k_is)
    (case l5 => k_is)
    (case c5 => k_is)
    (case k5 => k_is)
    (case a6 => k_is)
    (case i6 => k_is)
    (case l6 => k_is)
    (case c6 => k_is)
    (case k6 => k_is)
    (case a7 => k_is)
    (case i7 => k_is)
    (case l7 => k_is)
    (case c7 => k_is)
    (case k7 => k_is)
    (case a8 => k_is)
    (case l8 => k_is)
    (case c8 => k_is)
    (case k8 => k_is)
    (case a9 => k_is)
    (case l9 => k_is)
    (case c9 => k_is)
    (case k9 => k_is)
    (case a10 => k_is)
    (case l10 => k_is)
    (case c10 => k_is)
    (case k10 => k_is)
    (case a11 => k_is)
    (case l11 => k_is)
    (case c11 => k_is)
    (case k11 => k_is)
    (case a12 => k_is)
    (case i12 => k_is)
    (case l12 => k_is)
    (case c12 => k_is)
    (case k12 => k_is)
    (case mkNet => k_is)
    (case kcNet => k_is)
    (case a13 => k_is)
    (case i13 => k_is)
    (case l13 => k_is)
    (case c13 => k_is)
    (case k13 => k_is)
    (case a14 => k_is)
    (case i14 => k_is)
    (case l14 => k_is)
    (case c14 => k_is)
    (case k14 => k_is)
    (case a15 => k_is)
    (case i15 => k_is)
    (case l15 => k_is)
    (case c15 => k_is)
    (case k15 => k_is)
    (case a16 => k_is)
    (case i16 => k_is)
    (case l16 => k_is)
    (case c16 => k_is)
    (case k16 => k_is)
    (case a17 => k_is)
    (case i17 => k_is)
    (case l17 => k_is)
    (case c17 => k_is)
    (case k17 => k_is)
    (case a18 => k_is)
    (case i18 => k_is)
    (case l18 => k_is)
    (case c18 => k_is)
    (case k18 => k_is)
    (case a19 => k_is)
    (case i19 => k_is)
    (case l19 => k_is)
    (case c19 => k_is)
    (case k19 => k_is)
    (case a20 => k_is)
    (case l20 => k_is)
    (case c20 => k_is)
    (case k20 => k_is)
    (case a21 => k_is)
    (case l21 => k_is)
    (case c21 => k_is)
    (case k21 => k_is)
    (case a22 => k_is)
    (case l22 => k_is)
    (case c22 => k_is)
    (case k22 => k_is)
    (case a23 => k_is)
    (case l23 => k_is)
    (case c23 => k_is)
    (case k23 => k_is)
    (case a24 => k_is)
    (case l24 => k_is)
    (case c24 => k_is)
    (case k24 => k_is)
    (case a25 => k_is)
    (case l25 => k_is)
    (case c25 => k_is)
    (case k25 => k_is)
    (case a26 => k_is)
    (case l26 => k_is)
    (case c26 => k_is)
    (case k26 => k_is)
    (case a27 => k_is)
    (case l27 => k_is)
    (case c27 => k_is)
    (case k27 => k_is)
    (case a28 => k_is)
    (case l28 => k_is)
    (case c28 => k_is)
    (case k28 => k_is)
    (case a29 => k_is)
    (case l29 => k_is)
    (case c29 => k_is)
    (case k29 => k_is)
    (case pgHand => k_is)
    (case hdHand => k_is)
    (case poHand => k_is)
    (case saHand => k_is)
    (case nHand_number => k_is)
    (case nHand_word => k_is)
    (case nHand_others => k_is)
    (case nHand_is_asker => k_is)
    (case nHand_is_freed => k_is)
    (case nHand_has_asked => k_is)
    (case nHand_askers => k_is)
    (case nHand_told_so => k_is)
    (case nHand_owed => k_is)
    (case nHand_waker => k_is)
    (case pgNet => k_is)
    (case hdNet => k_is)
    (case poNet => k_is)
    (case saNet => k_is)
    (case nNet_asker => k_is)
    (case nNet_hands => k_is)
    (case nNet_row => k_is)
    (case nNet_posted_so_far => k_is)
    (case vMOST_HANDS => k_is)
    (case vWORDS => k_is)
    (case xW => k_is)
    (case z_bool => k_is)
    (case z_enumerate => k_is)
    (case z_int => k_is)
    (case z_isinstance => k_is)
    (case z_len => k_is)
    (case z_list => k_is)
    (case z_range => k_is)
    (case z_sorted => k_is)
    (case z_str => k_is)
    (case z_tuple => k_is)
