import PyProof.Rows.All
import Wide.All
import OpenK.AllK
import Wide.FinOn
import HandS.ForMost
import HandS.IsInst
import HandS.Deep
import HandS.SetFor
import HandS.Rev
import HandS.SortInts
import HandS.Evl
import HandS.Dict
import HandS.Style
import HandS.More
import HandS.List
import HandS.ExcInit
import HandS.ExcOwn
import HandS.TryOnly
import HandS.TryMany
import HandS.ExcField
import HandS.WordsExc
import HandS.ExcIs
import KE.KExcIs
import HandS.IsInst
import HandS.Deep
import PySem.Challenge.RW_stuckbell_k11_what_is_refused
set_option Elab.async false
set_option linter.all false
set_option maxRecDepth 100000
set_option maxHeartbeats 4000000
/-! the steps that need no word -/
set_option hygiene false in
local macro_rules | `(tactic| walk_at "rd1") => `(tactic| first
  | (with_reducible refine SB.r_seq ?_)
  | ((with_reducible refine' SB.r_var ?k1 ?_); (case k1 => rfl))
  | (with_reducible refine SB.r_c ?_)
  | (with_reducible refine SB.r_op ?_)
  | ((with_reducible refine' SB.r_mul ?k1 ?_); (case k1 => first | exact Or.inr ⟨by decide, by decide⟩ | exact Or.inl ⟨by decide, by decide⟩ | exact Or.inr ⟨by omega, by omega⟩ | exact Or.inl ⟨by omega, by omega⟩))
  | ((with_reducible refine' SB.r_mod ?k1 ?_); (case k1 => first | decide | omega))
  | ((with_reducible refine' SB.r_div ?k1 ?_); (case k1 => first | exact ⟨by decide, by decide⟩ | exact ⟨by omega, by omega⟩))
  | (with_reducible refine SB.r_I0 ?_)
  | ((with_reducible refine SB.r_gname ?_); try dsimp only [List.set_cons_succ, List.set_cons_zero])
  | (with_reducible refine SB.r_asg ?_)
  | (with_reducible refine SB.r_cons ?_)
  | (with_reducible refine SB.r_nil ?_)
  | (with_reducible refine SB.r_call ?_)
  | (with_reducible refine SB.r_sp1 ?_)
  | (with_reducible refine SB.r_sp2 ?_)
  | (with_reducible refine SB.r_sp3 ?_)
  | (with_reducible refine SB.r_sp4 ?_)
  | (with_reducible refine SB.r_cb ?_)
  | (with_reducible refine SB.r_ifS ?_)
  | (with_reducible refine SB.r_test ?_)
  | (with_reducible refine SB.r_tB ?_)
  | (with_reducible refine SB.r_bl ?_)
  | (with_reducible refine SB.r_eqI ?_)
  | (with_reducible refine SB.r_eqS ?_)
  | (with_reducible refine SB.r_neI ?_)
  | (with_reducible refine SB.r_neS ?_)
  | (with_reducible refine SB.r_next ?_)
  | (with_reducible refine SB.r_ret ?_)
  | (with_reducible refine SB.r_drop ?_)
  | (with_reducible refine SB.r_not ?_)
  | (with_reducible refine SB.r_notV ?_)
  | (with_reducible refine SB.r_and ?_)
  | (with_reducible refine SB.r_or ?_)
  | (with_reducible refine SB.r_andV ?_)
  | (with_reducible refine SB.r_orV ?_)
  | (with_reducible refine SB.r_yes ?_)
  | (with_reducible refine SB.r_lst ?_)
  | (with_reducible refine SB.r_tup ?_)
  | (with_reducible refine SB.r_qIsN ?_)
  | (with_reducible refine SB.r_qNotN ?_)
  | (with_reducible refine SB.r_bm ?_)
  | (with_reducible refine SB.r_bm0 ?_)
  | (with_reducible refine SB.r_chain ?_)
  | (with_reducible refine SB.r_sl ?_)
  | (with_reducible refine SB.r_nopart ?_)
  | (with_reducible refine SB.r_part ?_)
  | (with_reducible refine SB.r_some ?_)
  | (with_reducible refine SB.r_gsub ?_)
  | (with_reducible refine SB.r_forR1 ?_)
  | (with_reducible refine SB.r_forR2 ?_)
  | (with_reducible refine SB.r_forL ?_)
  | (with_reducible refine SB.r_forT ?_)
  | (with_reducible refine SB.r_forE ?_)
  | (with_reducible refine SB.r_lcR1 ?_)
  | (with_reducible refine SB.r_lcL ?_)
  | (with_reducible refine SB.r_lcT ?_)
  | (with_reducible refine SB.r_lcE ?_)
  | (with_reducible refine SB.r_listRev0 ?_)
  | (with_reducible refine SB.r_retN ?_))
local macro_rules | `(tactic| walk_at "rd") => `(tactic| repeat (walk_at "rd1"))
set_option hygiene false in
local macro_rules | `(tactic| walk_at "rd1") => `(tactic| first
  | (with_reducible refine SB.r_fld ?_)
  | (with_reducible refine SB.r_sfld ?_)
  | (with_reducible refine SB.r_meth ?_)
  | (with_reducible refine SB.r_make ?_)
  | (with_reducible refine SB.r_dget ?_)
  | (with_reducible refine SB.r_dput ?_)
  | (with_reducible refine SB.r_pcons ?_)
  | (with_reducible refine SB.r_pnil ?_)
  | (with_reducible refine SB.r_sp1m ?_)
  | (with_reducible refine SB.r_sp2m ?_)
  | (with_reducible refine SB.r_sp3m ?_)
  | (with_reducible refine SB.r_sp4m ?_)
  | (with_reducible refine SB.r_eqB ?_)
  | (with_reducible refine SB.r_neB ?_))
/-! The state kit: a frozen part F of the heap H, a ledger L of the cells that may still change, and data over F. -/
namespace SB
open PySem L2

/-! ### the state -/
structure Zs (F0 H0 F H : Hp) (L : List (Addr × HO)) : Prop where
  ff : Same F0 F
  hh : Same H0 H
  fh : Same F H
  sep : ∀ a, F0 a = none → H0 a ≠ none → F a = none
  led : ∀ q ∈ L, H q.1 = some q.2 ∧ F q.1 = none ∧ H0 q.1 = none
  nd : (L.map (·.1)).Nodup

theorem same_none {H H' : Hp} (s : Same H H') {a : Addr} (h : H' a = none) : H a = none := s.free h
theorem some_ne {H : Hp} {a : Addr} {o : HO} (h : H a = some o) : H a ≠ none := by rw [h]; exact fun q => nomatch q
theorem same_some {H H' : Hp} (s : Same H H') {a : Addr} (h : H a ≠ none) : H' a ≠ none := by
  cases e : H a with
  | none => exact absurd e h
  | some o => rw [s a o e]; exact fun q => nomatch q
theorem same_new {H : Hp} {p : Addr} {o : HO} (h : H p = none) : Same H (upd H p o) := fun a u e => by
  rw [upd_ne (ne_of_none e h)]; exact e
theorem same_mut {H H' : Hp} {p : Addr} {o : HO} (s : Same H H') (h : H p = none) : Same H (upd H' p o) := fun a u e => by
  rw [upd_ne (ne_of_none e h)]; exact s a u e

section
variable {F0 H0 F H F' H' : Hp} {L L1 L2 : List (Addr × HO)} {p : Addr} {o o' : HO}
theorem Zs.start (h : Same F H) : Zs F H F H [] := ⟨Same.refl _, Same.refl _, h, fun _ a _ => a, fun _ q => (nomatch q), List.nodup_nil⟩
theorem Zs.get (Z : Zs F0 H0 F H L) {i : Nat} (h : L[i]? = some (p, o)) : H p = some o := (Z.led (p, o) (List.mem_of_getElem? h)).1
theorem Zs.getF (Z : Zs F0 H0 F H L) {i : Nat} (h : L[i]? = some (p, o)) : F p = none := (Z.led (p, o) (List.mem_of_getElem? h)).2.1
theorem Zs.get0 (Z : Zs F0 H0 F H L) {i : Nat} (h : L[i]? = some (p, o)) : H0 p = none := (Z.led (p, o) (List.mem_of_getElem? h)).2.2
theorem Zs.fix (Z : Zs F0 H0 F H L) {a : Addr} {u : HO} (h : F a = some u) : H a = some u := Z.fh a u h
theorem Zs.alloc (Z : Zs F0 H0 F H L) (h : H p = none) : Zs F0 H0 F (upd H p o) ((p, o) :: L) where
  ff := Z.ff
  hh := same_mut Z.hh (same_none Z.hh h)
  fh := same_mut Z.fh (same_none Z.fh h)
  sep := Z.sep
  led := fun q hq => by
    rcases List.mem_cons.mp hq with rfl | hq
    · exact ⟨upd_same, same_none Z.fh h, same_none Z.hh h⟩
    · obtain ⟨a, b, c⟩ := Z.led q hq
      exact ⟨by rw [upd_ne (ne_of_none a h)]; exact a, b, c⟩
  nd := by
    rw [List.map_cons, List.nodup_cons]
    refine ⟨fun hm => ?_, Z.nd⟩
    obtain ⟨q, hq, e⟩ := List.mem_map.mp hm
    obtain ⟨a, _, _⟩ := Z.led q hq
    have e' : q.1 = p := e
    rw [e', h] at a
    cases a
theorem Zs.sub (Z : Zs F0 H0 F H L) (h : List.Sublist L1 L) : Zs F0 H0 F H L1 where
  ff := Z.ff
  hh := Z.hh
  fh := Z.fh
  sep := Z.sep
  led := fun q hq => Z.led q (h.subset hq)
  nd := (h.map _).nodup Z.nd
theorem Zs.drop (Z : Zs F0 H0 F H (q :: L)) : Zs F0 H0 F H L := Z.sub (List.sublist_cons_self _ _)
theorem Zs.dropAt (Z : Zs F0 H0 F H L) (i : Nat) : Zs F0 H0 F H (L.eraseIdx i) := Z.sub (List.eraseIdx_sublist _ _)
theorem Zs.nil (Z : Zs F0 H0 F H L) : Zs F0 H0 F H [] := Z.sub (List.nil_sublist _)
/-- what was frozen since is forgotten -/
theorem Zs.back (Z : Zs F0 H0 F H L) (h : Same F0 H0) : Zs F0 H0 F0 H [] := ⟨Same.refl _, Z.hh, h.trans Z.hh, fun _ a _ => a, fun _ q => (nomatch q), List.nodup_nil⟩
/-- two places of the ledger are two addresses -/
theorem Zs.ne (Z : Zs F0 H0 F H L) {i j : Nat} {p q : Addr} {o u : HO} (hi : L[i]? = some (p, o)) (hj : L[j]? = some (q, u)) (n : i ≠ j) : p ≠ q := fun e => by
  have a : (L.map (·.1))[i]? = some p := by rw [List.getElem?_map, hi] <;> rfl
  have b : (L.map (·.1))[j]? = some p := by rw [List.getElem?_map, hj, e] <;> rfl
  exact n (nd_ix Z.nd a b)
theorem Zs.setAt (Z : Zs F0 H0 F H L) (i : Nat) (h : L[i]? = some (p, o)) : Zs F0 H0 F (upd H p o') (L.set i (p, o')) where
  ff := Z.ff
  hh := same_mut Z.hh (Z.get0 h)
  fh := same_mut Z.fh (Z.getF h)
  sep := Z.sep
  led := fun q hq => by
    obtain ⟨j, hj⟩ := List.mem_iff_getElem?.mp hq
    rw [List.getElem?_set] at hj
    by_cases e : i = j
    · rw [if_pos e] at hj
      split at hj
      · have e2 := Option.some.inj hj
        subst e2
        exact ⟨upd_same, Z.getF h, Z.get0 h⟩
      · cases hj
    · rw [if_neg e] at hj
      obtain ⟨a, b, c⟩ := Z.led q (List.mem_of_getElem? hj)
      have n : p ≠ q.1 := Z.ne (i := i) (j := j) (q := q.1) (u := q.2) h hj e
      exact ⟨by rw [upd_ne n.symm]; exact a, b, c⟩
  nd := by
    have e : (L.set i (p, o')).map (·.1) = L.map (·.1) := by
      rw [List.map_set]
      refine List.ext_getElem? fun j => ?_
      rw [List.getElem?_set]
      by_cases q : i = j
      · subst q
        rw [if_pos rfl, List.getElem?_map, h]
        split
        · rfl
        · rename_i z
          have := (List.getElem?_eq_some_iff.mp h).1
          rw [List.length_map] at z
          exact absurd this z
      · rw [if_neg q]
    rw [e]
    exact Z.nd
/-- a cell that does not change any more -/
theorem Zs.frzAt (Z : Zs F0 H0 F H L) (i : Nat) (h : L[i]? = some (p, o)) : ∃ F', Zs F0 H0 F' H (L.eraseIdx i) ∧ Same F F' ∧ F' p = some o := by
  have hi := (List.getElem?_eq_some_iff.mp h).1
  have hni : ∀ q ∈ L.eraseIdx i, q.1 ≠ p := fun q hq e => by
    obtain ⟨j, hj⟩ := List.mem_iff_getElem?.mp hq
    rw [List.getElem?_eraseIdx] at hj
    split at hj
    · rename_i lt
      exact Z.ne (i := i) (j := j) (q := q.1) (u := q.2) h hj (by omega) e.symm
    · rename_i lt
      exact Z.ne (i := i) (j := j + 1) (q := q.1) (u := q.2) h hj (by omega) e.symm
  refine ⟨upd F p o, ⟨fun a u e => ?_, Z.hh, fun a u e => ?_, fun a e n => ?_, fun q hq => ?_, ?_⟩, same_new (Z.getF h), upd_same⟩
  · exact same_new (Z.getF h) a u (Z.ff a u e)
  · by_cases q : a = p
    · subst q
      rw [upd_same] at e
      rw [← e]
      exact Z.get h
    · rw [upd_ne q] at e
      exact Z.fh a u e
  · by_cases q : a = p
    · subst q
      exact absurd (Z.get0 h) n
    · rw [upd_ne q]
      exact Z.sep a e n
  · obtain ⟨a, b, c⟩ := Z.led q (List.eraseIdx_subset hq)
    exact ⟨a, by rw [upd_ne (hni q hq)]; exact b, c⟩
  · exact ((List.eraseIdx_sublist _ _).map _).nodup Z.nd
/-- behind a call that changes nothing that stood -/
theorem Zs.call (Z : Zs F0 H0 F H L) (W : Zs F H F' H' []) : Zs F0 H0 F' H' L where
  ff := Z.ff.trans W.ff
  hh := Z.hh.trans W.hh
  fh := W.fh
  sep := fun a e n => W.sep a (Z.sep a e n) (same_some Z.hh n)
  led := fun q hq => by
    obtain ⟨a, b, c⟩ := Z.led q hq
    exact ⟨W.hh _ _ a, W.sep _ b (some_ne a), c⟩
  nd := Z.nd
theorem Zs.ext (Z : Zs F0 H0 F H L) (s : Same H H') : Zs F0 H0 F H' L :=
  Z.call ⟨Same.refl _, s, Z.fh.trans s, fun _ a _ => a, fun _ q => (nomatch q), List.nodup_nil⟩
theorem Zs.trans {F1 H1 : Hp} (Z : Zs F0 H0 F1 H1 []) (W : Zs F1 H1 F H L) : Zs F0 H0 F H L where
  ff := Z.ff.trans W.ff
  hh := Z.hh.trans W.hh
  fh := W.fh
  sep := fun a e n => W.sep a (Z.sep a e n) (same_some Z.hh n)
  led := fun q hq => by
    obtain ⟨a, b, c⟩ := W.led q hq
    exact ⟨a, b, same_none Z.hh c⟩
  nd := W.nd
end

/-! ### data -/
mutual
inductive Td (F : Hp) : V → PyData → Prop
  | non : Td F .non .none
  | bl (b : Bool) : Td F (.bl b) (.bool b)
  | int (i : Int) : Td F (.int i) (.int i)
  | str (x : Str) : Td F (.str x) (.str x)
  | lst {a : Addr} {xs : List V} {ds : List PyData} : F a = some (.lst xs) → TdA F xs ds → Td F (.ref a) (.list ds)
  | tup {a : Addr} {xs : List V} {ds : List PyData} : F a = some (.tup xs) → TdA F xs ds → Td F (.ref a) (.tuple ds)
inductive TdA (F : Hp) : List V → List PyData → Prop
  | nil : TdA F [] []
  | cons {v : V} {vs : List V} {d : PyData} {ds : List PyData} : Td F v d → TdA F vs ds → TdA F (v :: vs) (d :: ds)
end
mutual
theorem Td.mono {F F' : Hp} (s : Same F F') : ∀ (d : PyData) (v : V), Td F v d → Td F' v d
  | .none, _, h => by cases h; exact .non
  | .bool b, _, h => by cases h; exact .bl b
  | .int i, _, h => by cases h; exact .int i
  | .str x, _, h => by cases h; exact .str x
  | .list ds, _, h => by
    cases h with
    | lst hs ha => exact .lst (s _ _ hs) (TdA.mono s ds _ ha)
  | .tuple ds, _, h => by
    cases h with
    | tup hs ha => exact .tup (s _ _ hs) (TdA.mono s ds _ ha)
  | .dict _, _, h => by cases h
theorem TdA.mono {F F' : Hp} (s : Same F F') : ∀ (ds : List PyData) (vs : List V), TdA F vs ds → TdA F' vs ds
  | [], _, h => by cases h; exact .nil
  | d :: ds, _, h => by
    cases h with
    | cons h1 h2 => exact .cons (Td.mono s d _ h1) (TdA.mono s ds _ h2)
end
mutual
theorem Td.dp {K : PySem.W.Frag} {F : Hp} : ∀ (d : PyData) (v : V), Td F v d → Dp K F v d
  | .none, _, h => by cases h; exact .non
  | .bool b, _, h => by cases h; exact .bl b
  | .int i, _, h => by cases h; exact .int i
  | .str x, _, h => by cases h; exact .str x
  | .list ds, _, h => by
    cases h with
    | lst hs ha => exact .lst (SqL.of hs) (TdA.dp ds _ ha)
  | .tuple ds, _, h => by
    cases h with
    | tup hs ha => exact .tup (SqT.of hs) (TdA.dp ds _ ha)
  | .dict _, _, h => by cases h
theorem TdA.dp {K : PySem.W.Frag} {F : Hp} : ∀ (ds : List PyData) (vs : List V), TdA F vs ds → DpAll K F vs ds
  | [], _, h => by cases h; exact .nil
  | d :: ds, _, h => by
    cases h with
    | cons h1 h2 => exact .cons (Td.dp d _ h1) (TdA.dp ds _ h2)
end
section
variable {F F' H : Hp} {v : V} {vs ws : List V} {d : PyData} {ds es : List PyData}
theorem Td.up (h : Td F v d) (s : Same F F') : Td F' v d := Td.mono s d v h
theorem TdA.up (h : TdA F vs ds) (s : Same F F') : TdA F' vs ds := TdA.mono s ds vs h
theorem TdA.len : ∀ {vs : List V} {ds : List PyData}, TdA F vs ds → vs.length = ds.length
  | _, _, .nil => rfl
  | _, _, .cons _ h => by rw [List.length_cons, List.length_cons, TdA.len h]
theorem TdA.append : ∀ {vs ws : List V} {ds es : List PyData}, TdA F vs ds → TdA F ws es → TdA F (vs ++ ws) (ds ++ es)
  | _, _, _, _, .nil, h => h
  | _, _, _, _, .cons h1 h2, h => .cons h1 (TdA.append h2 h)
theorem TdA.snoc (h : TdA F vs ds) (k : Td F v d) : TdA F (vs ++ [v]) (ds ++ [d]) := h.append (.cons k .nil)
theorem TdA.get : ∀ {vs : List V} {ds : List PyData} {i : Nat} {d : PyData}, TdA F vs ds → ds[i]? = some d → ∃ v, vs[i]? = some v ∧ Td F v d
  | _, _, _, _, .nil, h => by simp at h
  | _, _, 0, _, .cons h1 _, h => by simp at h; subst h; exact ⟨_, rfl, h1⟩
  | _, _, i + 1, _, .cons _ h2, h => by
    obtain ⟨v, a, b⟩ := TdA.get (i := i) h2 (by simpa using h)
    exact ⟨v, by simpa using a, b⟩
theorem TdA.at : ∀ {vs : List V} {ds : List PyData} {i : Nat} {v : V}, TdA F vs ds → vs[i]? = some v → ∃ d, ds[i]? = some d ∧ Td F v d
  | _, _, _, _, .nil, h => by simp at h
  | _, _, 0, _, .cons h1 _, h => by simp at h; subst h; exact ⟨_, rfl, h1⟩
  | _, _, i + 1, _, .cons _ h2, h => by
    obtain ⟨v, a, b⟩ := TdA.at (i := i) h2 (by simpa using h)
    exact ⟨v, by simpa using a, b⟩
theorem TdA.set : ∀ {vs : List V} {ds : List PyData} (i : Nat), TdA F vs ds → Td F v d → TdA F (vs.set i v) (ds.set i d)
  | _, _, _, .nil, _ => .nil
  | _, _, 0, .cons _ h2, k => .cons k h2
  | _, _, i + 1, .cons h1 h2, k => .cons h1 (TdA.set i h2 k)
theorem TdA.take : ∀ {vs : List V} {ds : List PyData} (i : Nat), TdA F vs ds → TdA F (vs.take i) (ds.take i)
  | _, _, 0, _ => .nil
  | _, _, _ + 1, .nil => .nil
  | _, _, i + 1, .cons h1 h2 => .cons h1 (TdA.take i h2)
theorem TdA.drop : ∀ {vs : List V} {ds : List PyData} (i : Nat), TdA F vs ds → TdA F (vs.drop i) (ds.drop i)
  | _, _, 0, h => h
  | _, _, _ + 1, .nil => .nil
  | _, _, i + 1, .cons _ h2 => TdA.drop i h2
theorem TdA.of_map {α : Type} {f : α → V} {g : α → PyData} (h : ∀ a, Td F (f a) (g a)) : ∀ l : List α, TdA F (l.map f) (l.map g)
  | [] => .nil
  | a :: l => .cons (h a) (TdA.of_map h l)
theorem TdA.ints (l : List Int) : TdA F (l.map V.int) (l.map PyData.int) := TdA.of_map (fun a => .int a) l
theorem TdA.bools (l : List Bool) : TdA F (l.map V.bl) (l.map PyData.bool) := TdA.of_map (fun a => .bl a) l
theorem TdA.of_ints : ∀ {vs : List V} {l : List Int}, TdA F vs (l.map PyData.int) → vs = l.map V.int
  | _, [], .nil => rfl
  | _, _ :: l, .cons (.int _) h => by rw [List.map_cons, TdA.of_ints h]
theorem TdA.of_bools : ∀ {vs : List V} {l : List Bool}, TdA F vs (l.map PyData.bool) → vs = l.map V.bl
  | _, [], .nil => rfl
  | _, _ :: l, .cons (.bl _) h => by rw [List.map_cons, TdA.of_bools h]
theorem Td.ints_lst {a : Addr} {l : List Int} (h : F a = some (.lst (l.map V.int))) : Td F (.ref a) (.list (l.map PyData.int)) := .lst h (TdA.ints l)
theorem Td.inv_lst (h : Td F v (.list ds)) : ∃ a xs, v = .ref a ∧ F a = some (.lst xs) ∧ TdA F xs ds := by
  cases h with
  | lst a b => exact ⟨_, _, rfl, a, b⟩
theorem Td.inv_tup (h : Td F v (.tuple ds)) : ∃ a xs, v = .ref a ∧ F a = some (.tup xs) ∧ TdA F xs ds := by
  cases h with
  | tup a b => exact ⟨_, _, rfl, a, b⟩
theorem Td.inv_ints {l : List Int} (h : Td F v (.list (l.map PyData.int))) : ∃ a, v = .ref a ∧ F a = some (.lst (l.map V.int)) := by
  obtain ⟨a, xs, rfl, h1, h2⟩ := h.inv_lst
  rw [h2.of_ints] at h1
  exact ⟨a, rfl, h1⟩
theorem Td.inv_int {n : Int} (h : Td F v (.int n)) : v = .int n := by cases h; rfl
theorem Td.inv_bl {n : Bool} (h : Td F v (.bool n)) : v = .bl n := by cases h; rfl
theorem Td.inv_str {n : Str} (h : Td F v (.str n)) : v = .str n := by cases h; rfl
theorem Td.inv_non (h : Td F v .none) : v = .non := by cases h; rfl
end

/-! ### readings, one construct a row -/
section
variable {K : PySem.W.Frag} {σ : St} {H : Hp} {Q : VK} {D : Ends} {t u : TS} {ta tb tc : TE} {tt tu : TT} {v x y : V} {r : R2} {i j : Int} {n : Nat} {b c : Bool}
theorem r_seq (h : t { D with nx := u D } σ H) : tSeq t u D σ H := h
theorem r_next (h : D.nx σ H) : tNext D σ H := h
theorem r_ret (h : ta σ H D.rt) : tRet ta D σ H := h
theorem r_retN (h : D.rt .non H) : tRetN D σ H := h
theorem r_drop (h : ta σ H fun _ H1 => D.nx σ H1) : tDrop ta D σ H := h
theorem r_asg {g : TG} (h : ta σ H fun x H1 => g x σ H1 D.nx) : tAsg ta g D σ H := h
theorem r_gname {Q : St → Hp → Prop} (h : Q (σ.set n (some v)) H) : gName n v σ H Q := h
theorem r_ifS (h : tt σ H fun b H1 => if b = true then t D σ H1 else u D σ H1) : tIfS tt t u D σ H := h
theorem r_var (h : σ[n]? = some (some v)) (k : Q v H) : tVar n σ H Q := ⟨v, h, k⟩
theorem r_c (k : Q v H) : tC v σ H Q := k
theorem r_op (h : ta σ H fun x H1 => tb σ H1 fun y H2 => r x y H2 Q) : tOp r ta tb σ H Q := h
theorem r_I0 {g : Int → Int → V} (k : Q (g i j) H) : rI0 g (.int i) (.int j) H Q := ⟨i, j, rfl, rfl, k⟩
theorem r_I {C : Int → Int → Prop} {g : Int → Int → V} (hc : C i j) (k : Q (g i j) H) : rI C g (.int i) (.int j) H Q := ⟨i, j, rfl, rfl, hc, k⟩
theorem r_mul {g : Int → Int → V} (hc : CMul i j) (k : Q (g i j) H) : rI CMul g (.int i) (.int j) H Q := ⟨i, j, rfl, rfl, hc, k⟩
theorem r_div {g : Int → Int → V} (hc : CDiv i j) (k : Q (g i j) H) : rI CDiv g (.int i) (.int j) H Q := ⟨i, j, rfl, rfl, hc, k⟩
theorem r_mod {g : Int → Int → V} (hc : 0 < j) (k : Q (g i j) H) : rI (fun _ j => 0 < j) g (.int i) (.int j) H Q := ⟨i, j, rfl, rfl, hc, k⟩
theorem dec_vi {i j : Int} : decide (V.int i = V.int j) = decide (i = j) := by
  by_cases e : i = j
  · rw [decide_eq_true e, decide_eq_true (by rw [e])]
  · rw [decide_eq_false e, decide_eq_false (fun q => e (V.int.inj q))]
theorem dec_vs {i j : Str} : decide (V.str i = V.str j) = decide (i = j) := by
  by_cases e : i = j
  · rw [decide_eq_true e, decide_eq_true (by rw [e])]
  · rw [decide_eq_false e, decide_eq_false (fun q => e (V.str.inj q))]
theorem dec_vb {i j : Bool} : decide (V.bl i = V.bl j) = (i == j) := by
  cases i <;> cases j <;> rfl
theorem r_eqI (k : Q (.bl (decide (i = j))) H) : rEq (.int i) (.int j) H Q := ⟨rfl, by rw [dec_vi]; exact k⟩
theorem r_eqS {i j : Str} (k : Q (.bl (decide (i = j))) H) : rEq (.str i) (.str j) H Q := ⟨rfl, by rw [dec_vs]; exact k⟩
theorem r_eqB {i j : Bool} (k : Q (.bl (i == j)) H) : rEq (.bl i) (.bl j) H Q := ⟨rfl, by rw [dec_vb]; exact k⟩
theorem r_neI (k : Q (.bl (!decide (i = j))) H) : rNe (.int i) (.int j) H Q := ⟨rfl, by rw [dec_vi]; exact k⟩
theorem r_neS {i j : Str} (k : Q (.bl (!decide (i = j))) H) : rNe (.str i) (.str j) H Q := ⟨rfl, by rw [dec_vs]; exact k⟩
theorem r_neB {i j : Bool} (k : Q (.bl (!(i == j))) H) : rNe (.bl i) (.bl j) H Q := ⟨rfl, by rw [dec_vb]; exact k⟩
theorem r_bl {P : Bool → Prop} (k : P b) : ∃ k, V.bl b = V.bl k ∧ P k := ⟨b, rfl, k⟩
theorem r_test {Q : Bool → Hp → Prop} (h : ta σ H fun x H' => ∃ k, x = .bl k ∧ Q k H') : tTest ta σ H Q := h
theorem r_tB {Q : Bool → Hp → Prop} (h : ta σ H fun x H' => ∃ k, x = .bl k ∧ Q k H') : tB ta σ H Q := h
theorem r_not {Q : Bool → Hp → Prop} (h : tt σ H fun c H1 => Q (!c) H1) : tNot tt σ H Q := h
theorem r_notV (h : ta σ H fun x H1 => ∃ c, x = .bl c ∧ Q (.bl (!c)) H1) : tNotV ta σ H Q := h
theorem r_and {Q : Bool → Hp → Prop} (h : tt σ H fun c H1 => if c = true then tu σ H1 Q else Q false H1) : tAnd tt tu σ H Q := h
theorem r_or {Q : Bool → Hp → Prop} (h : tt σ H fun c H1 => if c = true then Q true H1 else tu σ H1 Q) : tOr tt tu σ H Q := h
theorem r_andV (h : ta σ H fun x H1 => ∃ c, x = .bl c ∧ if c = true then tb σ H1 Q else Q (.bl false) H1) : tAndV ta tb σ H Q := h
theorem r_orV (h : ta σ H fun x H1 => ∃ c, x = .bl c ∧ if c = true then Q (.bl true) H1 else tb σ H1 Q) : tOrV ta tb σ H Q := h
theorem r_yes {Q : Bool → Hp → Prop} (h : Q true H) : tYes σ H Q := h
theorem r_if {tA : TT} (h : tA σ H fun c H1 => if c = true then ta σ H1 Q else tb σ H1 Q) : tIf tA ta tb σ H Q := h
theorem r_nil {Q : List V → Hp → Prop} (h : Q [] H) : tNil σ H Q := h
theorem r_cons {tr : TA} {Q : List V → Hp → Prop} (h : ta σ H fun x H1 => tr σ H1 fun xs H2 => Q (x :: xs) H2) : tCons ta tr σ H Q := h
/-- a new object is laid -/
def NewO (o : HO) (H : Hp) (Q : VK) : Prop := ∀ p, H p = none → Q (.ref p) (upd H p o)
theorem r_tup {t : TA} (h : t σ H fun xs H1 => xs.length ≤ sizeLine ∧ NewO (.tup xs) H1 Q) : tTup t σ H Q := h
theorem r_lst {t : TA} (h : t σ H fun xs H1 => xs.length ≤ sizeLine ∧ NewO (.lst xs) H1 Q) : tLst t σ H Q := h
theorem r_call {sp : Sp} {dvs : List V} {E : XK} {t : TA} (h : t σ H fun vs H1 => sp (vs ++ dvs) H1 Q E) : tCall sp dvs E t σ H Q := h
theorem r_cb {r : List V → Hp → VK → Prop} {t : TA} (h : t σ H fun vs H1 => r vs H1 Q) : tCB r t σ H Q := h
theorem r_bm {T : String} {r : V → List V → Hp → VK → Prop} {t : TA} (h : ta σ H fun x H1 => tyV K T x H1 ∧ t σ H1 fun xs H2 => r x xs H2 Q) : tBM K T r ta t σ H Q := h
theorem r_bm0 {T : String} {r : V → List V → Hp → VK → Prop} (h : ta σ H fun x H1 => tyV K T x H1 ∧ r x [] H1 Q) : tBM0 K T r ta σ H Q := h
theorem r_isN (k : Q (.bl (decide (x = .non))) H) : (fun x y H Q => y = V.non ∧ Q (.bl (decide (x = .non))) H : R2) x .non H Q := ⟨rfl, k⟩
theorem sz_of {n : Nat} (h : n ≤ 100000) : n ≤ sizeLine := Nat.le_trans h (by decide)
theorem sz0 : ([] : List V).length ≤ sizeLine := Nat.zero_le _
theorem sz1 {a : V} : [a].length ≤ sizeLine := by show 1 ≤ sizeLine; decide
theorem sz2 {a b : V} : [a, b].length ≤ sizeLine := by show 2 ≤ sizeLine; decide
theorem sz3 {a b c : V} : [a, b, c].length ≤ sizeLine := by show 3 ≤ sizeLine; decide
theorem sz5 {a b c d e : V} : [a, b, c, d, e].length ≤ sizeLine := by show 5 ≤ sizeLine; decide
theorem sz_lt {n : Nat} (h : n < 100000) : n < sizeLine := Nat.lt_of_lt_of_le h (by decide)
/-- an if over a decided test -/
theorem ifd {p A B : Prop} [Decidable p] (h1 : p → A) (h2 : ¬ p → B) : if decide p = true then A else B := by
  by_cases h : p
  · rw [if_pos (decide_eq_true h)]; exact h1 h
  · rw [if_neg (by rw [decide_eq_false h]; decide)]; exact h2 h
theorem ifn {p A B : Prop} [Decidable p] (h1 : ¬ p → A) (h2 : p → B) : if (!decide p) = true then A else B := by
  by_cases h : p
  · rw [if_neg (by rw [decide_eq_true h]; decide)]; exact h2 h
  · rw [if_pos (by rw [decide_eq_false h]; rfl)]; exact h1 h
theorem ifb {A B : Prop} (h1 : b = true → A) (h2 : b = false → B) : if b = true then A else B := by
  cases b with
  | true => exact h1 rfl
  | false => exact h2 rfl
theorem ifnb {A B : Prop} (h1 : b = false → A) (h2 : b = true → B) : if (!b) = true then A else B := by
  cases b with
  | true => exact h2 rfl
  | false => exact h1 rfl
theorem ifT {A B : Prop} (h : b = true) (k : A) : if b = true then A else B := by rw [if_pos h]; exact k
theorem ifF {A B : Prop} (h : b = false) (k : B) : if b = true then A else B := by rw [if_neg (by rw [h]; decide)]; exact k
/-- items of a list, a tuple -/
theorem r_ixL {p : Addr} {xs : List V} (hs : SqL K H p xs) (ha : atI xs i = some v) (k : Q v H) : rIxL K (.ref p) (.int i) H Q := ⟨p, xs, i, v, rfl, rfl, hs, ha, k⟩
theorem r_ixT {p : Addr} {xs : List V} (hs : SqT K H p xs) (ha : atI xs i = some v) (k : Q v H) : rIxT K (.ref p) (.int i) H Q := ⟨p, xs, i, v, rfl, rfl, hs, ha, k⟩
theorem at_i {α : Type} {xs : List α} {i : Int} {v : α} (h0 : 0 ≤ i) (h : xs[i.toNat]? = some v) : atI xs i = some v := by
  obtain ⟨k, rfl⟩ := Int.eq_ofNat_of_zero_le h0
  exact atI_nat h
theorem r_inL {neg : Bool} {p : Addr} {xs : List V} (hs : SqL K H p xs) (hx : flatV x = true) (ha : xs.all flatV = true) (k : Q (.bl (if neg then !inV x xs else inV x xs)) H) : rIn K neg x (.ref p) H Q := ⟨p, xs, rfl, .inl hs, hx, ha, k⟩
theorem r_inT {neg : Bool} {p : Addr} {xs : List V} (hs : SqT K H p xs) (hx : flatV x = true) (ha : xs.all flatV = true) (k : Q (.bl (if neg then !inV x xs else inV x xs)) H) : rIn K neg x (.ref p) H Q := ⟨p, xs, rfl, .inr hs, hx, ha, k⟩
/-- data compared -/
theorem r_eqD {d e : PyData} (h1 : Td H x d) (h2 : Td H y e) (s1 : SeqAt.shaped d = true) (s2 : SeqAt.shaped e = true) (k : Q (.bl (PyData.eqv d e)) H) : rEqD K x y H Q := ⟨d, e, Td.dp d x h1, Td.dp e y h2, s1, s2, k⟩
theorem r_neD {d e : PyData} (h1 : Td H x d) (h2 : Td H y e) (s1 : SeqAt.shaped d = true) (s2 : SeqAt.shaped e = true) (k : Q (.bl (!PyData.eqv d e)) H) : rNeD K x y H Q := ⟨d, e, Td.dp d x h1, Td.dp e y h2, s1, s2, k⟩
end
section
variable {F0 H0 F H : Hp} {L : List (Addr × HO)} {Q : VK}
/-- a new object -/
theorem r_mk {o : HO} {A : Prop} (a : A) (Z : Zs F0 H0 F H L) (k : ∀ p H', Zs F0 H0 F H' ((p, o) :: L) → Q (.ref p) H') : A ∧ NewO o H Q := ⟨a, fun p hp => k p _ (Z.alloc hp)⟩
end
end SB
/-! Loops and comprehensions over the state kit; named operators. -/
namespace SB
open PySem L2

/-! ### operators by short names -/
abbrev qAdd : R2 := rI0 fun i j => .int (i + j)
abbrev qSub : R2 := rI0 fun i j => .int (i - j)
abbrev qMul : R2 := rI CMul fun i j => .int (i * j)
abbrev qDiv : R2 := rI CDiv fun i j => .int (i / j)
abbrev qMod : R2 := rI (fun _ j => 0 < j) fun i j => .int (i % j)
abbrev qLt : R2 := rI0 fun i j => .bl (decide (i < j))
abbrev qLe : R2 := rI0 fun i j => .bl (decide (i ≤ j))
abbrev qGt : R2 := rI0 fun i j => .bl (decide (j < i))
abbrev qGe : R2 := rI0 fun i j => .bl (decide (j ≤ i))
def qIsN : R2 := fun x y H Q => y = .non ∧ Q (.bl (decide (x = .non))) H
def qNotN : R2 := fun x y H Q => y = .non ∧ Q (.bl (!decide (x = .non))) H
def qLen (K : PySem.W.Frag) : List V → Hp → VK → Prop := fun xs H Q => ∃ p ys, xs = [.ref p] ∧ (SqL K H p ys ∨ SqT K H p ys) ∧ Q (.int ys.length) H
def qListOf (K : PySem.W.Frag) : List V → Hp → VK → Prop := fun xs H Q => ∃ p ys, xs = [.ref p] ∧ (SqL K H p ys ∨ SqT K H p ys) ∧ ∀ l, H l = none → Q (.ref l) (upd H l (.lst ys))
def qInt1 : List V → Hp → VK → Prop := fun xs H Q => (∃ i, xs = [.int i] ∧ Q (.int i) H) ∨ ∃ k, xs = [.bl k] ∧ Q (.int (if k then 1 else 0)) H
section
variable {X : Cx}
theorem op_isNq : OpR X (compareOp .Is) qIsN := op_isN
theorem op_notNq : OpR X (compareOp .IsNot) qNotN := op_notN
theorem call_lenq : CallR X (.builtin "len") (qLen X.K) := call_len_seq
theorem call_listq : CallR X (.type "list") (qListOf X.K) := call_list_of
theorem call_int1q : CallR X (.type "int") qInt1 := call_int1
end
section
variable {K : PySem.W.Frag} {σ : St} {H : Hp} {Q : VK} {x v : V} {p : Addr} {ys : List V} {i : Int} {b : Bool}
theorem r_qIsN (k : Q (.bl (decide (x = .non))) H) : qIsN x .non H Q := ⟨rfl, k⟩
theorem r_qNotN (k : Q (.bl (!decide (x = .non))) H) : qNotN x .non H Q := ⟨rfl, k⟩
theorem r_qIsN_t (k : Q (.bl true) H) : qIsN .non .non H Q := ⟨rfl, k⟩
theorem r_lenL (h : SqL K H p ys) (k : Q (.int (ys.length : Int)) H) : qLen K [.ref p] H Q := ⟨p, ys, rfl, .inl h, k⟩
theorem r_lenT (h : SqT K H p ys) (k : Q (.int (ys.length : Int)) H) : qLen K [.ref p] H Q := ⟨p, ys, rfl, .inr h, k⟩
theorem r_listL {F0 H0 F : Hp} {L : List (Addr × HO)} (h : SqL K H p ys) (Z : Zs F0 H0 F H L) (k : ∀ l H', Zs F0 H0 F H' ((l, .lst ys) :: L) → Q (.ref l) H') : qListOf K [.ref p] H Q := ⟨p, ys, rfl, .inl h, fun l hl => k l _ (Z.alloc hl)⟩
theorem r_intB (k : Q (.int (if b then 1 else 0)) H) : qInt1 [.bl b] H Q := .inr ⟨b, rfl, k⟩
theorem r_intI (k : Q (.int i) H) : qInt1 [.int i] H Q := .inl ⟨i, rfl, k⟩
end

/-! ### a list's methods over the ledger -/
section
variable {K : PySem.W.Frag} {F0 H0 F H : Hp} {L : List (Addr × HO)} {Q : VK} {l b : Addr} {xs zs : List V} {y : V} {i : Nat}
theorem ty_l (h : SqL K H l xs) : tyV K "list" (.ref l) H := .inl ⟨rfl, _, h⟩
theorem r_append (i : Nat) (Z : Zs F0 H0 F H L) (h : L[i]? = some (l, .lst xs)) (hz : xs.length < 100000) (k : ∀ H', Zs F0 H0 F H' (L.set i (l, .lst (xs ++ [y]))) → Q .non H') : rAppend (.ref l) [y] H Q :=
  ⟨l, xs, y, rfl, rfl, Z.get h, sz_lt hz, k _ (Z.setAt i h)⟩
theorem r_extend (i : Nat) (Z : Zs F0 H0 F H L) (h : L[i]? = some (l, .lst xs)) (hb : H b = some (.lst zs)) (hz : xs.length + zs.length ≤ 100000) (k : ∀ H', Zs F0 H0 F H' (L.set i (l, .lst (xs ++ zs))) → Q .non H') : rExtend (.ref l) [.ref b] H Q :=
  ⟨l, b, xs, zs, rfl, rfl, Z.get h, hb, sz_of hz, k _ (Z.setAt i h)⟩
theorem r_setL (i : Nat) {j : Nat} {v : V} {c : Int} {Q : Hp → Prop} (Z : Zs F0 H0 F H L) (h : L[i]? = some (l, .lst xs)) (hc : c = (j : Int)) (hj : j < xs.length) (k : ∀ H', Zs F0 H0 F H' (L.set i (l, .lst (xs.set j v))) → Q H') : rSetL (.ref l) (.int c) v H Q := by
  subst hc
  refine ⟨l, xs, (j : Int), j, rfl, rfl, Z.get h, ?_, k _ (Z.setAt i h)⟩
  unfold ixN
  rw [if_pos (by omega), if_pos (by omega)]
  simp
theorem r_cat {a : Addr} (Z : Zs F0 H0 F H L) (ha : H a = some (.lst xs)) (hb : H b = some (.lst zs)) (hz : xs.length + zs.length ≤ 100000) (k : ∀ p H', Zs F0 H0 F H' ((p, .lst (xs ++ zs)) :: L) → Q (.ref p) H') : rCat (.ref a) (.ref b) H Q :=
  ⟨a, b, xs, zs, rfl, rfl, ha, hb, sz_of hz, fun p hp => k p _ (Z.alloc hp)⟩
theorem r_rep {a : Addr} {n : Int} (Z : Zs F0 H0 F H L) (ha : H a = some (.lst xs)) (h0 : 0 ≤ n) (h1 : n ≤ 100000) (hz : xs.length * n.toNat ≤ 100000) (k : ∀ p H', Zs F0 H0 F H' ((p, .lst (List.flatten (List.replicate n.toNat xs))) :: L) → Q (.ref p) H') : rRep (.ref a) (.int n) H Q := by
  refine ⟨a, n, xs, rfl, rfl, ha, by omega, by omega, sz_of hz, fun p hp => ?_⟩
  exact k p _ (Z.alloc hp)
theorem r_slL {a : Addr} {lo hi : Option Int} (Z : Zs F0 H0 F H L) (ha : SqL K H a xs) (k : ∀ p H', Zs F0 H0 F H' ((p, .lst (cutV xs lo hi)) :: L) → Q (.ref p) H') : rSlL K (.ref a) lo hi H Q := ⟨a, xs, rfl, ha, fun p hp => k p _ (Z.alloc hp)⟩
end

/-! ### for loops -/
/-- what a for over range(n) asks behind its argument -/
def FR1 (j : Nat) (tb : TS) (D : Ends) (σ : St) (vs : List V) (H1 : Hp) : Prop := ∃ n : Int, vs = [.int n] ∧ -(2 ^ 62) ≤ n ∧ n < 2 ^ 62 ∧ ∃ W : Nat → Nat → St → Hp → Prop, (∃ m, W 0 m σ H1) ∧ ∀ i m σ H, W i m σ H →
  ((Itr 0 n.toNat).stop i H ∧ D.nx σ H) ∨ ((Itr 0 n.toNat).go i H ∧ ∃ N : St → Hp → Prop, (∀ σ' H', N σ' H' → ∃ m', m' < m ∧ W (i + 1) m' σ' H') ∧ ∀ x H', (Itr 0 n.toNat).yld i H x H' → gName j x σ H' fun σ2 H2 => tb { D with nx := N, ct := N, bk := D.nx } σ2 H2)
def FR2 (j : Nat) (tb : TS) (D : Ends) (σ : St) (vs : List V) (H1 : Hp) : Prop := ∃ lo n : Int, vs = [.int lo, .int n] ∧ (-(2 ^ 62) ≤ lo ∧ lo < 2 ^ 62 ∧ -(2 ^ 62) ≤ n ∧ n < 2 ^ 62) ∧ ∃ W : Nat → Nat → St → Hp → Prop, (∃ m, W 0 m σ H1) ∧ ∀ i m σ H, W i m σ H →
  ((Itr lo (n - lo).toNat).stop i H ∧ D.nx σ H) ∨ ((Itr lo (n - lo).toNat).go i H ∧ ∃ N : St → Hp → Prop, (∀ σ' H', N σ' H' → ∃ m', m' < m ∧ W (i + 1) m' σ' H') ∧ ∀ x H', (Itr lo (n - lo).toNat).yld i H x H' → gName j x σ H' fun σ2 H2 => tb { D with nx := N, ct := N, bk := D.nx } σ2 H2)
/-- .. a for over a list -/
def FRL (K : PySem.W.Frag) (g : TG) (tb : TS) (D : Ends) (σ : St) (x : V) (H1 : Hp) : Prop := ∃ a, x = .ref a ∧ (∃ xs, SqL K H1 a xs) ∧ ∃ W : Nat → Nat → St → Hp → Prop, (∃ m, W 0 m σ H1) ∧ ∀ i m σ H, W i m σ H →
  ((Itl K a).stop i H ∧ D.nx σ H) ∨ ((Itl K a).go i H ∧ ∃ N : St → Hp → Prop, (∀ σ' H', N σ' H' → ∃ m', m' < m ∧ W (i + 1) m' σ' H') ∧ ∀ x H', (Itl K a).yld i H x H' → g x σ H' fun σ2 H2 => tb { D with nx := N, ct := N, bk := D.nx } σ2 H2)
/-- .. a for over a tuple -/
def FRT (K : PySem.W.Frag) (g : TG) (tb : TS) (D : Ends) (σ : St) (x : V) (H1 : Hp) : Prop := ∃ a, x = .ref a ∧ (∃ xs, SqT K H1 a xs) ∧ ∃ W : Nat → Nat → St → Hp → Prop, (∃ m, W 0 m σ H1) ∧ ∀ i m σ H, W i m σ H →
  ((Itt K a).stop i H ∧ D.nx σ H) ∨ ((Itt K a).go i H ∧ ∃ N : St → Hp → Prop, (∀ σ' H', N σ' H' → ∃ m', m' < m ∧ W (i + 1) m' σ' H') ∧ ∀ x H', (Itt K a).yld i H x H' → g x σ H' fun σ2 H2 => tb { D with nx := N, ct := N, bk := D.nx } σ2 H2)
/-- .. a for over enumerate(list) -/
def FRE (K : PySem.W.Frag) (g : TG) (tb : TS) (D : Ends) (σ : St) (vs : List V) (H1 : Hp) : Prop := ∃ a xs, vs = [.ref a] ∧ SqL K H1 a xs ∧ ∃ W : Nat → Nat → St → Hp → Prop, (∃ m, W 0 m σ H1) ∧ ∀ i m σ H, W i m σ H →
  ((Ite K a).stop i H ∧ D.nx σ H) ∨ ((Ite K a).go i H ∧ ∃ N : St → Hp → Prop, (∀ σ' H', N σ' H' → ∃ m', m' < m ∧ W (i + 1) m' σ' H') ∧ ∀ x H', (Ite K a).yld i H x H' → g x σ H' fun σ2 H2 => tb { D with nx := N, ct := N, bk := D.nx } σ2 H2)
section
variable {K : PySem.W.Frag} {σ : St} {H : Hp} {Q : VK} {D : Ends} {ta : TA} {te : TE} {tb : TS} {j : Nat} {g : TG} {a : Addr} {xs : List V}
theorem r_forR1 (h : ta σ H (FR1 j tb D σ)) : tFor (iRng1 ta) (gName j) tb D σ H := h
theorem r_forR2 (h : ta σ H (FR2 j tb D σ)) : tFor (iRng2 ta) (gName j) tb D σ H := h
theorem r_forL (h : te σ H (FRL K g tb D σ)) : tFor (iList K te) g tb D σ H := h
theorem r_forT (h : te σ H (FRT K g tb D σ)) : tFor (iTup K te) g tb D σ H := h
theorem r_forE (h : ta σ H (FRE K g tb D σ)) : tFor (iEnum K ta) g tb D σ H := h
theorem r_rng1 {n : Int} (hn : 0 ≤ n ∧ n ≤ 100000) (Pv : Nat → St → Hp → Prop) (h0 : Pv 0 σ H)
    (hs : ∀ (i : Nat) σ' H', (i : Int) < n → Pv i σ' H' → tb { D with nx := Pv (i + 1), ct := Pv (i + 1), bk := D.nx } (σ'.set j (some (.int (i : Int)))) H')
    (hd : ∀ σ' H', Pv n.toNat σ' H' → D.nx σ' H') : FR1 j tb D σ [.int n] H :=
  ⟨n, rfl, by omega, by omega, for_range (lo := 0) (n := n.toNat) Pv h0 (fun i σ' H' hi p => by
    have e0 : (0 : Int) + (i : Int) = (i : Int) := Int.zero_add _
    show tb { D with nx := Pv (i + 1), ct := Pv (i + 1), bk := D.nx } (σ'.set j (some (.int ((0 : Int) + (i : Int))))) H'
    rw [e0]
    exact hs i σ' H' (by omega) p) hd⟩
theorem r_rng2 {lo n : Int} (hn : 0 ≤ lo ∧ lo ≤ 100000 ∧ -100000 ≤ n ∧ n ≤ 100000) (Pv : Nat → St → Hp → Prop) (h0 : Pv 0 σ H)
    (hs : ∀ (i : Nat) σ' H', lo + (i : Int) < n → Pv i σ' H' → tb { D with nx := Pv (i + 1), ct := Pv (i + 1), bk := D.nx } (σ'.set j (some (.int (lo + (i : Int))))) H')
    (hd : ∀ σ' H', Pv (n - lo).toNat σ' H' → D.nx σ' H') : FR2 j tb D σ [.int lo, .int n] H :=
  ⟨lo, n, rfl, ⟨by omega, by omega, by omega, by omega⟩, for_range (lo := lo) (n := (n - lo).toNat) Pv h0 (fun i σ' H' hi p => hs i σ' H' (by omega) p) hd⟩
theorem r_lstI (hx : SqL K H a xs) (Pv : Nat → St → Hp → Prop) (h0 : Pv 0 σ H) (hl : ∀ i σ' H', i ≤ xs.length → Pv i σ' H' → SqL K H' a xs)
    (hs : ∀ i x σ' H', xs[i]? = some x → Pv i σ' H' → g x σ' H' fun σ2 H2 => tb { D with nx := Pv (i + 1), ct := Pv (i + 1), bk := D.nx } σ2 H2)
    (hd : ∀ σ' H', Pv xs.length σ' H' → D.nx σ' H') : FRL K g tb D σ (.ref a) H := ⟨a, rfl, ⟨xs, hx⟩, for_list Pv h0 hl hs hd⟩
theorem r_tupI (hx : SqT K H a xs) (Pv : Nat → St → Hp → Prop) (h0 : Pv 0 σ H) (hl : ∀ i σ' H', i ≤ xs.length → Pv i σ' H' → SqT K H' a xs)
    (hs : ∀ i x σ' H', xs[i]? = some x → Pv i σ' H' → g x σ' H' fun σ2 H2 => tb { D with nx := Pv (i + 1), ct := Pv (i + 1), bk := D.nx } σ2 H2)
    (hd : ∀ σ' H', Pv xs.length σ' H' → D.nx σ' H') : FRT K g tb D σ (.ref a) H := ⟨a, rfl, ⟨xs, hx⟩, for_tup Pv h0 hl hs hd⟩
theorem r_enumI (hx : SqL K H a xs) (Pv : Nat → St → Hp → Prop) (h0 : Pv 0 σ H) (hl : ∀ i σ' H', i ≤ xs.length → Pv i σ' H' → SqL K H' a xs)
    (hs : ∀ i x T σ' H', xs[i]? = some x → Pv i σ' H' → H' T = none → g (.ref T) σ' (upd H' T (.tup [.int (i : Nat), x])) fun σ2 H2 => tb { D with nx := Pv (i + 1), ct := Pv (i + 1), bk := D.nx } σ2 H2)
    (hd : ∀ σ' H', Pv xs.length σ' H' → D.nx σ' H') : FRE K g tb D σ [.ref a] H := by
  refine ⟨a, xs, rfl, hx, fun i m σ H => m = xs.length - i ∧ i ≤ xs.length ∧ Pv i σ H, ⟨xs.length, by simp, Nat.zero_le _, h0⟩, ?_⟩
  rintro i m σ H ⟨rfl, hi, p⟩
  have q := hl i σ H hi p
  by_cases hlt : i < xs.length
  · refine .inr ⟨⟨xs, xs[i], q, by simp [hlt]⟩, Pv (i + 1), fun σ' H' p' => ⟨xs.length - (i + 1), by omega, rfl, hlt, p'⟩, fun x H' y => ?_⟩
    obtain ⟨T, x', rfl, hT, rfl, hx'⟩ := y
    exact hs i x' T σ H (hx' xs q) p hT
  · have e : i = xs.length := by omega
    subst e
    exact .inl ⟨⟨xs, q, Nat.le_refl _⟩, hd σ H p⟩
/-- a while: W falls -/
theorem r_while {tc : TT} (W : Nat → St → Hp → Prop) (m0 : Nat) (h0 : W m0 σ H)
    (hs : ∀ m σ' H', W m σ' H' → tc σ' H' fun b H1 => if b = true then ∃ N : St → Hp → Prop, (∀ σ2 H2, N σ2 H2 → ∃ m', m' < m ∧ W m' σ2 H2) ∧ tb { D with nx := N, ct := N, bk := D.nx } σ' H1 else D.nx σ' H1) : tWhile tc tb D σ H := ⟨W, ⟨m0, h0⟩, hs⟩
end

/-! ### comprehensions -/
def LR1 (j : Nat) (tt : TT) (te : TE) (vs : List Nat) (σ : St) (Q : VK) (us : List V) (H1 : Hp) : Prop := ∃ n : Int, us = [.int n] ∧ -(2 ^ 62) ≤ n ∧ n < 2 ^ 62 ∧ ∀ D, H1 D = none → ∃ W : Nat → Nat → Hp → Prop, (∃ m, W 0 m (upd H1 D (.lst []))) ∧ ∀ i m H, W i m H →
  ((Itr 0 n.toNat).stop i H ∧ Q (.ref D) H) ∨ ((Itr 0 n.toNat).go i H ∧ ∃ Nx : Hp → Prop, (∀ H', Nx H' → ∃ m', m' < m ∧ W (i + 1) m' H') ∧ ∀ x H', (Itr 0 n.toNat).yld i H x H' → gName j x (wipe σ vs) H' fun σ2 H2 => wipe σ2 vs = wipe σ vs ∧ tt σ2 H2 fun b H3 =>
    if b = true then te σ2 H3 fun y H4 => ∃ acc, H4 D = some (.lst acc) ∧ acc.length < sizeLine ∧ Nx (upd H4 D (.lst (acc ++ [y]))) else Nx H3)
def LRL (K : PySem.W.Frag) (g : TG) (tt : TT) (te : TE) (vs : List Nat) (σ : St) (Q : VK) (x : V) (H1 : Hp) : Prop := ∃ a, x = .ref a ∧ (∃ xs, SqL K H1 a xs) ∧ ∀ D, H1 D = none → ∃ W : Nat → Nat → Hp → Prop, (∃ m, W 0 m (upd H1 D (.lst []))) ∧ ∀ i m H, W i m H →
  ((Itl K a).stop i H ∧ Q (.ref D) H) ∨ ((Itl K a).go i H ∧ ∃ Nx : Hp → Prop, (∀ H', Nx H' → ∃ m', m' < m ∧ W (i + 1) m' H') ∧ ∀ x H', (Itl K a).yld i H x H' → g x (wipe σ vs) H' fun σ2 H2 => wipe σ2 vs = wipe σ vs ∧ tt σ2 H2 fun b H3 =>
    if b = true then te σ2 H3 fun y H4 => ∃ acc, H4 D = some (.lst acc) ∧ acc.length < sizeLine ∧ Nx (upd H4 D (.lst (acc ++ [y]))) else Nx H3)
def LRT (K : PySem.W.Frag) (g : TG) (tt : TT) (te : TE) (vs : List Nat) (σ : St) (Q : VK) (x : V) (H1 : Hp) : Prop := ∃ a, x = .ref a ∧ (∃ xs, SqT K H1 a xs) ∧ ∀ D, H1 D = none → ∃ W : Nat → Nat → Hp → Prop, (∃ m, W 0 m (upd H1 D (.lst []))) ∧ ∀ i m H, W i m H →
  ((Itt K a).stop i H ∧ Q (.ref D) H) ∨ ((Itt K a).go i H ∧ ∃ Nx : Hp → Prop, (∀ H', Nx H' → ∃ m', m' < m ∧ W (i + 1) m' H') ∧ ∀ x H', (Itt K a).yld i H x H' → g x (wipe σ vs) H' fun σ2 H2 => wipe σ2 vs = wipe σ vs ∧ tt σ2 H2 fun b H3 =>
    if b = true then te σ2 H3 fun y H4 => ∃ acc, H4 D = some (.lst acc) ∧ acc.length < sizeLine ∧ Nx (upd H4 D (.lst (acc ++ [y]))) else Nx H3)
def LRE (K : PySem.W.Frag) (g : TG) (tt : TT) (te : TE) (vs : List Nat) (σ : St) (Q : VK) (us : List V) (H1 : Hp) : Prop := ∃ a xs, us = [.ref a] ∧ SqL K H1 a xs ∧ ∀ D, H1 D = none → ∃ W : Nat → Nat → Hp → Prop, (∃ m, W 0 m (upd H1 D (.lst []))) ∧ ∀ i m H, W i m H →
  ((Ite K a).stop i H ∧ Q (.ref D) H) ∨ ((Ite K a).go i H ∧ ∃ Nx : Hp → Prop, (∀ H', Nx H' → ∃ m', m' < m ∧ W (i + 1) m' H') ∧ ∀ x H', (Ite K a).yld i H x H' → g x (wipe σ vs) H' fun σ2 H2 => wipe σ2 vs = wipe σ vs ∧ tt σ2 H2 fun b H3 =>
    if b = true then te σ2 H3 fun y H4 => ∃ acc, H4 D = some (.lst acc) ∧ acc.length < sizeLine ∧ Nx (upd H4 D (.lst (acc ++ [y]))) else Nx H3)
/-- what stands between the turns: the list made so far at Dl, the frozen part F', the ledger L -/
def CW (F0 H0 F : Hp) (L : List (Addr × HO)) (P : Nat → List V → Hp → Prop) (Dl : Addr) (i : Nat) (H' : Hp) : Prop := ∃ F' acc, Zs F0 H0 F' H' ((Dl, .lst acc) :: L) ∧ Same F F' ∧ acc.length ≤ i ∧ P i acc F'
/-- what the element's value is wanted for -/
def CY (F0 H0 F : Hp) (L : List (Addr × HO)) (P : Nat → List V → Hp → Prop) (Dl : Addr) (i : Nat) (y : V) (H4 : Hp) : Prop := ∃ acc, H4 Dl = some (.lst acc) ∧ acc.length < sizeLine ∧ CW F0 H0 F L P Dl (i + 1) (upd H4 Dl (.lst (acc ++ [y])))
section
variable {K : PySem.W.Frag} {σ : St} {F0 H0 F H : Hp} {L : List (Addr × HO)} {Q : VK} {ta : TA} {te tl : TE} {tt : TT} {vs : List Nat} {j : Nat} {g : TG} {a : Addr} {xs : List V} {P : Nat → List V → Hp → Prop}
theorem r_lcR1 (h : ta σ H (LR1 j tt te vs σ Q)) : tLc (iRng1 ta) (gName j) tt te vs σ H Q := h
theorem r_lcL (h : tl σ H (LRL K g tt te vs σ Q)) : tLc (iList K tl) g tt te vs σ H Q := h
theorem r_lcT (h : tl σ H (LRT K g tt te vs σ Q)) : tLc (iTup K tl) g tt te vs σ H Q := h
theorem r_lcE (h : ta σ H (LRE K g tt te vs σ Q)) : tLc (iEnum K ta) g tt te vs σ H Q := h
theorem cy {Dl : Addr} {i : Nat} {y : V} {F4 H4 : Hp} {acc : List V} (Z : Zs F0 H0 F4 H4 ((Dl, .lst acc) :: L)) (s : Same F F4) (hl : acc.length ≤ i) (hi : i < 100000) (p : P (i + 1) (acc ++ [y]) F4) : CY F0 H0 F L P Dl i y H4 :=
  ⟨acc, Z.get (i := 0) rfl, sz_lt (by omega), F4, acc ++ [y], Z.setAt 0 rfl, s, by rw [List.length_append, List.length_singleton]; omega, p⟩
theorem cn {Dl : Addr} {i : Nat} {F4 H4 : Hp} {acc : List V} (Z : Zs F0 H0 F4 H4 ((Dl, .lst acc) :: L)) (s : Same F F4) (hl : acc.length ≤ i) (p : P (i + 1) acc F4) : CW F0 H0 F L P Dl (i + 1) H4 := ⟨F4, acc, Z, s, by omega, p⟩
theorem lc_rng {n : Int} (hn : 0 ≤ n ∧ n ≤ 100000) (Z : Zs F0 H0 F H L) (P : Nat → List V → Hp → Prop) (hw : ∀ x, wipe ((wipe σ vs).set j (some x)) vs = wipe σ vs) (h0 : P 0 [] F)
    (hs : ∀ (i : Nat) Dl F' H' acc, (i : Int) < n → Zs F0 H0 F' H' ((Dl, .lst acc) :: L) → Same F F' → acc.length ≤ i → P i acc F' →
      tt ((wipe σ vs).set j (some (.int (i : Int)))) H' fun b H3 => if b = true then te ((wipe σ vs).set j (some (.int (i : Int)))) H3 (CY F0 H0 F L P Dl i) else CW F0 H0 F L P Dl (i + 1) H3)
    (hd : ∀ Dl F' H' acc, Zs F0 H0 F' H' ((Dl, .lst acc) :: L) → Same F F' → P n.toNat acc F' → Q (.ref Dl) H') : LR1 j tt te vs σ Q [.int n] H :=
  ⟨n, rfl, by omega, by omega, fun Dl hD => lc_range (lo := 0) (n := n.toNat) (CW F0 H0 F L P Dl) ⟨F, [], Z.alloc hD, Same.refl _, Nat.le_refl _, h0⟩ (fun i H' hi p => by
    obtain ⟨F', acc, Z', s', hl, p'⟩ := p
    have e0 : (0 : Int) + (i : Int) = (i : Int) := Int.zero_add _
    show wipe ((wipe σ vs).set j (some (.int ((0 : Int) + (i : Int))))) vs = wipe σ vs ∧ tt ((wipe σ vs).set j (some (.int ((0 : Int) + (i : Int))))) H' fun b H3 => if b = true then te ((wipe σ vs).set j (some (.int ((0 : Int) + (i : Int))))) H3 (CY F0 H0 F L P Dl i) else CW F0 H0 F L P Dl (i + 1) H3
    rw [e0]
    exact ⟨hw _, hs i Dl F' H' acc (by omega) Z' s' hl p'⟩) (fun H' p => by
    obtain ⟨F', acc, Z', s', hl, p'⟩ := p
    exact hd Dl F' H' acc Z' s' p')⟩
theorem lc_lst (hx : SqL K H a xs) (Z : Zs F0 H0 F H L) (P : Nat → List V → Hp → Prop) (h0 : P 0 [] F) (hsrc : ∀ F' H', Zs F0 H0 F' H' L → Same F F' → SqL K H' a xs)
    (hs : ∀ (i : Nat) x Dl F' H' acc, xs[i]? = some x → Zs F0 H0 F' H' ((Dl, .lst acc) :: L) → Same F F' → acc.length ≤ i → P i acc F' →
      g x (wipe σ vs) H' fun σ2 H2 => wipe σ2 vs = wipe σ vs ∧ tt σ2 H2 fun b H3 => if b = true then te σ2 H3 (CY F0 H0 F L P Dl i) else CW F0 H0 F L P Dl (i + 1) H3)
    (hd : ∀ Dl F' H' acc, Zs F0 H0 F' H' ((Dl, .lst acc) :: L) → Same F F' → P xs.length acc F' → Q (.ref Dl) H') : LRL K g tt te vs σ Q (.ref a) H :=
  ⟨a, rfl, ⟨xs, hx⟩, fun Dl hD => lc_list (xs := xs) (CW F0 H0 F L P Dl) ⟨F, [], Z.alloc hD, Same.refl _, Nat.le_refl _, h0⟩ (fun i H' hi p => by
    obtain ⟨F', acc, Z', s', hl, p'⟩ := p
    exact hsrc F' H' Z'.drop s') (fun i x H' hi p => by
    obtain ⟨F', acc, Z', s', hl, p'⟩ := p
    exact hs i x Dl F' H' acc hi Z' s' hl p') (fun H' p => by
    obtain ⟨F', acc, Z', s', hl, p'⟩ := p
    exact hd Dl F' H' acc Z' s' p')⟩
theorem lc_tpl (hx : SqT K H a xs) (Z : Zs F0 H0 F H L) (P : Nat → List V → Hp → Prop) (h0 : P 0 [] F) (hsrc : ∀ F' H', Zs F0 H0 F' H' L → Same F F' → SqT K H' a xs)
    (hs : ∀ (i : Nat) x Dl F' H' acc, xs[i]? = some x → Zs F0 H0 F' H' ((Dl, .lst acc) :: L) → Same F F' → acc.length ≤ i → P i acc F' →
      g x (wipe σ vs) H' fun σ2 H2 => wipe σ2 vs = wipe σ vs ∧ tt σ2 H2 fun b H3 => if b = true then te σ2 H3 (CY F0 H0 F L P Dl i) else CW F0 H0 F L P Dl (i + 1) H3)
    (hd : ∀ Dl F' H' acc, Zs F0 H0 F' H' ((Dl, .lst acc) :: L) → Same F F' → P xs.length acc F' → Q (.ref Dl) H') : LRT K g tt te vs σ Q (.ref a) H :=
  ⟨a, rfl, ⟨xs, hx⟩, fun Dl hD => lc_tup (xs := xs) (CW F0 H0 F L P Dl) ⟨F, [], Z.alloc hD, Same.refl _, Nat.le_refl _, h0⟩ (fun i H' hi p => by
    obtain ⟨F', acc, Z', s', hl, p'⟩ := p
    exact hsrc F' H' Z'.drop s') (fun i x H' hi p => by
    obtain ⟨F', acc, Z', s', hl, p'⟩ := p
    exact hs i x Dl F' H' acc hi Z' s' hl p') (fun H' p => by
    obtain ⟨F', acc, Z', s', hl, p'⟩ := p
    exact hd Dl F' H' acc Z' s' p')⟩
theorem lc_enm (hx : SqL K H a xs) (Z : Zs F0 H0 F H L) (P : Nat → List V → Hp → Prop) (h0 : P 0 [] F) (hsrc : ∀ F' H', Zs F0 H0 F' H' L → Same F F' → SqL K H' a xs)
    (hs : ∀ (i : Nat) x T Dl F' H' acc, xs[i]? = some x → Zs F0 H0 F' H' ((T, .tup [.int (i : Nat), x]) :: (Dl, .lst acc) :: L) → Same F F' → acc.length ≤ i → P i acc F' →
      g (.ref T) (wipe σ vs) H' fun σ2 H2 => wipe σ2 vs = wipe σ vs ∧ tt σ2 H2 fun b H3 => if b = true then te σ2 H3 (CY F0 H0 F L P Dl i) else CW F0 H0 F L P Dl (i + 1) H3)
    (hd : ∀ Dl F' H' acc, Zs F0 H0 F' H' ((Dl, .lst acc) :: L) → Same F F' → P xs.length acc F' → Q (.ref Dl) H') : LRE K g tt te vs σ Q [.ref a] H := by
  refine ⟨a, xs, rfl, hx, fun Dl hD => ⟨fun i m H => m = xs.length - i ∧ i ≤ xs.length ∧ CW F0 H0 F L P Dl i H, ⟨xs.length, rfl, Nat.zero_le _, F, [], Z.alloc hD, Same.refl _, Nat.le_refl _, h0⟩, ?_⟩⟩
  rintro i m H' ⟨rfl, hi, p⟩
  obtain ⟨F', acc, Z', s', hl, p'⟩ := p
  have q := hsrc F' H' Z'.drop s'
  by_cases hlt : i < xs.length
  · refine .inr ⟨⟨xs, xs[i], q, by simp [hlt]⟩, CW F0 H0 F L P Dl (i + 1), fun H'' p'' => ⟨xs.length - (i + 1), by omega, rfl, hlt, p''⟩, fun x H'' y => ?_⟩
    obtain ⟨T, x', rfl, hT, rfl, hx'⟩ := y
    exact hs i x' T Dl F' _ acc (hx' xs q) (Z'.alloc hT) s' hl p'
  · have e : i = xs.length := by omega
    subst e
    exact .inl ⟨⟨xs, q, Nat.le_refl _⟩, hd Dl F' H' acc Z' s' p'⟩
end
end SB
/-! Promises by the number of arguments; more readings; a result that is data. -/
namespace SB
open PySem L2
def sp1 (f : V → Hp → VK → XK → Prop) : Sp := fun vs H Q E => ∃ a, vs = [a] ∧ f a H Q E
def sp2 (f : V → V → Hp → VK → XK → Prop) : Sp := fun vs H Q E => ∃ a b, vs = [a, b] ∧ f a b H Q E
def sp3 (f : V → V → V → Hp → VK → XK → Prop) : Sp := fun vs H Q E => ∃ a b c, vs = [a, b, c] ∧ f a b c H Q E
def sp4 (f : V → V → V → V → Hp → VK → XK → Prop) : Sp := fun vs H Q E => ∃ a b c d, vs = [a, b, c, d] ∧ f a b c d H Q E
def sp5 (f : V → V → V → V → V → Hp → VK → XK → Prop) : Sp := fun vs H Q E => ∃ a b c d e, vs = [a, b, c, d, e] ∧ f a b c d e H Q E
def sp6 (f : V → V → V → V → V → V → Hp → VK → XK → Prop) : Sp := fun vs H Q E => ∃ a b c d e g, vs = [a, b, c, d, e, g] ∧ f a b c d e g H Q E
section
variable {K : PySem.W.Frag} {σ : St} {H : Hp} {Q : VK} {D : Ends} {ta tb tc : TE} {v x y a b c d : V} {E : XK}
theorem r_sp1 {f : V → Hp → VK → XK → Prop} (h : f a H Q E) : sp1 f ([a] ++ []) H Q E := ⟨a, rfl, h⟩
theorem r_sp2 {f : V → V → Hp → VK → XK → Prop} (h : f a b H Q E) : sp2 f ([a, b] ++ []) H Q E := ⟨a, b, rfl, h⟩
theorem r_sp3 {f : V → V → V → Hp → VK → XK → Prop} (h : f a b c H Q E) : sp3 f ([a, b, c] ++ []) H Q E := ⟨a, b, c, rfl, h⟩
theorem r_sp4 {f : V → V → V → V → Hp → VK → XK → Prop} (h : f a b c d H Q E) : sp4 f ([a, b, c, d] ++ []) H Q E := ⟨a, b, c, d, rfl, h⟩
theorem r_sp5 {f : V → V → V → V → V → Hp → VK → XK → Prop} {e : V} (h : f a b c d e H Q E) : sp5 f ([a, b, c, d, e] ++ []) H Q E := ⟨a, b, c, d, e, rfl, h⟩
theorem r_sp6 {f : V → V → V → V → V → V → Hp → VK → XK → Prop} {e g : V} (h : f a b c d e g H Q E) : sp6 f ([a, b, c, d, e, g] ++ []) H Q E := ⟨a, b, c, d, e, g, rfl, h⟩
theorem r_sp1m {f : V → Hp → VK → XK → Prop} (h : f a H Q E) : sp1 f (a :: ([] ++ [])) H Q E := ⟨a, rfl, h⟩
theorem r_sp2m {f : V → V → Hp → VK → XK → Prop} (h : f a b H Q E) : sp2 f (a :: ([b] ++ [])) H Q E := ⟨a, b, rfl, h⟩
theorem r_sp3m {f : V → V → V → Hp → VK → XK → Prop} (h : f a b c H Q E) : sp3 f (a :: ([b, c] ++ [])) H Q E := ⟨a, b, c, rfl, h⟩
theorem r_sp4m {f : V → V → V → V → Hp → VK → XK → Prop} (h : f a b c d H Q E) : sp4 f (a :: ([b, c, d] ++ [])) H Q E := ⟨a, b, c, d, rfl, h⟩
theorem r_cut {t u : TS} (Mid : St → Hp → Prop) (h : t { D with nx := Mid } σ H) (k : ∀ σ' H', Mid σ' H' → u D σ' H') : Evl.tCut t u D σ H := ⟨Mid, h, k⟩
theorem r_chain {r r' : R2} (h : ta σ H fun x H1 => tb σ H1 fun y H2 => r x y H2 fun z H3 => ∃ k, z = .bl k ∧ (if k = true then tc σ H3 fun w' H4 => r' y w' H4 Q else Q (.bl false) H3)) : tChain r r' ta tb tc σ H Q := h
theorem r_sl {r : V → Option Int → Option Int → Hp → VK → Prop} {tl th : TO} (h : ta σ H fun x H1 => tl σ H1 fun l H2 => th σ H2 fun u H3 => r x l u H3 Q) : tSl r ta tl th σ H Q := h
theorem r_nopart {Q : Option Int → Hp → Prop} (h : Q none H) : tNoPart σ H Q := h
theorem r_part {Q : Option Int → Hp → Prop} (h : ta σ H fun x H1 => ∃ i, x = .int i ∧ Q (some i) H1) : tPart ta σ H Q := h
theorem r_some {n : Int} {P : Int → Prop} (k : P n) : ∃ i, V.int n = V.int i ∧ P i := ⟨n, rfl, k⟩
theorem r_gsub {t : TSet} {Q : St → Hp → Prop} (h : ta σ H fun o H1 => tb σ H1 fun i H2 => t o i v H2 fun H3 => Q σ H3) : gSub ta tb t v σ H Q := h
end
/-- a def's value that is data: it lies in a frozen part F' that begins as F -/
def Ret (F H : Hp) (Q : VK) (d : PyData) : Prop := ∀ F' H' v, Zs F H F' H' [] → Td F' v d → Q v H'

/-! ### data compared -/
theorem eqv_refl {d : PyData} (h : SeqAt.shaped d = true) : PyData.eqv d d = true := SeqAt.eqv_refl d (SeqAt.canLay_of_shaped h)
theorem shaped_of {d : PyData} (h1 : d.canLay0 = true) (h2 : d.depth ≤ 64) : SeqAt.shaped d = true := by
  show (d.canLay0 && decide (d.depth ≤ 64)) = true
  rw [h1, decide_eq_true h2] <;> rfl
theorem lay_map {α : Type} {f : α → PyData} (h : ∀ a, (f a).canLay0 = true) : ∀ l : List α, PyData.canLayAll0 (l.map f) = true
  | [] => rfl
  | a :: l => by
    show ((f a).canLay0 && PyData.canLayAll0 (l.map f)) = true
    rw [h a, lay_map h l] <;> rfl
theorem dep_map {α : Type} {f : α → PyData} {n : Nat} (h : ∀ a, (f a).depth ≤ n) : ∀ l : List α, PyData.depthAll (l.map f) ≤ n
  | [] => Nat.zero_le _
  | a :: l => by
    show max (f a).depth (PyData.depthAll (l.map f)) ≤ n
    have h1 := h a
    have h2 := dep_map h l
    omega
theorem shaped_map {α : Type} {f : α → PyData} {n : Nat} (hn : n ≤ 60) (h : ∀ a, (f a).canLay0 = true) (h2 : ∀ a, (f a).depth ≤ n) (l : List α) : SeqAt.shaped (.list (l.map f)) = true :=
  shaped_of (lay_map h l) (by have := dep_map h2 l; show PyData.depthAll (l.map f) + 1 ≤ 64; omega)
theorem shaped_ints (l : List Int) : SeqAt.shaped (.list (l.map PyData.int)) = true := shaped_map (n := 0) (by decide) (fun _ => rfl) (fun _ => Nat.le_refl _) l
theorem eqvAll_ints : ∀ l m : List Int, PyData.eqvAll (l.map PyData.int) (m.map PyData.int) = decide (l = m)
  | [], [] => rfl
  | [], _ :: _ => rfl
  | _ :: _, [] => rfl
  | a :: l, b :: m => by
    show ((a == b) && PyData.eqvAll (l.map PyData.int) (m.map PyData.int)) = _
    rw [eqvAll_ints l m]
    by_cases h : a = b
    · subst h
      by_cases h2 : l = m
      · subst h2; simp
      · rw [decide_eq_false h2, decide_eq_false (fun q => h2 (List.cons.inj q).2), Bool.and_false]
    · rw [decide_eq_false (fun q => h (List.cons.inj q).1), beq_eq_false_iff_ne.mpr h, Bool.false_and]
theorem eqv_ints (l m : List Int) : PyData.eqv (.list (l.map PyData.int)) (.list (m.map PyData.int)) = decide (l = m) := eqvAll_ints l m
theorem inV_int {x : Int} : ∀ l : List Int, inV (.int x) (l.map V.int) = decide (x ∈ l)
  | [] => rfl
  | a :: l => by
    have ih := inV_int (x := x) l
    unfold inV at ih ⊢
    rw [List.map_cons, List.any_cons, ih]
    show ((a == x) || decide (x ∈ l)) = _
    by_cases h : a = x
    · subst h; simp
    · rw [beq_eq_false_iff_ne.mpr h, Bool.false_or]
      by_cases h2 : x ∈ l
      · rw [decide_eq_true h2, decide_eq_true (List.mem_cons_of_mem _ h2)]
      · rw [decide_eq_false h2, decide_eq_false (fun q => by rcases List.mem_cons.mp q with e | e; exact h e.symm; exact h2 e)]
theorem flat_ints (l : List Int) : (l.map V.int).all flatV = true := by
  rw [List.all_eq_true]
  intro v hv
  obtain ⟨a, _, rfl⟩ := List.mem_map.mp hv
  rfl
theorem get_ints {l : List Int} {i : Nat} (h : i < l.length) : (l.map V.int)[i]? = some (.int l[i]) := by
  rw [List.getElem?_map, List.getElem?_eq_getElem h] <;> rfl
theorem of_get_ints {l : List Int} {i : Nat} {x : V} (h : (l.map V.int)[i]? = some x) : ∃ n, l[i]? = some n ∧ x = .int n := by
  rw [List.getElem?_map] at h
  cases e : l[i]? with
  | none => rw [e] at h; cases h
  | some n => rw [e] at h; exact ⟨n, rfl, (Option.some.inj h).symm⟩
theorem take_snoc {α : Type} {l : List α} {i : Nat} {a : α} (h : l[i]? = some a) : l.take (i + 1) = l.take i ++ [a] := by
  rw [List.take_add_one, h] <;> rfl

/-! ### addresses that the top has laid -/
structure Ad where
  words : Addr
  cHand : Addr
  cNet : Addr
  cBellError : Addr
  cBadWaits : Addr
  cNoHand : Addr
  cNoLetter : Addr

/-! ### the script and its cells -/
def cellAt (ns : List Int) (k : Int) : Int := ns.getD k.toNat 0
theorem cellAt_lt {ns : List Int} {k : Int} (h0 : 0 ≤ k) (h : k < ns.length) : (ns.map V.int)[k.toNat]? = some (.int (cellAt ns k)) := by
  have hl : k.toNat < ns.length := by omega
  rw [get_ints hl]
  unfold cellAt
  rw [List.getD_eq_getElem?_getD, List.getElem?_eq_getElem hl] <;> rfl
theorem cellAt_ge {ns : List Int} {k : Int} (h : ¬ k < ns.length) : cellAt ns k = 0 := by
  unfold cellAt
  rw [List.getD_eq_getElem?_getD, List.getElem?_eq_none (by omega)] <;> rfl

/-! ### waits -/
/-- a wait: none, or whether it is for any, and whom it is for -/
abbrev Wt := Option (Bool × List Int)
def wd (b : Bool) : Str := if b then "any" else "all"
theorem wd_t : wd true = "any" := rfl
theorem wd_f : wd false = "all" := rfl
theorem wd_any (b : Bool) : decide (wd b = ("any" : Str)) = b := by cases b <;> decide +kernel
theorem wd_all (b : Bool) : decide (wd b = ("all" : Str)) = !b := by cases b <;> decide +kernel
def dW : Wt → PyData
  | none => .none
  | some (b, os) => .tuple [.str (wd b), .list (os.map PyData.int)]
def dWs (ws : List Wt) : PyData := .list (ws.map dW)
def okW (n : Nat) : Wt → Prop
  | none => True
  | some (_, os) => os ≠ [] ∧ os.Nodup ∧ ∀ o ∈ os, 0 ≤ o ∧ o < n
structure OkWs (ws : List Wt) : Prop where
  pos : 1 ≤ ws.length
  most : ws.length ≤ 40
  all : ∀ w ∈ ws, okW ws.length w
theorem dW_lay : ∀ w : Wt, (dW w).canLay0 = true
  | none => rfl
  | some (b, os) => by
    show (PyData.canLay0 (.str (wd b)) && (PyData.canLayAll0 (os.map PyData.int) && true)) = true
    rw [lay_map (fun _ => rfl) os]
    cases b <;> decide +kernel
theorem dW_dep : ∀ w : Wt, (dW w).depth ≤ 2
  | none => Nat.zero_le _
  | some (b, os) => by
    have h : PyData.depthAll (os.map PyData.int) ≤ 0 := dep_map (f := PyData.int) (n := 0) (fun _ => Nat.le_refl 0) os
    show max 0 (max (PyData.depthAll (os.map PyData.int) + 1) 0) + 1 ≤ 2
    omega
theorem dWs_shaped (ws : List Wt) : SeqAt.shaped (dWs ws) = true := shaped_map (n := 2) (by decide) dW_lay dW_dep ws
section
variable {F : Hp} {v : V} {ws : List Wt} {b : Bool} {os : List Int}
theorem Td.inv_ws (h : Td F v (dWs ws)) : ∃ a xs, v = .ref a ∧ F a = some (.lst xs) ∧ TdA F xs (ws.map dW) ∧ xs.length = ws.length := by
  obtain ⟨a, xs, rfl, h1, h2⟩ := Td.inv_lst h
  exact ⟨a, xs, rfl, h1, h2, by rw [h2.len, List.length_map]⟩
theorem Td.inv_w (h : Td F v (dW (some (b, os)))) : ∃ a l, v = .ref a ∧ F a = some (.tup [.str (wd b), .ref l]) ∧ F l = some (.lst (os.map V.int)) := by
  obtain ⟨a, xs, rfl, h1, h2⟩ := Td.inv_tup h
  cases h2 with
  | cons k1 k2 =>
    cases k2 with
    | cons k3 k4 =>
      cases k4
      cases k1
      obtain ⟨l, rfl, k5⟩ := Td.inv_ints k3
      exact ⟨a, l, rfl, h1, k5⟩
theorem Td.mk_w {a l : Addr} (h1 : F a = some (.tup [.str (wd b), .ref l])) (h2 : F l = some (.lst (os.map V.int))) : Td F (.ref a) (dW (some (b, os))) := .tup h1 (.cons (.str _) (.cons (.lst h2 (TdA.ints os)) .nil))
theorem TdA.ws_at {xs : List V} {i : Nat} {x : V} (h : TdA F xs (ws.map dW)) (hi : xs[i]? = some x) : ∃ w, ws[i]? = some w ∧ Td F x (dW w) := by
  obtain ⟨d, h1, h2⟩ := TdA.at h hi
  rw [List.getElem?_map] at h1
  cases e : ws[i]? with
  | none => rw [e] at h1; cases h1
  | some w => rw [e] at h1; cases h1; exact ⟨w, rfl, h2⟩
theorem TdA.ws_get {xs : List V} {i : Nat} {w : Wt} (h : TdA F xs (ws.map dW)) (hi : ws[i]? = some w) : ∃ x, xs[i]? = some x ∧ Td F x (dW w) :=
  TdA.get h (by rw [List.getElem?_map, hi] <;> rfl)
theorem dW_ne_none : dW (some (b, os)) ≠ .none := fun q => nomatch q
theorem Td.w_non {w : Wt} (h : Td F .non (dW w)) : w = none := by
  cases w with
  | none => rfl
  | some p => obtain ⟨b, os⟩ := p; cases h
theorem Td.w_ref {w : Wt} {a : Addr} (h : Td F (.ref a) (dW w)) : ∃ b os, w = some (b, os) := by
  cases w with
  | none => cases h
  | some p => exact ⟨p.1, p.2, rfl⟩
end
end SB
/-! Slices, tuple targets, subdata. -/
namespace SB
open PySem L2
theorem sIx_nat (n d i : Nat) : HT.sIx n d (some (i : Int)) = min i n := by
  unfold HT.sIx
  simp only []
  split <;> omega
theorem cut_take (xs : List V) (i : Nat) : cutV xs none (some (i : Int)) = xs.take i := by
  unfold cutV
  rw [sIx_nat]
  show (xs.drop 0).take (min i xs.length - 0) = _
  rw [List.drop_zero, Nat.sub_zero]
  by_cases h : i ≤ xs.length
  · rw [Nat.min_eq_left h]
  · rw [Nat.min_eq_right (by omega), List.take_of_length_le (Nat.le_refl _), List.take_of_length_le (by omega)]
theorem cut_drop (xs : List V) (i : Nat) : cutV xs (some (i : Int)) none = xs.drop i := by
  unfold cutV
  rw [sIx_nat]
  show (xs.drop (min i xs.length)).take (xs.length - min i xs.length) = _
  rw [List.take_of_length_le (by rw [List.length_drop]; omega)]
  by_cases h : i ≤ xs.length
  · rw [Nat.min_eq_left h]
  · rw [Nat.min_eq_right (by omega), List.drop_eq_nil_of_le (Nat.le_refl _), List.drop_eq_nil_of_le (by omega)]
theorem cut_range (xs : List V) (i j : Nat) : cutV xs (some (i : Int)) (some (j : Int)) = (xs.drop i).take (j - i) := by
  unfold cutV
  rw [sIx_nat, sIx_nat]
  by_cases h : i ≤ xs.length
  · rw [Nat.min_eq_left h]
    by_cases h2 : j ≤ xs.length
    · rw [Nat.min_eq_left h2]
    · rw [Nat.min_eq_right (by omega), List.take_of_length_le (by rw [List.length_drop]; omega), List.take_of_length_le (by rw [List.length_drop]; omega)]
  · rw [Nat.min_eq_right (Nat.le_of_not_le h), List.drop_eq_nil_of_le (Nat.le_refl _), List.drop_eq_nil_of_le (by omega), List.take_nil, List.take_nil]
section
variable {K : PySem.W.Frag} {σ : St} {H : Hp} {i j k : Nat} {v w u : V} {Q : St → Hp → Prop} {p : Addr}
theorem r_gt2 (h : SqT K H p [v, w]) (q : Q ((σ.set i (some v)).set j (some w)) H) : gTup K 2 (gCons (gName i) (gCons (gName j) gNil)) (.ref p) σ H Q :=
  ⟨p, _, rfl, h, rfl, _, _, rfl, _, _, rfl, rfl, q⟩
theorem r_gt3 (h : SqT K H p [v, w, u]) (q : Q (((σ.set i (some v)).set j (some w)).set k (some u)) H) : gTup K 3 (gCons (gName i) (gCons (gName j) (gCons (gName k) gNil))) (.ref p) σ H Q :=
  ⟨p, _, rfl, h, rfl, _, _, rfl, _, _, rfl, _, _, rfl, rfl, q⟩
end
theorem shaped_in {d : PyData} : ∀ {ds : List PyData}, PyData.canLayAll0 ds = true → d ∈ ds → d.canLay0 = true ∧ d.depth ≤ PyData.depthAll ds
  | x :: xs, h, m => by
    have h' : (x.canLay0 && PyData.canLayAll0 xs) = true := h
    rw [Bool.and_eq_true] at h'
    have e : PyData.depthAll (x :: xs) = max x.depth (PyData.depthAll xs) := rfl
    rcases List.mem_cons.mp m with rfl | m
    · exact ⟨h'.1, by omega⟩
    · obtain ⟨a, b⟩ := shaped_in h'.2 m
      exact ⟨a, by omega⟩
theorem shaped_l {d : PyData} {ds : List PyData} (h : SeqAt.shaped (.list ds) = true) (m : d ∈ ds) : SeqAt.shaped d = true := by
  obtain ⟨a, b⟩ := shaped_in (show PyData.canLayAll0 ds = true from SeqAt.canLay_of_shaped h) m
  have c : PyData.depthAll ds + 1 ≤ 64 := SeqAt.depth_of_shaped h
  exact shaped_of a (by omega)
theorem shaped_t {d : PyData} {ds : List PyData} (h : SeqAt.shaped (.tuple ds) = true) (m : d ∈ ds) : SeqAt.shaped d = true := by
  obtain ⟨a, b⟩ := shaped_in (show PyData.canLayAll0 ds = true from SeqAt.canLay_of_shaped h) m
  have c : PyData.depthAll ds + 1 ≤ 64 := SeqAt.depth_of_shaped h
  exact shaped_of a (by omega)
theorem dec_non {v : V} : decide (v = .non) = (match v with | .non => true | _ => false) := by
  cases v <;> first | rfl | exact decide_eq_false (fun q => nomatch q)
theorem Td.non_iff {F : Hp} {v : V} {d : PyData} (h : Td F v d) : v = .non ↔ d = .none := by
  cases h <;> constructor <;> intro q <;> first | rfl | exact (nomatch q)
theorem eqv_nil (ds : List PyData) : PyData.eqv (.list ds) (.list []) = ds.isEmpty := by
  cases ds <;> rfl
end SB
namespace SB
open PySem L2
theorem shaped_map1 (w : Wt) : SeqAt.shaped (dW w) = true := shaped_of (dW_lay w) (by have := dW_dep w; omega)
theorem nodup_nat : ∀ (n : Nat) (l : List Nat), l.Nodup → (∀ x ∈ l, x < n) → l.length ≤ n
  | 0, l, _, h => by
    cases l with
    | nil => exact Nat.le_refl _
    | cons a l => exact absurd (h a List.mem_cons_self) (Nat.not_lt_zero _)
  | n + 1, l, nd, h => by
    have nd2 : (l.erase n).Nodup := nd.erase n
    have h2 : ∀ x ∈ l.erase n, x < n := fun x hx => by
      have := (nd.mem_erase_iff).mp hx
      have := h x this.2
      omega
    have ih := nodup_nat n (l.erase n) nd2 h2
    by_cases m : n ∈ l
    · have := List.length_erase_of_mem m
      omega
    · rw [List.erase_of_not_mem m] at ih
      omega
theorem nodup_bound {n : Nat} {os : List Int} (nd : os.Nodup) (h : ∀ o ∈ os, 0 ≤ o ∧ o < (n : Int)) : os.length ≤ n := by
  have h2 : (os.map Int.toNat).Nodup := by
    rw [List.nodup_iff_pairwise_ne, List.pairwise_map]
    refine List.Pairwise.imp_of_mem (fun {a b} ha hb hne => ?_) (List.nodup_iff_pairwise_ne.mp nd)
    have := h a ha
    have := h b hb
    omega
  have h4 := nodup_nat n _ h2 (fun x hx => by
    obtain ⟨o, ho, rfl⟩ := List.mem_map.mp hx
    have := h o ho
    omega)
  rw [List.length_map] at h4
  exact h4
end SB
/-! A result that is a list of one's own; lists of truths. -/
namespace SB
open PySem L2
/-- a def's value is a new list that nobody else has -/
def RetL (H : Hp) (Q : VK) (xs : List V) : Prop := ∀ H' p, Zs H H H H' [(p, .lst xs)] → Q (.ref p) H'
section
variable {F0 H0 F H F' H' : Hp} {L L2 : List (Addr × HO)}
theorem Zs.callL (Z : Zs F0 H0 F H L) (W : Zs H H H H' L2) : Zs F0 H0 F H' (L2 ++ L) where
  ff := Z.ff
  hh := Z.hh.trans W.hh
  fh := Z.fh.trans W.hh
  sep := Z.sep
  led := fun q hq => by
    rcases List.mem_append.mp hq with hq | hq
    · obtain ⟨a, b, c⟩ := W.led q hq
      exact ⟨a, same_none Z.fh c, same_none Z.hh c⟩
    · obtain ⟨a, b, c⟩ := Z.led q hq
      exact ⟨W.hh _ _ a, b, c⟩
  nd := by
    rw [List.map_append, List.nodup_append]
    refine ⟨W.nd, Z.nd, fun a ha b hb e => ?_⟩
    subst e
    obtain ⟨q, hq, rfl⟩ := List.mem_map.mp ha
    obtain ⟨r, hr, e⟩ := List.mem_map.mp hb
    have h1 := (W.led q hq).2.2
    have h2 := (Z.led r hr).1
    have e' : r.1 = q.1 := e
    rw [e', h1] at h2
    cases h2
/-- a result's new cells over a frozen part that begins as H -/
theorem Zs.up (Z : Zs F0 H0 F H L) (h : Same F0 H0) : Zs H0 H0 H0 H L where
  ff := Same.refl _
  hh := Z.hh
  fh := Z.hh
  sep := fun _ a _ => a
  led := fun q hq => by
    obtain ⟨a, b, c⟩ := Z.led q hq
    exact ⟨a, c, c⟩
  nd := Z.nd
end
theorem flat_bools (l : List Bool) : (l.map V.bl).all flatV = true := by
  rw [List.all_eq_true]
  intro v hv
  obtain ⟨a, _, rfl⟩ := List.mem_map.mp hv
  rfl
theorem get_bools {l : List Bool} {i : Nat} (h : i < l.length) : (l.map V.bl)[i]? = some (.bl l[i]) := by
  rw [List.getElem?_map, List.getElem?_eq_getElem h] <;> rfl
theorem get_boolD {l : List Bool} {i : Nat} (h : i < l.length) : (l.map V.bl)[i]? = some (.bl (l.getD i false)) := by
  rw [get_bools h, List.getD_eq_getElem?_getD, List.getElem?_eq_getElem h] <;> rfl
theorem Td.inv_bools {F : Hp} {v : V} {l : List Bool} (h : Td F v (.list (l.map PyData.bool))) : ∃ a, v = .ref a ∧ F a = some (.lst (l.map V.bl)) := by
  obtain ⟨a, xs, rfl, h1, h2⟩ := h.inv_lst
  rw [h2.of_bools] at h1
  exact ⟨a, rfl, h1⟩
theorem Td.bools_lst {F : Hp} {a : Addr} {l : List Bool} (h : F a = some (.lst (l.map V.bl))) : Td F (.ref a) (.list (l.map PyData.bool)) := .lst h (TdA.bools l)
theorem shaped_bools (l : List Bool) : SeqAt.shaped (.list (l.map PyData.bool)) = true := shaped_map (n := 0) (by decide) (fun _ => rfl) (fun _ => Nat.le_refl _) l
theorem rep_flat {α : Type} (a : α) : ∀ n : Nat, List.flatten (List.replicate n [a]) = List.replicate n a
  | 0 => rfl
  | n + 1 => by rw [List.replicate_succ, List.flatten_cons, rep_flat a n, List.replicate_succ] <;> rfl
end SB
namespace SB
open PySem L2
/-- a smaller frozen part -/
theorem Zs.weak {F0 H0 F F1 H : Hp} {L : List (Addr × HO)} (Z : Zs F0 H0 F H L) (h0 : Same F0 F1) (h : Same F1 F) : Zs F0 H0 F1 H L where
  ff := h0
  hh := Z.hh
  fh := h.trans Z.fh
  sep := fun a e n => same_none h (Z.sep a e n)
  led := fun q hq => by
    obtain ⟨a, b, c⟩ := Z.led q hq
    exact ⟨a, same_none h b, c⟩
  nd := Z.nd
end SB
namespace SB
open PySem L2
/-- what every law promises -/
def pr_law (K : PySem.W.Frag) : V → Hp → VK → XK → Prop := fun a H Q _ => ∃ (p : Addr) (ns : List Int), a = .ref p ∧ SqL K H p (ns.map V.int) ∧ ns.length ≤ 63 ∧ ∀ H', Q (.bl true) H'
abbrev spL (K : PySem.W.Frag) : Sp := sp1 (pr_law K)
abbrev sp_law (K : PySem.W.Frag) (A : Ad) : Sp := spL K
end SB
namespace SB
open PySem L2
/-- [x for x in xs] -/
theorem lc_copy {K : PySem.W.Frag} {σ : St} {F0 H0 F H : Hp} {L : List (Addr × HO)} {Q : VK} {j : Nat} {a : Addr} {xs : List V} (hx : SqL K H a xs) (hz : xs.length ≤ 50000) (Z : Zs F0 H0 F H L)
    (hsrc : ∀ F' H', Zs F0 H0 F' H' L → Same F F' → SqL K H' a xs) (hw : ∀ x, wipe ((wipe σ [j]).set j (some x)) [j] = wipe σ [j]) (hj : ∀ x, ((wipe σ [j]).set j (some x))[j]? = some (some x))
    (k : ∀ Dl H', Zs F0 H0 F H' ((Dl, .lst xs) :: L) → Q (.ref Dl) H') : LRL K (gName j) tYes (tVar j) [j] σ Q (.ref a) H := by
  refine lc_lst hx Z (fun i acc F' => acc = xs.take i) rfl hsrc ?_ ?_
  · intro i x Dl F' H' acc hi Z' s hacc e
    subst e
    refine ⟨hw x, ?_⟩
    refine r_yes (ifT rfl ?_)
    refine ⟨x, hj x, ?_⟩
    have := (List.getElem?_eq_some_iff.mp hi).1
    exact cy Z' s hacc (by omega) (take_snoc hi).symm
  · intro Dl F' H' acc Z' s e
    rw [List.take_length] at e
    subst e
    exact k Dl H' (Z'.weak Z.ff s)
end SB
/-! Attributes, methods, makings, dicts: readings over the state kit. -/
namespace SB
open PySem L2
/-! ### attributes -/
def FldQ (K : PySem.W.Frag) (f : Str) (Q : VK) : VK := fun x H1 => ∃ a C dx fs v, x = .ref a ∧ H1 a = some (.ins C dx fs) ∧ Cls K C ∧ NoAttr K C f ∧ fs.lookup f = some v ∧ Q v H1
def SFldQ (K : PySem.W.Frag) (f : Str) (y : V) (P : St → Hp → Prop) (σ : St) : VK := fun x H2 => ∃ a C dx fs, x = .ref a ∧ H2 a = some (.ins C dx fs) ∧ Cls K C ∧ NoAttr K C f ∧ fs.length < 1000 ∧ P σ (upd H2 a (.ins C dx (putF f y fs)))
def MethQ (C : Addr) (m : Str) (sp : Sp) (dvs : List V) (E : XK) (t : TA) (σ : St) (Q : VK) : VK := fun x H1 => ∃ a dx fs, x = .ref a ∧ H1 a = some (.ins C dx fs) ∧ fs.lookup m = none ∧ t σ H1 fun vs H2 => sp (x :: (vs ++ dvs)) H2 Q E
def MkQ (Q : VK) (x : Addr) : VK := fun v H2 => v = .non ∧ Q (.ref x) H2
def MakeQ (C : Addr) (sp : Sp) (dvs : List V) (E : XK) (Q : VK) (vs : List V) (H1 : Hp) : Prop := ∀ x dx, H1 x = none → H1 dx = none → dx ≠ x → sp (.ref x :: (vs ++ dvs)) (upd (upd H1 dx (.own x)) x (.ins C dx [])) (MkQ Q x) E
section
variable {K : PySem.W.Frag} {σ : St} {H : Hp} {Q : VK} {D : Ends} {ta tv : TE} {t : TA} {f m : Str} {C dx a : Addr} {fs : List (Str × V)} {v y : V} {P : St → Hp → Prop} {sp : Sp} {dvs : List V} {E : XK}
theorem r_fld (h : ta σ H (FldQ K f Q)) : tFld K ta f σ H Q := h
theorem r_fldQ (c : Cls K C) (n : NoAttr K C f) (e : H a = some (.ins C dx fs)) (l : fs.lookup f = some v) (k : Q v H) : FldQ K f Q (.ref a) H := ⟨a, C, dx, fs, v, rfl, e, c, n, l, k⟩
theorem r_sfld (h : tv σ H fun y H1 => ta σ H1 (SFldQ K f y D.nx σ)) : sFld K ta tv f D σ H := h
theorem r_sfldQ {F0 H0 F : Hp} {L : List (Addr × HO)} (c : Cls K C) (n : NoAttr K C f) (i : Nat) (Z : Zs F0 H0 F H L) (e : L[i]? = some (a, .ins C dx fs)) (hl : fs.length < 1000) (k : ∀ H', Zs F0 H0 F H' (L.set i (a, .ins C dx (putF f y fs))) → P σ H') : SFldQ K f y P σ (.ref a) H :=
  ⟨a, C, dx, fs, rfl, Z.get e, c, n, hl, k _ (Z.setAt i e)⟩
theorem r_meth (h : ta σ H (MethQ C m sp dvs E t σ Q)) : tMeth C m sp dvs E ta t σ H Q := h
theorem r_methQ (e : H a = some (.ins C dx fs)) (l : fs.lookup m = none) (h : t σ H fun vs H2 => sp (.ref a :: (vs ++ dvs)) H2 Q E) : MethQ C m sp dvs E t σ Q (.ref a) H := ⟨a, dx, fs, rfl, e, l, h⟩
theorem r_make (h : t σ H (MakeQ C sp dvs E Q)) : tMake C sp dvs E t σ H Q := h
theorem r_makeQ {F0 H0 F : Hp} {L : List (Addr × HO)} {vs : List V} (Z : Zs F0 H0 F H L) (k : ∀ x dx H', Zs F0 H0 F H' ((x, .ins C dx []) :: L) → sp (.ref x :: (vs ++ dvs)) H' (MkQ Q x) E) : MakeQ C sp dvs E Q vs H := by
  intro x dx hx hd ne
  have Z1 := Z.alloc (o := .own x) hd
  have Z2 := Z1.alloc (p := x) (o := .ins C dx []) (by rw [upd_ne ne.symm]; exact hx)
  exact k x dx _ (Z2.dropAt 1)
end
theorem Zs.perm {F0 H0 F H : Hp} {L L' : List (Addr × HO)} (Z : Zs F0 H0 F H L) (h : L.Perm L') : Zs F0 H0 F H L' := ⟨Z.ff, Z.hh, Z.fh, Z.sep, fun q hq => Z.led q (h.mem_iff.mpr hq), (h.map _).nodup Z.nd⟩
/-! ### dicts -/
section
variable {K : PySem.W.Frag} {σ : St} {H : Hp} {Q : VK} {D : Ends} {td ty tv te : TE} {a : Addr} {kvs : List (Key × V)} {x y v : V} {k : Key} {P : St → Hp → Prop}
def DGQ (Q : VK) (x : V) : VK := fun y H2 => ∃ a v, x = .ref a ∧ DGet H2 a y (some v) ∧ Q v H2
def DPQ (v : V) (P : St → Hp → Prop) (σ : St) (x : V) : VK := fun y H3 => ∃ a H4, x = .ref a ∧ DPut H3 a y v H4 ∧ P σ H4
theorem r_dget (h : td σ H fun x H1 => ty σ H1 (DGQ Q x)) : tDGet td ty σ H Q := h
theorem r_dgetQ {k : Str} (e : H a = some (.dK kvs)) (l : valV kvs (.inr k) = some v) (q : Q v H) : DGQ Q (.ref a) (.str k) H := ⟨a, v, rfl, by rw [← l]; exact DGet.k (k := .inr k) e, q⟩
theorem r_dput (h : tv σ H fun v H1 => td σ H1 fun x H2 => ty σ H2 (DPQ v D.nx σ x)) : sDPut td ty tv D σ H := h
theorem r_dputQ {F0 H0 F : Hp} {L : List (Addr × HO)} {k : Str} (i : Nat) (Z : Zs F0 H0 F H L) (e : L[i]? = some (a, .dK kvs)) (hl : kvs.length < 100000) (q : ∀ H', Zs F0 H0 F H' (L.set i (a, .dK (putK kvs (.inr k) v))) → P σ H') : DPQ v P σ (.ref a) (.str k) H :=
  ⟨a, _, rfl, DPut.k (k := .inr k) (Z.get e) (sz_lt hl), q _ (Z.setAt i e)⟩
/-- a display -/
def DispQ (Q : VK) (p : Addr) : List (V × V) → Hp → Prop := fun ps H2 => H2 p = some (.dK []) ∧ ∃ kvs : List (Key × V), ps = kvs.map (fun kv => (kV kv.1, kv.2)) ∧ kvs.length ≤ 15 ∧ Q (.ref p) (upd H2 p (.dK (mergeK [] kvs)))
def DispN (trs : List (TE × TE)) (σ : St) (Q : VK) (H : Hp) : Prop := ∀ p, H p = none → tPairs trs σ (upd H p (.dK [])) (DispQ Q p)
theorem r_disp {trs : List (TE × TE)} {F0 H0 F : Hp} {L : List (Addr × HO)} (Z : Zs F0 H0 F H L) (k : ∀ p H', Zs F0 H0 F H' ((p, .dK []) :: L) → tPairs trs σ H' (DispQ Q p)) : tDisp trs σ H Q := fun p hp => k p _ (Z.alloc hp)
theorem r_pnil {R : List (V × V) → Hp → Prop} (h : R [] H) : tPairs [] σ H R := h
theorem r_pcons {tr : List (TE × TE)} {R : List (V × V) → Hp → Prop} (h : td σ H fun x H1 => ty σ H1 fun y H2 => tPairs tr σ H2 fun ps H3 => R ((x, y) :: ps) H3) : tPairs ((td, ty) :: tr) σ H R := h
theorem r_dispQ {p : Addr} {F0 H0 F : Hp} {L : List (Addr × HO)} {ps : List (V × V)} (i : Nat) (kvs : List (Key × V)) (Z : Zs F0 H0 F H L) (e : L[i]? = some (p, .dK [])) (hp : ps = kvs.map (fun kv => (kV kv.1, kv.2))) (hl : kvs.length ≤ 15)
    (k : ∀ H', Zs F0 H0 F H' (L.set i (p, .dK (mergeK [] kvs))) → Q (.ref p) H') : DispQ Q p ps H := ⟨Z.get e, kvs, hp, hl, k _ (Z.setAt i e)⟩
end
/-! ### letters -/
/-- a letter: its word, who sent it, whom it is for -/
abbrev Lt := Str × Int × Int
def dLt (l : Lt) : PyData := .tuple [.str l.1, .int l.2.1, .int l.2.2]
def dLts (ls : List Lt) : List PyData := ls.map dLt
theorem Td.inv_lt {F : Hp} {v : V} {l : Lt} (h : Td F v (dLt l)) : ∃ a, v = .ref a ∧ F a = some (.tup [.str l.1, .int l.2.1, .int l.2.2]) := by
  obtain ⟨a, xs, rfl, h1, h2⟩ := Td.inv_tup h
  cases h2 with
  | cons k1 k2 =>
    cases k2 with
    | cons k3 k4 =>
      cases k4 with
      | cons k5 k6 =>
        cases k6
        cases k1
        cases k3
        cases k5
        exact ⟨a, rfl, h1⟩
theorem Td.mk_lt {F : Hp} {a : Addr} {l : Lt} (h : F a = some (.tup [.str l.1, .int l.2.1, .int l.2.2])) : Td F (.ref a) (dLt l) := .tup h (.cons (.str _) (.cons (.int _) (.cons (.int _) .nil)))
/-! ### remove, pop, reverse, clear -/
section
variable {K : PySem.W.Frag} {F0 H0 F H : Hp} {L : List (Addr × HO)} {Q : VK} {l : Addr} {xs : List V} {y : V}
theorem r_reverse (i : Nat) (Z : Zs F0 H0 F H L) (h : L[i]? = some (l, .lst xs)) (k : ∀ H', Zs F0 H0 F H' (L.set i (l, .lst xs.reverse)) → Q .non H') : rReverse (.ref l) [] H Q := ⟨l, xs, rfl, rfl, Z.get h, k _ (Z.setAt i h)⟩
theorem r_clear (i : Nat) (Z : Zs F0 H0 F H L) (h : L[i]? = some (l, .lst xs)) (k : ∀ H', Zs F0 H0 F H' (L.set i (l, .lst [])) → Q .non H') : rClear (.ref l) [] H Q := ⟨l, xs, rfl, rfl, Z.get h, k _ (Z.setAt i h)⟩
theorem r_popAt (i : Nat) {c : Int} {j : Nat} (Z : Zs F0 H0 F H L) (h : L[i]? = some (l, .lst xs)) (hc : c = (j : Int)) (hz : xs.length ≤ 100000) (hj : xs[j]? = some y) (k : ∀ H', Zs F0 H0 F H' (L.set i (l, .lst (xs.eraseIdx j))) → Q y H') : rPopAt (.ref l) [.int c] H Q := by
  have hlt := (List.getElem?_eq_some_iff.mp hj).1
  subst hc
  refine ⟨l, xs, (j : Int), j, y, rfl, rfl, Z.get h, by omega, by omega, ?_, hj, k _ (Z.setAt i h)⟩
  unfold PySem.seqIndex?
  have e1 : ¬ ((j : Int) < 0) := by omega
  have e2 : (0 : Int) ≤ (j : Int) := by omega
  have e3 : (j : Int) < (xs.length : Int) := by omega
  simp only [e1, if_false, e2, e3, decide_true, Bool.and_self, if_true, Int.toNat_natCast]
theorem r_remI (i : Nat) {ns : List Int} {n : Int} {j : Nat} (Z : Zs F0 H0 F H L) (h : L[i]? = some (l, .lst (ns.map V.int))) (hj : ns[j]? = some n) (hno : ∀ m : Nat, m < j → ns[m]? ≠ some n) (k : ∀ H', Zs F0 H0 F H' (L.set i (l, .lst ((ns.eraseIdx j).map V.int))) → Q .non H') : rRemI (.ref l) [.int n] H Q :=
  ⟨l, ns, n, j, rfl, rfl, Z.get h, hj, hno, k _ (Z.setAt i h)⟩
end
end SB
/-! Errors: own rules (B.__init__ of an own base; isinstance of a caught error with or without a dict), short names. -/
namespace SB
open PySem PySem.Spec PyProof.Rows L2
/-- B.__init__(e, ..), B an own class over ValueError that has none of its own -/
theorem pe_clinit {X : Cx} {x : Str} {B : Addr} {mc : Value} {e : Expr} {es : List Expr} {ta : TA} {p1 p2 pos : Pos} {pl : Sem Bool} (hg : Gl X x) (hm : X.mg x = some (.ref B)) (rd : PySem.W.readsIn X.K B mc = true)
    (ga : PySem.W.specialIn X.K (.ref B) "__getattribute__" = some (some (.builtin "type.__getattribute__"))) (vB : PySem.W.findCls X.K (.ref B) mc "__init__" = some (.val (.builtin "ValueError.__init__"))) (ha : PA X (e :: es) ta)
    (hdb : (x == ("__debug__" : Str)) = false := by decide)
    (hc : eval (.Call (.Attribute (.Name x p1) "__init__" p2) (e :: es) [] pos) X.env = (do
      let cls ← eval (.Name x p1) X.env
      standAt p2.atName
      let (fn, self) ← holding [cls] (getMethod cls "__init__" pl)
      callWith pos fn self (backTo pos (starEach (e :: es) X.env)) (backToKw pos (keywordEach [] X.env))) := by rfl)
    (h1 : starEach (e :: es) X.env = (false, eval e X.env) :: starEach es X.env := by rfl) (h2 : (backTo pos (starEach es X.env)).any (·.1) = false := by rfl) :
    PE X (.Call (.Attribute (.Name x p1) "__init__" p2) (e :: es) [] pos) (tVeI X.K ta) := by
  constructor
  intro pins s σ H Q I h
  refine PySem.W.methodCall_KW (ld_glob I hg hm ?_ hdb) hc
  refine PySem.W.method_cls I.kIn ga (PySem.W.cls_value I.kIn rd vB (by decide +kernel) ?_)
  show wpAny _ _ (callWith pos (Value.builtin "ValueError.__init__") [] (backTo pos (starEach (e :: es) X.env)) (backToKw pos (keywordEach [] X.env))) _ _ _
  refine PyProof.Rows.callWith_method1 (thn (ha.run pos pins _ σ H _ (I.tok _) h) fun us s1 hh => ?_) h1 h2
  obtain ⟨vs, H1, I1, r1, a, C, ws, ev, hl, T, ea, q⟩ := hh
  subst ev
  cases r1 with
  | @cons _ u0 _ ur ra rb =>
    obtain rfl : u0 = Value.ref a := ra
    have hz : ur.length ≤ sizeLine := by
      have := Paired.length rb
      rw [sizeLine_eq]
      omega
    exact oinit_ok T I1 ea hz fun s' J => ⟨.non, H1, J, rfl, q⟩
/-- isinstance(e, c), e the error that the suite holds: its class cls, its dict d, if any -/
structure ErrC (K : PySem.W.Frag) (D : Addr) : Prop where
  cl : PySem.W.isClsIn K D = true
  hg : PySem.W.findIn K (.ref D) "__getattribute__" = some (some (.builtin "BaseException.__getattribute__"))
  hk : PySem.W.findIn K (.ref D) "__getattr__" = some none
  hs : PySem.W.subIn K (.ref D) (.type "BaseException") = some true
  ha : PySem.W.findIn K (.ref D) "__class__" = some (some (.builtin "object.__class__"))
  hm : PySem.W.mroIn K D (.type "object") = some true
structure ErrG (K : PySem.W.Frag) : Prop where
  hn : PySem.W.specialIn K (.builtin "object.__class__") "__get__" = some (some (.builtin "getset_descriptor.__get__"))
  ht : PySem.W.takesIn K (.builtin "object.__class__") = some true
def qIsE (K : PySem.W.Frag) (a : Addr) (cls : Value) (d : Option Addr) : List V → Hp → VK → Prop := fun xs H Q => ∃ (D : Addr) (c : V) (cv : Value) (b : Bool), cls = .ref D ∧ ErrC K D ∧ (d = none ∨ ∃ dd fs, d = some dd ∧ H dd = some (.xd fs)) ∧ xs = [.ref a, c] ∧ (∀ u, RelV c u → u = cv) ∧ PySem.W.kitOne K (.ref D) cv = some b ∧ Q (.bl b) H
theorem call_isEq {X : Cx} {a : Addr} {oe : Obj} {cls : Value} {d : Option Addr} {pn : List (Addr × Obj)} (G : ErrG X.K) (hz : Zc cls d oe) (hf : ∃ vs, oe.data = .fields vs) : CallR (X.suite a ((a, oe) :: pn)) (.builtin "isinstance") (qIsE X.K a cls d) := by
  intro pins s σ H xs us Q I r h
  obtain ⟨D, c, cv, b, rfl, C, hdd, rfl, hcv, e, q⟩ := h
  cases r with
  | cons rx rr =>
    cases rr with
    | cons rt rr =>
      cases rr
      cases rx
      rw [hcv _ rt]
      have hget := (I.pin (a, oe) (List.mem_append.mpr (.inl List.mem_cons_self))).1
      obtain ⟨vs, hv⟩ := hf
      have hnc : PySem.W.notCls oe = true := by unfold PySem.W.notCls; rw [hv] <;> rfl
      have fin : ∀ od : Option Obj, PySem.W.InstAt s.heap a oe D od → wpAny (model X.prog X.w) (X.suite a ((a, oe) :: pn)).A (call (.builtin "isinstance") [.ref a, cv]) (EP (X.suite a ((a, oe) :: pn)) pins σ Q) (X.suite a ((a, oe) :: pn)).xe s := fun od J =>
        PySem.W.kia_one (PySem.W.kitx_exc (od := od) C.cl C.hg C.hk C.hs C.ha G.hn G.ht C.hm) I.kIn J e (fun z => nomatch z) fun tk => ⟨.bl b, H, I.kept (t' := tk) fun _ _ z => z, rfl, q⟩
      rcases hdd with rfl | ⟨dd, fs, rfl, hx⟩
      · exact fin none ⟨hget, hz.1, hnc, by rw [hz.2]; trivial⟩
      · have ho : ObjOk X.prog X.w H s.heap dd (.xd fs) := I.hok dd _ hx
        obtain ⟨mA, hns, _⟩ := ho
        obtain ⟨od, ho, _⟩ := lookIn_ns hns
        exact fin (some od) ⟨hget, hz.1, hnc, by rw [hz.2]; exact ho⟩
/-! ### raise, try -/
def tRaise (t : L2.St → Hp → XK → Prop) (E : XK) : TS := fun _ σ H => t σ H fun cls d H' => E cls d H'
def tMkN (C : Addr) : L2.St → Hp → XK → Prop := fun _ H Q => Q (.ref C) none H
def tTryAs (K : PySem.W.Frag) (c : Value) (i : Nat) (tb : WX → TS) (ts : Addr → Value → Option Addr → TS) : TS := fun D σ H => tb (wAs K c i ts (fun _ _ _ _ => False) D) D σ H
section
variable {K : PySem.W.Frag} {σ : L2.St} {H : Hp} {D : Ends} {E : XK} {C : Addr}
theorem r_raiseN (k : E (.ref C) none H) : tRaise (tMkN C) E D σ H := k
end
/-! ### what the program's errors are -/
structure ErrOk (K : PySem.W.Frag) (A : Ad) : Prop where
  ox : OexC K A.cBadWaits
  noAt : PySem.W.findIn K (.ref A.cBadWaits) "at" = some none
  xf : XfC K A.cBadWaits
  g : ErrG K
  cB : ErrC K A.cBadWaits
  bb : PySem.W.exmOne K (.ref A.cBadWaits) (.ref A.cBadWaits) = some true
  bl : PySem.W.exmOne K (.ref A.cBadWaits) (.ref A.cBellError) = some true
  kBH : PySem.W.kitOne K (.ref A.cBadWaits) (.ref A.cNoHand) = some false
  kBL : PySem.W.kitOne K (.ref A.cBadWaits) (.ref A.cNoLetter) = some false
  kBV : PySem.W.kitOne K (.ref A.cBadWaits) (.type "ValueError") = some true
def pr_BadWaits_init (K : PySem.W.Frag) (A : Ad) : V → V → Hp → VK → XK → Prop := fun a b H Q _ => ∃ (x C : Addr), a = .ref x ∧ OexC K C ∧ PySem.W.findIn K (.ref C) "at" = some none ∧ H x = some (exo x C none) ∧ ∀ dx, H dx = none → dx ≠ x → Q .non (upd (upd H dx (exd dx [("at", b)])) x (exo x C (some dx)))
abbrev sp_BadWaits_init (K : PySem.W.Frag) (A : Ad) : Sp := sp2 (pr_BadWaits_init K A)
def t_BadWaits_init (K : PySem.W.Frag) (A : Ad) : TS :=
    (tSeq (tDrop (tVeI K (tCons (tVar 0) (tCons (tC (.str "no waits")) tNil))))
    (tOst K "at" (tVar 0) (tVar 1)))
theorem rd_BadWaits_init {K : PySem.W.Frag} {A : Ad} {a b : V} {H : Hp} {Q : VK} {E : XK} (h : pr_BadWaits_init K A a b H Q E) : t_BadWaits_init K A { nx := fun _ H' => Q .non H', rt := Q } [some a, some b] H := by
  obtain ⟨x, C, rfl, ox, no, ex, q⟩ := h
  unfold t_BadWaits_init
  walk_at "rd"
  refine ⟨_, rfl, ?_⟩
  walk_at "rd"
  refine ⟨x, C, _, rfl, by decide, ox, ex, ?_⟩
  exact ⟨_, rfl, _, rfl, x, C, rfl, ox, no, .inl ⟨ex, fun dx h1 h2 => q dx h1 h2⟩⟩
/-- what is wished where BadWaits is raised -/
def BadE (A : Ad) (H : Hp) (E : XK) (v : V) : Prop := ∀ d H', Same H H' → H d = none → H' d = some (.xd [("at", v)]) → E (.ref A.cBadWaits) (some d) H'
theorem r_bad {K : PySem.W.Frag} {A : Ad} (O : ErrOk K A) {H : Hp} {E : XK} {v : V} (k : BadE A H E v) : [v].length ≤ 1000 ∧ ∀ a, H a = none → sp_BadWaits_init K A (.ref a :: ([v] ++ [])) (upd H a (exo a A.cBadWaits none))
    (fun v H2 => v = .non ∧ ∃ (d : Addr) (fs : List (Str × V)), H2 a = some (exo a A.cBadWaits (some d)) ∧ H2 d = some (exd d fs) ∧ H d = none ∧ E (.ref A.cBadWaits) (some d) (upd (del H2 a) d (.xd fs))) (fun _ _ _ => False) := by
  refine ⟨by show 1 ≤ 1000; decide, fun a ha => ⟨_, _, rfl, a, A.cBadWaits, rfl, O.ox, O.noAt, upd_same, fun dx hd hn => ?_⟩⟩
  have hd0 : H dx = none := by rw [upd_ne hn] at hd; exact hd
  refine ⟨rfl, dx, [("at", v)], upd_same, by rw [upd_ne hn, upd_same], hd0, k dx _ (fun b o hb => ?_) hd0 upd_same⟩
  have n1 : b ≠ dx := fun z => by rw [z, hd0] at hb; cases hb
  have n2 : b ≠ a := fun z => by rw [z, ha] at hb; cases hb
  rw [upd_ne n1, del_ne n2, upd_ne n2, upd_ne n1, upd_ne n2]
  exact hb
end SB
namespace SB
open PySem PySem.Spec PyProof.Rows L2
theorem ps_raiseX {X : Cx} {e : Expr} {t : L2.St → Hp → XK → Prop} {E : XK} {pos : Pos} (hc : X.calm = true) (tk : Takes X (fun cls d _ H => E cls d H)) (he : PMk X e t) : PS X (.Raise (some e) none pos) (tRaise t E) := ps_raise hc tk he
theorem ps_tryA {X : Cx} {x n : Str} {c : Value} {i : Nat} {body suite : List Stmt} {b₀ : Stmt} {np pos pos' : Pos} {tb : WX → TS} {ts : Addr → Value → Option Addr → TS}
    (hs : X.stack = X.env :: X.outer) (hf : X.env.frame = some X.env.locals) (hN : X.N.Nodup) (hi : X.N[i]? = some n) (hln : X.env.kindOf n = some .local) (hc : Names X x c) (tk : Takes X (fun _ _ _ _ => False))
    (hb : ∀ (W : WX) (pn : List (Addr × Obj)) (xe : Value → Shared → Prop), Takes (X.tr pn xe) W → PassesOwn (model X.prog X.w) X.A X.env xe → PSs (X.tr pn xe) body (tb W))
    (hsu : ∀ (a : Addr) (oe : Obj) (cls : Value) (d : Option Addr) (pn : List (Addr × Obj)), Zc cls d oe → (∃ vs, oe.data = .fields vs) → PSs (X.suite a ((a, oe) :: pn)) (b₀ :: suite) (ts a cls d)) :
    PS X (.Try body [.ExceptHandler (some (.Name x np)) (some n) (b₀ :: suite) pos'] [] [] pos) (tTryAs X.K c i tb ts) := ps_try_as hs hf hN hi hln hc tk hb hsu
abbrev qNeg : V → Hp → VK → Prop := rU fun i => .int (-i)
abbrev qPow : R2 := rI CPow fun i j => .int (i ^ j.toNat)
def qTupOf (K : PySem.W.Frag) : List V → Hp → VK → Prop := fun xs H Q => ∃ p ys, xs = [.ref p] ∧ ((SqL K H p ys ∧ ∀ l, H l = none → Q (.ref l) (upd H l (.tup ys))) ∨ (SqT K H p ys ∧ Q (.ref p) H))
def qInsert : V → List V → Hp → VK → Prop := fun x vs H Q => ∃ (l : Addr) (xs : List V) (i : Int) (y : V), x = .ref l ∧ vs = [.int i, y] ∧ H l = some (.lst xs) ∧ xs.length < sizeLine ∧ 0 ≤ i ∧ i < 2 ^ 63 ∧ Q .non (upd H l (.lst (xs.take i.toNat ++ [y] ++ xs.drop i.toNat)))
section
variable {X : Cx}
theorem call_tuple_ofq : CallR X (.type "tuple") (qTupOf X.K) := call_tuple_of
theorem mt_insertq : MtR X "list.insert" qInsert := mt_insert
end
section
variable {K : PySem.W.Frag} {σ : L2.St} {F0 H0 F H : Hp} {L : List (Addr × HO)} {Q : VK} {D : Ends} {E : XK} {C p : Addr} {sp : Sp} {dvs xs : List V} {ta : TA} {te : TE} {r : V → Hp → VK → Prop} {g : Int → V} {i : Int} {y : V}
theorem r_raiseO (h : ta σ H fun vs H1 => vs.length ≤ 1000 ∧ ∀ a, H1 a = none → sp (.ref a :: (vs ++ dvs)) (upd H1 a (exo a C none))
    (fun v H2 => v = .non ∧ ∃ (d : Addr) (fs : List (Str × V)), H2 a = some (exo a C (some d)) ∧ H2 d = some (exd d fs) ∧ H1 d = none ∧ E (.ref C) (some d) (upd (del H2 a) d (.xd fs))) (fun _ _ _ => False)) : tRaise (tMkO C sp dvs ta) E D σ H := h
theorem r_un (h : te σ H fun x H1 => r x H1 Q) : tUn r te σ H Q := h
theorem r_rU (k : Q (g i) H) : rU g (.int i) H Q := ⟨i, rfl, k⟩
theorem r_tupOfL (h : SqL K H p xs) (Z : Zs F0 H0 F H L) (k : ∀ l H', Zs F0 H0 F H' ((l, .tup xs) :: L) → Q (.ref l) H') : qTupOf K [.ref p] H Q := ⟨p, xs, rfl, .inl ⟨h, fun l hl => k l _ (Z.alloc hl)⟩⟩
theorem r_insert (j : Nat) {m : Nat} (Z : Zs F0 H0 F H L) (h : L[j]? = some (p, .lst xs)) (hi : i = (m : Int)) (hz : xs.length < 100000) (hm : m < 100000) (k : ∀ H', Zs F0 H0 F H' (L.set j (p, .lst (xs.take m ++ [y] ++ xs.drop m))) → Q .non H') : qInsert (.ref p) [.int i, y] H Q := by
  subst hi
  refine ⟨p, xs, (m : Int), y, rfl, rfl, Z.get h, sz_lt hz, by omega, by omega, ?_⟩
  rw [Int.toNat_natCast]
  exact k _ (Z.setAt j h)
end
end SB
/-! Own rule: several except clauses, with or without a name. -/
namespace SB
open PySem PySem.Spec PyProof.Rows L2
abbrev ClT := Value × Option Nat × (Addr → Value → Option Addr → TS)
/-- the ends of a suite whose name goes -/
def endsA (D : Ends) (i : Nat) : Ends := { nx := fun τ G => D.nx (τ.set i none) G, rt := D.rt, bk := fun τ G => D.bk (τ.set i none) G, ct := fun τ G => D.ct (τ.set i none) G }
def wMix (K : PySem.W.Frag) (D : Ends) : List ClT → WX
  | [] => fun _ _ _ _ => False
  | (c, none, ts) :: r => fun cls d τ G => ∃ b, PySem.W.exmOne K cls c = some b ∧ (b = true → ∀ e, G e = none → ts e cls d D τ G) ∧ (b = false → wMix K D r cls d τ G)
  | (c, some i, ts) :: r => fun cls d τ G => ∃ b, PySem.W.exmOne K cls c = some b ∧ (b = true → ∀ e, G e = none → ts e cls d (endsA D i) (τ.set i (some (.ref e))) G) ∧ (b = false → wMix K D r cls d τ G)
def tTryM (K : PySem.W.Frag) (tb : WX → TS) (l : List ClT) : TS := fun D τ G => tb (wMix K D l) D τ G
inductive HdsA (X : Cx) : List ExceptHandler → List ClT → Prop
  | nil : HdsA X [] []
  | cons0 {x : Str} {c : Value} {ts : Addr → Value → Option Addr → TS} {s₀ : Stmt} {ss : List Stmt} {np sp : Pos} {hs : List ExceptHandler} {l : List ClT} (hc : Names X x c)
      (su : ∀ (e : Addr) (oe : Obj) (cls : Value) (d : Option Addr) (pn : List (Addr × Obj)), Zc cls d oe → (∃ vs, oe.data = .fields vs) → PSs (X.suite e ((e, oe) :: pn)) (s₀ :: ss) (ts e cls d)) (r : HdsA X hs l) :
      HdsA X (.ExceptHandler (some (.Name x np)) none (s₀ :: ss) sp :: hs) ((c, none, ts) :: l)
  | consA {x n : Str} {c : Value} {i : Nat} {ts : Addr → Value → Option Addr → TS} {s₀ : Stmt} {ss : List Stmt} {np sp : Pos} {hs : List ExceptHandler} {l : List ClT} (hN : X.N.Nodup) (hi : X.N[i]? = some n) (hln : X.env.kindOf n = some .local) (hc : Names X x c)
      (su : ∀ (e : Addr) (oe : Obj) (cls : Value) (d : Option Addr) (pn : List (Addr × Obj)), Zc cls d oe → (∃ vs, oe.data = .fields vs) → PSs (X.suite e ((e, oe) :: pn)) (s₀ :: ss) (ts e cls d)) (r : HdsA X hs l) :
      HdsA X (.ExceptHandler (some (.Name x np)) (some n) (s₀ :: ss) sp :: hs) ((c, some i, ts) :: l)
section
variable {X : Cx} {body : List Stmt} {k₀ : ExceptHandler} {ks : List ExceptHandler} {l : List ClT} {pos : Pos} {tb : WX → TS}
theorem ps_tryM (hst : X.stack = X.env :: X.outer) (hfr0 : X.env.frame = some X.env.locals) (tk0 : Takes X (fun _ _ _ _ => False))
    (hbody : ∀ (W : WX) (pn : List (Addr × Obj)) (xe : Value → Shared → Prop), Takes (X.tr pn xe) W → PassesOwn (model X.prog X.w) X.A X.env xe → PSs (X.tr pn xe) body (tb W))
    (hhd : HdsA X (k₀ :: ks) l) : PS X (.Try body (k₀ :: ks) [] [] pos) (tTryM X.K tb l) := by
  constructor
  intro pins s τ G D I hw
  have okX := I.ok
  have hframes : X.A.frames = some (X.env :: X.outer) := by rw [okX.frames, hst]
  refine wpAny_Try_except ?_
  refine wpAny_mono ((hbody (wMix X.K D l) (X.pn ++ pins) (fun v s1 => wpAny (model X.prog X.w) X.A (noteFrame v X.env) (fun _ s2 => wpAny (model X.prog X.w) X.A (setFlight v none) (fun _ s3 =>
    wpAny (model X.prog X.w) X.A (handleBy v X.env (k₀ :: ks)) (SP X pins D) X.xe s3) X.xe s2) X.xe s1) (fun v s1 flies => ?_) PassesOwn.looking).run [] s τ G D (I.toTry _) hw) (fun fl s1 done => ?_) (fun v s1 z => z)
  · obtain ⟨e, B, sA, pins1, τ1, G1, cls, d, rfl, JA0, nb, upA, sky, ne, oss, ags, wish⟩ := flies
    have JA : Inv X pins τ1 G1 sA := JA0.ofTry okX
    have skyA : Sky B (X.env :: X.outer) e (Zc cls d) X.env.locals s1.heap := by rw [← hst]; exact sky
    show wpAny (model X.prog X.w) X.A (noteFrame (.ref e) X.env) _ _ _
    refine Sky.land Zc.steady hframes hfr0 skyA fun hA flA upB => ?_
    have JB : Inv X pins τ1 G1 { s1 with heap := hA } := JA.landed nb flA.1 (upA.trans upB) oss ags
    obtain ⟨oA, vsA, getA, zA, dataA⟩ := flA.there
    have notF : ∀ {h : Heap} {o : Obj} {vs : Array Value}, h.FunFrames B (X.env :: X.outer) → h.get? e = some o → o.data = .fields vs → e ∉ frs (X.env :: X.outer) := fun {h o vs} ff he hd hm => by
      obtain ⟨_, o1, e1, hnf⟩ := ff.mem hm
      rw [he] at e1
      cases e1
      exact hnf _ hd
    have nfr := notF flA.2.2.1 getA dataA
    have nL : e ≠ X.env.locals := fun z => nfr (List.mem_filterMap.mpr ⟨X.env, List.mem_cons_self, by rw [hfr0, z]⟩)
    have nF : e ∉ X.fs := fun hm => by
      obtain ⟨q, hq, z⟩ := List.mem_filterMap.mp hm
      exact nfr (List.mem_filterMap.mpr ⟨q, List.mem_cons_of_mem _ hq, z⟩)
    have SA := JB.suite getA dataA ne nL nF
    have LT : PySem.W.Looks (model X.prog X.w) hA (typeOf (.ref e)) cls := fun A Q E s k q => wpAny_typeOf_ref (k _ _ getA) (by rw [zA.1]; exact q)
    -- the clause's class is looked up
    have named : ∀ {x : Str} {c : Value} {np : Pos} {Q E : Value → Shared → Prop}, Names X x c → Q c { s1 with heap := hA } → wpAny (model X.prog X.w) (X.A.mark (some (.ref e))) (eval (.Name x np) X.env) Q E { s1 with heap := hA } := fun {x c np Q E} hc q => by
      obtain ⟨hg, hdbg, hm | ⟨hm, hv, hnn⟩⟩ := hc
      · exact ld_glob (X := X.suite e ((e, oA) :: (X.pn ++ pins))) SA hg hm q hdbg
      · exact ld_blt (X := X.suite e ((e, oA) :: (X.pn ++ pins))) SA hg hm hv q hnn hdbg
    have go : ∀ {hs : List ExceptHandler} {m : List ClT}, HdsA X hs m → wMix X.K D m cls d τ1 G1 → wpAny (model X.prog X.w) X.A (handleBy (.ref e) X.env hs) (SP X pins D) X.xe { s1 with heap := hA } := by
      intro hs m hk
      induction hk with
      | nil => intro z; exact False.elim z
      | @cons0 x c ts s₀ ss np sp hs2 l2 hc su r ih =>
        intro z
        obtain ⟨b, hb1, hyes, hno⟩ := z
        refine wpAny_handleBy_cons (codeAny_handlers_test ?_) (by intro q; cases q)
        have LM := PySem.W.exm_one (M := model X.prog X.w) JB.kIn LT hb1
        refine named hc (LM.here ?_)
        cases b with
        | true =>
          refine codeAny_handlers_suite ?_
          refine HandSPX.lands_againZ flA fun hB flB upC => ?_
          have JC : Inv X pins τ1 G1 { s1 with heap := hB } := JA.landed nb flB.1 ((upA.trans upB).trans upC) oss ags
          obtain ⟨oB, vsB, getB, zB, dataB⟩ := flB.there
          have SB' := JC.suite getB dataB ne nL nF
          refine wpAny_mono ((su e oB cls d (X.pn ++ pins) zB ⟨_, dataB⟩).run [] _ _ G1 _ SB' (hyes rfl e ne)) (fun fl s6 done => ?_) (fun _ _ z => False.elim z)
          cases fl with
          | next => obtain ⟨τ6, G6, S6, q6⟩ := done; exact ⟨_, _, S6.unsuite okX, q6⟩
          | brk => obtain ⟨τ6, G6, S6, q6⟩ := done; exact ⟨_, _, S6.unsuite okX, q6⟩
          | cont => obtain ⟨τ6, G6, S6, q6⟩ := done; exact ⟨_, _, S6.unsuite okX, q6⟩
          | ret u => obtain ⟨v6, τ6, G6, S6, r6, q6⟩ := done; exact ⟨_, _, _, S6.unsuite okX, r6, q6⟩
        | false =>
          show wpAny _ X.A (handleBy (.ref e) X.env hs2) _ _ _
          exact ih (hno rfl)
      | @consA x n c i ts s₀ ss np sp hs2 l2 hN hi hln hc su r ih =>
        intro z
        obtain ⟨b, hb1, hyes, hno⟩ := z
        refine wpAny_handleBy_cons (codeAny_handlers_test ?_) (by intro q; cases q)
        have LM := PySem.W.exm_one (M := model X.prog X.w) JB.kIn LT hb1
        refine named hc (LM.here ?_)
        cases b with
        | true =>
          refine codeAny_handlers_suite_as ?_
          refine HandSPX.lands_againZ flA fun hB flB upC => ?_
          have JC : Inv X pins τ1 G1 { s1 with heap := hB } := JA.landed nb flB.1 ((upA.trans upB).trans upC) oss ags
          obtain ⟨oB, vsB, getB, zB, dataB⟩ := flB.there
          have SB' := JC.suite getB dataB ne nL nF
          have hloc : Loc X.env.scope n := .inl hln
          refine store_ok (X := X.suite e ((e, oB) :: (X.pn ++ pins))) (v := .ref e) SB' hN hi hloc rfl (fun s5 S5 => ?_) (.inr hln)
          refine wpAny_mono ((su e oB cls d (X.pn ++ pins) zB ⟨_, dataB⟩).run [] s5 _ G1 _ S5 (hyes rfl e ne)) (fun fl s6 done => ?_) (fun _ _ z => False.elim z)
          have gone : ∀ {τ6 : L2.St} {G6 : Hp} {Q : Shared → Prop}, Inv (X.suite e ((e, oB) :: (X.pn ++ pins))) [] τ6 G6 s6 → (∀ s7, Inv X pins (τ6.set i none) G6 s7 → Q s7) →
              wpAny (model X.prog X.w) X.A (do bindName X.env n .none; unbindBehindTheSuite X.env n sp) (fun _ s7 => Q s7) X.xe s6 := fun {τ6 G6 Q} S6 hq => gone_ok (S6.unsuite okX) hN hi hln hq
          cases fl with
          | next => obtain ⟨τ6, G6, S6, q6⟩ := done; exact gone S6 fun s7 J7 => ⟨_, _, J7, q6⟩
          | brk => obtain ⟨τ6, G6, S6, q6⟩ := done; exact gone S6 fun s7 J7 => ⟨_, _, J7, q6⟩
          | cont => obtain ⟨τ6, G6, S6, q6⟩ := done; exact gone S6 fun s7 J7 => ⟨_, _, J7, q6⟩
          | ret u => obtain ⟨v6, τ6, G6, S6, r6, q6⟩ := done; exact gone S6 fun s7 J7 => ⟨_, _, _, J7, r6, q6⟩
        | false =>
          show wpAny _ X.A (handleBy (.ref e) X.env hs2) _ _ _
          exact ih (hno rfl)
    exact go hhd wish
  · cases fl with
    | next => obtain ⟨τ1, G1, J1, q⟩ := done; exact wpAny_execs_nil ⟨τ1, G1, J1.ofTry okX, q⟩
    | brk => obtain ⟨τ1, G1, J1, q⟩ := done; exact ⟨τ1, G1, J1.ofTry okX, q⟩
    | cont => obtain ⟨τ1, G1, J1, q⟩ := done; exact ⟨τ1, G1, J1.ofTry okX, q⟩
    | ret u => obtain ⟨v, τ1, G1, J1, r, q⟩ := done; exact ⟨v, τ1, G1, J1.ofTry okX, r, q⟩
end
end SB
namespace SB
open PySem L2
/-! ### the program: waits.py -/
/-- isinstance over data -/
def tyD : PyData → String
  | .none => "NoneType"
  | .bool _ => "bool"
  | .int _ => "int"
  | .str _ => "str"
  | .list _ => "list"
  | .tuple _ => "tuple"
  | .dict _ => "dict"
theorem ty_of {K : PySem.W.Frag} {H : Hp} {v : V} {d : PyData} (h : Td H v d) : TyX K H v (.type (tyD d)) := by
  cases h with
  | non => exact .base .non
  | bl b => exact .base (.bl b)
  | int i => exact .base (.int i)
  | str x => exact .base (.str x)
  | lst a b => exact .base (.lst a)
  | tup a b => exact .base (.tup a)
def isD (d : PyData) (n : String) : Bool := (kitB (tyD d) n).getD false
theorem r_isi {K : PySem.W.Frag} {H : Hp} {v : V} {d : PyData} {n : String} {b : Bool} {Q : VK} (h : Td H v d) (hb : kitB (tyD d) n = some b) (k : Q (.bl b) H) : rIsi K [v, .ty n] H Q :=
  ⟨v, .ty n, .type (tyD d), .type n, b, rfl, .ty n, ty_of h, kit_ty hb, k⟩
theorem ki_int : ∀ d : PyData, kitB (tyD d) "int" = some (match d with | .int _ => true | .bool _ => true | _ => false)
  | .none => by decide +kernel
  | .bool _ => by show kitB "bool" "int" = some true; decide +kernel
  | .int _ => by show kitB "int" "int" = some true; decide +kernel
  | .str _ => by show kitB "str" "int" = some false; decide +kernel
  | .list _ => by show kitB "list" "int" = some false; decide +kernel
  | .tuple _ => by show kitB "tuple" "int" = some false; decide +kernel
  | .dict _ => by show kitB "dict" "int" = some false; decide +kernel
theorem ki_bool : ∀ d : PyData, kitB (tyD d) "bool" = some (match d with | .bool _ => true | _ => false)
  | .none => by decide +kernel
  | .bool _ => by show kitB "bool" "bool" = some true; decide +kernel
  | .int _ => by show kitB "int" "bool" = some false; decide +kernel
  | .str _ => by show kitB "str" "bool" = some false; decide +kernel
  | .list _ => by show kitB "list" "bool" = some false; decide +kernel
  | .tuple _ => by show kitB "tuple" "bool" = some false; decide +kernel
  | .dict _ => by show kitB "dict" "bool" = some false; decide +kernel
theorem ki_str : ∀ d : PyData, kitB (tyD d) "str" = some (match d with | .str _ => true | _ => false)
  | .none => by decide +kernel
  | .bool _ => by show kitB "bool" "str" = some false; decide +kernel
  | .int _ => by show kitB "int" "str" = some false; decide +kernel
  | .str _ => by show kitB "str" "str" = some true; decide +kernel
  | .list _ => by show kitB "list" "str" = some false; decide +kernel
  | .tuple _ => by show kitB "tuple" "str" = some false; decide +kernel
  | .dict _ => by show kitB "dict" "str" = some false; decide +kernel
theorem ki_list : ∀ d : PyData, kitB (tyD d) "list" = some (match d with | .list _ => true | _ => false)
  | .none => by decide +kernel
  | .bool _ => by show kitB "bool" "list" = some false; decide +kernel
  | .int _ => by show kitB "int" "list" = some false; decide +kernel
  | .str _ => by show kitB "str" "list" = some false; decide +kernel
  | .list _ => by show kitB "list" "list" = some true; decide +kernel
  | .tuple _ => by show kitB "tuple" "list" = some false; decide +kernel
  | .dict _ => by show kitB "dict" "list" = some false; decide +kernel
theorem ki_tuple : ∀ d : PyData, kitB (tyD d) "tuple" = some (match d with | .tuple _ => true | _ => false)
  | .none => by decide +kernel
  | .bool _ => by show kitB "bool" "tuple" = some false; decide +kernel
  | .int _ => by show kitB "int" "tuple" = some false; decide +kernel
  | .str _ => by show kitB "str" "tuple" = some false; decide +kernel
  | .list _ => by show kitB "list" "tuple" = some false; decide +kernel
  | .tuple _ => by show kitB "tuple" "tuple" = some true; decide +kernel
  | .dict _ => by show kitB "dict" "tuple" = some false; decide +kernel

/-- is_hand -/
def handD : PyData → Int → Bool
  | .int i, m => decide (0 ≤ i) && decide (i < m)
  | _, _ => false
def pr_is_hand (K : PySem.W.Frag) (A : Ad) : V → V → Hp → VK → XK → Prop := fun a b H Q _ => ∃ d m, Td H a d ∧ b = .int m ∧ Q (.bl (handD d m)) H
abbrev sp_is_hand (K : PySem.W.Frag) (A : Ad) : Sp := sp2 (pr_is_hand K A)
def t_is_hand (K : PySem.W.Frag) (A : Ad) : TS :=
    (tRet (tAndV (tCB (rIsi K) (tCons (tVar 0) (tCons (tC (.ty "int")) tNil))) (tAndV (tNotV (tCB (rIsi K) (tCons (tVar 0) (tCons (tC (.ty "bool")) tNil)))) (tChain qLe qLt (tC (.int 0)) (tVar 0) (tVar 1)))))
theorem rd_is_hand {K : PySem.W.Frag} {A : Ad} {a b : V} {H : Hp} {Q : VK} {E : XK} (h : pr_is_hand K A a b H Q E) : t_is_hand K A { nx := fun _ H' => Q .non H', rt := Q } [some a, some b] H := by
  obtain ⟨d, m, hd, rfl, q⟩ := h
  unfold t_is_hand
  walk_at "rd"
  refine r_isi hd (ki_int d) ?_
  walk_at "rd"
  refine ifb (fun h => ?_) (fun h => ?_)
  · walk_at "rd"
    refine r_isi hd (ki_bool d) ?_
    walk_at "rd"
    refine ifnb (fun h2 => ?_) (fun h2 => ?_)
    · cases hd with
      | int i =>
        walk_at "rd"
        refine ifd (fun h3 => ?_) (fun h3 => ?_)
        · walk_at "rd"
          have e : handD (.int i) m = decide (i < m) := by
            show (decide (0 ≤ i) && decide (i < m)) = _
            rw [decide_eq_true h3, Bool.true_and]
          rw [← e]
          exact q
        · have e : handD (.int i) m = false := by
            show (decide (0 ≤ i) && decide (i < m)) = _
            rw [decide_eq_false h3, Bool.false_and]
          rw [← e]
          exact q
      | bl b => cases h2
      | non => cases h
      | str x => cases h
      | lst x y => cases h
      | tup x y => cases h
    · cases hd with
      | bl b => exact q
      | int i => cases h2
      | non => cases h
      | str x => cases h
      | lst x y => cases h
      | tup x y => cases h
  · cases hd with
    | bl b => cases h
    | int i => cases h
    | non => exact q
    | str x => exact q
    | lst x y => exact q
    | tup x y => exact q
end SB
namespace SB
open PySem L2
/-! ### the program: is_wait of any data -/
def WaitP (d : PyData) (m : Nat) : Prop := ∃ w : Wt, d = dW w ∧ okW m w
noncomputable def waitD (d : PyData) (m : Nat) : Bool := @decide (WaitP d m) (Classical.propDecidable _)
theorem waitD_t {d : PyData} {m : Nat} (h : WaitP d m) : waitD d m = true := @decide_eq_true _ (Classical.propDecidable _) h
theorem waitD_f {d : PyData} {m : Nat} (h : ¬ WaitP d m) : waitD d m = false := @decide_eq_false _ (Classical.propDecidable _) h
def pr_is_wait (K : PySem.W.Frag) (A : Ad) : V → V → Hp → VK → XK → Prop := fun a b H Q _ => ∃ d m, Td H a d ∧ SeqAt.shaped d = true ∧ b = .int (m : Nat) ∧ ∀ H', Same H H' → Q (.bl (waitD d m)) H'
abbrev sp_is_wait (K : PySem.W.Frag) (A : Ad) : Sp := sp2 (pr_is_wait K A)
/-- what the top has laid: the words -/
def WordsOk (K : PySem.W.Frag) (A : Ad) : Prop := ∀ H, SqT K H A.words [.str "all", .str "any"]
def t_is_wait (K : PySem.W.Frag) (A : Ad) : TS :=
    (tSeq (tIfS (tTest (tOp qIsN (tVar 0) (tC .non)))
    (tRet (tC (.bl true)))
    tNext)
    (tSeq (tIfS (tOr (tNot (tB (tCB (rIsi K) (tCons (tVar 0) (tCons (tC (.ty "tuple")) tNil))))) (tOr (tTest (tOp rNe (tCB (qLen K) (tCons (tVar 0) tNil)) (tC (.int 2)))) (tOr (tNot (tB (tCB (rIsi K) (tCons (tOp (rIxT K) (tVar 0) (tC (.int 0))) (tCons (tC (.ty "str")) tNil))))) (tTest (tOp (rIn K true) (tOp (rIxT K) (tVar 0) (tC (.int 0))) (tC (.ref A.words)))))))
    (tRet (tC (.bl false)))
    tNext)
    (tSeq (tIfS (tOr (tNot (tB (tCB (rIsi K) (tCons (tOp (rIxT K) (tVar 0) (tC (.int 1))) (tCons (tC (.ty "list")) tNil))))) (tTest (tOp (rEqD K) (tOp (rIxT K) (tVar 0) (tC (.int 1))) (tLst tNil))))
    (tRet (tC (.bl false)))
    tNext)
    (tSeq (tFor (iEnum K (tCons (tOp (rIxT K) (tVar 0) (tC (.int 1))) tNil)) (gTup K 2 (gCons (gName 2) (gCons (gName 3) gNil)))
    (tIfS (tOr (tNot (tB (tCall (sp_is_hand K A) [] E0 (tCons (tVar 3) (tCons (tVar 1) tNil))))) (tTest (tOp (rIn K false) (tVar 3) (tSl (rSlL K) (tOp (rIxT K) (tVar 0) (tC (.int 1))) tNoPart (tPart (tVar 2))))))
    (tRet (tC (.bl false)))
    tNext))
    (tRet (tC (.bl true)))))))
theorem tup_inj2 {a b c d : PyData} (h : PyData.tuple [a, b] = .tuple [c, d]) : a = c ∧ b = d := by
  injection h with h
  injection h with h1 h2
  injection h2 with h2 _
  exact ⟨h1, h2⟩
theorem wd_inj {b c : Bool} (h : wd b = wd c) : b = c := by
  cases b <;> cases c <;> first | rfl | exact absurd h (by decide +kernel)
theorem words_in (x : Str) : inV (.str x) [.str "all", .str "any"] = true ↔ ∃ b, x = wd b := by
  unfold inV
  rw [List.any_cons, List.any_cons, List.any_nil, Bool.or_false]
  show (((("all" : Str) == x) || (("any" : Str) == x)) = true) ↔ _
  rw [Bool.or_eq_true, beq_iff_eq, beq_iff_eq]
  constructor
  · rintro (e | e)
    · exact ⟨false, e.symm⟩
    · exact ⟨true, e.symm⟩
  · rintro ⟨b, rfl⟩
    cases b
    · exact .inl rfl
    · exact .inr rfl
theorem rd_is_wait {K : PySem.W.Frag} {A : Ad} (W : WordsOk K A) {a b : V} {H : Hp} {Q : VK} {E : XK} (h : pr_is_wait K A a b H Q E) : t_is_wait K A { nx := fun _ H' => Q .non H', rt := Q } [some a, some b, none, none] H := by
  obtain ⟨d, m, hd, hsh, rfl, q⟩ := h
  have no : ¬ WaitP d m → ∀ H', Same H H' → Q (.bl false) H' := fun n H' s => by
    rw [← waitD_f n]; exact q H' s
  have yes : WaitP d m → ∀ H', Same H H' → Q (.bl true) H' := fun n H' s => by
    rw [← waitD_t n]; exact q H' s
  have Z : Zs H H H H [] := Zs.start (Same.refl _)
  unfold t_is_wait
  walk_at "rd"
  refine ifd (fun h => ?_) (fun h => ?_)
  · walk_at "rd"
    exact yes ⟨none, hd.non_iff.mp h, True.intro⟩ H (Same.refl _)
  have hn : ¬ d = .none := fun q => h (hd.non_iff.mpr q)
  walk_at "rd"
  refine r_isi hd (ki_tuple d) ?_
  walk_at "rd"
  refine ifnb (fun h1 => ?_) (fun h1 => ?_)
  · walk_at "rd"
    refine ifT rfl ?_
    walk_at "rd"
    refine no (fun ⟨w, e, _⟩ => ?_) H (Same.refl _)
    subst e
    cases w with
    | none => exact hn rfl
    | some p => cases h1
  obtain ⟨ds, rfl⟩ : ∃ ds, d = .tuple ds := by
    cases d <;> first | exact ⟨_, rfl⟩ | cases h1
  obtain ⟨p, xs, rfl, hp, hx⟩ := hd.inv_tup
  walk_at "rd"
  refine r_lenT (SqT.of hp) ?_
  walk_at "rd"
  refine ifn (fun h2 => ?_) (fun h2 => ?_)
  · walk_at "rd"
    refine ifT rfl ?_
    walk_at "rd"
    refine no (fun ⟨w, e, _⟩ => ?_) H (Same.refl _)
    cases w with
    | none => cases e
    | some p =>
      cases e
      exact h2 (by rw [hx.len] <;> rfl)
  obtain ⟨x0, x1, d0, d1, rfl, rfl, h0, h1'⟩ : ∃ x0 x1 d0 d1, xs = [x0, x1] ∧ ds = [d0, d1] ∧ Td H x0 d0 ∧ Td H x1 d1 := by
    cases hx with
    | nil => exact absurd h2 (by decide)
    | cons a hx =>
      cases hx with
      | nil => exact absurd h2 (by simp)
      | cons b hx =>
        cases hx with
        | nil => exact ⟨_, _, _, _, rfl, rfl, a, b⟩
        | cons c hx =>
          rw [List.length_cons, List.length_cons, List.length_cons] at h2
          omega
  walk_at "rd"
  refine r_ixT (SqT.of hp) (at_i (by decide) rfl) ?_
  walk_at "rd"
  refine r_isi h0 (ki_str d0) ?_
  walk_at "rd"
  refine ifnb (fun h3 => ?_) (fun h3 => ?_)
  · walk_at "rd"
    refine ifT rfl ?_
    walk_at "rd"
    refine no (fun ⟨w, e, _⟩ => ?_) H (Same.refl _)
    cases w with
    | none => cases e
    | some p => cases e; cases h3
  obtain ⟨s0, rfl⟩ : ∃ s, d0 = .str s := by
    cases d0 <;> first | exact ⟨_, rfl⟩ | cases h3
  cases h0
  walk_at "rd"
  refine r_ixT (SqT.of hp) (at_i (by decide) rfl) ?_
  walk_at "rd"
  refine r_inT (W H) rfl rfl ?_
  rw [if_pos rfl]
  walk_at "rd"
  refine ifnb (fun h4 => ?_) (fun h4 => ?_)
  · walk_at "rd"
    refine no (fun ⟨w, e, _⟩ => ?_) H (Same.refl _)
    cases w with
    | none => cases e
    | some p =>
      cases e
      rw [(words_in _).mpr ⟨p.1, rfl⟩] at h4
      cases h4
  obtain ⟨bw, rfl⟩ := (words_in _).mp h4
  walk_at "rd"
  refine r_ixT (SqT.of hp) (at_i (by decide) rfl) ?_
  walk_at "rd"
  refine r_isi h1' (ki_list d1) ?_
  walk_at "rd"
  refine ifnb (fun h5 => ?_) (fun h5 => ?_)
  · walk_at "rd"
    refine ifT rfl ?_
    walk_at "rd"
    refine no (fun ⟨w, e, _⟩ => ?_) H (Same.refl _)
    cases w with
    | none => cases e
    | some p => rw [(tup_inj2 e).2] at h5; cases h5
  obtain ⟨es, rfl⟩ : ∃ s, d1 = .list s := by
    cases d1 <;> first | exact ⟨_, rfl⟩ | cases h5
  obtain ⟨l, ys, rfl, hl, hy⟩ := h1'.inv_lst
  have shl : SeqAt.shaped (.list es) = true := shaped_t hsh (by simp)
  walk_at "rd"
  refine r_ixT (SqT.of hp) (at_i (by decide) rfl) ?_
  walk_at "rd"
  refine r_mk sz0 Z (fun p1 H1 Z1 => ?_)
  refine r_eqD (d := .list es) (e := .list []) (h1'.up Z1.hh) (.lst (Z1.get (i := 0) rfl) .nil) shl rfl ?_
  rw [eqv_nil]
  walk_at "rd"
  have fin : ∀ b os, PyData.tuple [.str (wd bw), .list es] = dW (some (b, os)) → es = os.map PyData.int := fun b os e => by
    have := (tup_inj2 e).2
    injection this
  refine ifb (fun h6 => ?_) (fun h6 => ?_)
  · walk_at "rd"
    refine no (fun ⟨w, e, k⟩ => ?_) H1 Z1.hh
    cases w with
    | none => cases e
    | some p =>
      have e2 := fin _ _ e
      have k1 := k.1
      cases hh : p.2 with
      | nil => exact k1 hh
      | cons x y => rw [e2, hh] at h6; cases h6
  walk_at "rd"
  refine r_ixT (SqT.of (Z1.fh _ _ hp)) (at_i (by decide) rfl) ?_
  walk_at "rd"
  have hlen := hy.len
  refine r_enumI (xs := ys) (SqL.of (Z1.fh _ _ hl)) (fun i σ' H' => ∃ x2 x3, σ' = [some (.ref p), some (.int (m : Nat)), x2, x3] ∧ Zs H H H H' [] ∧ ∃ os : List Int, es.take i = os.map PyData.int ∧ os.Nodup ∧ ∀ o ∈ os, 0 ≤ o ∧ o < (m : Int))
    ⟨none, none, rfl, Z1.nil, [], by simp, List.nodup_nil, fun _ q => (nomatch q)⟩ (fun i σ' H' _ ⟨_, _, _, Z', _⟩ => SqL.of (Z'.fh _ _ hl)) ?_ ?_
  · rintro i x T σ' H' hi ⟨x2, x3, rfl, Z', os, o1, o2, o3⟩ hT
    have Z2 := Z'.alloc (o := .tup [.int (i : Nat), x]) hT
    refine r_gt2 (SqT.of (Z2.get (i := 0) rfl)) ?_
    dsimp only [List.set_cons_succ, List.set_cons_zero]
    replace Z2 := Z2.drop
    obtain ⟨di, hdi, hxi⟩ := hy.at hi
    walk_at "rd"
    refine ⟨di, (m : Nat), hxi.up Z2.fh, rfl, ?_⟩
    walk_at "rd"
    have bad : ∀ os' : List Int, es = os'.map PyData.int → ∃ o, os'[i]? = some o ∧ di = .int o ∧ os = os'.take i := fun os' e => by
      subst e
      rw [List.getElem?_map] at hdi
      cases e2 : os'[i]? with
      | none => rw [e2] at hdi; cases hdi
      | some o =>
        rw [e2] at hdi
        refine ⟨o, rfl, (Option.some.inj hdi).symm, ?_⟩
        rw [← List.map_take] at o1
        exact ((List.map_inj_right (fun a b q => by cases q; rfl)).mp o1).symm
    refine ifnb (fun h7 => ?_) (fun h7 => ?_)
    · walk_at "rd"
      refine ifT rfl ?_
      walk_at "rd"
      refine no (fun ⟨w, e, k⟩ => ?_) _ Z2.hh
      cases w with
      | none => cases e
      | some p =>
        obtain ⟨o, ho, rfl, _⟩ := bad _ (fin _ _ e)
        have := k.2.2 o (List.mem_of_getElem? ho)
        have h7' : (decide (0 ≤ o) && decide (o < (m : Int))) = false := h7
        rw [decide_eq_true this.1, decide_eq_true this.2] at h7'
        cases h7'
    obtain ⟨o, rfl, h8, h9⟩ : ∃ o, di = .int o ∧ 0 ≤ o ∧ o < (m : Int) := by
      cases di with
      | int o =>
        have h7' : (decide (0 ≤ o) && decide (o < (m : Int))) = true := h7
        rw [Bool.and_eq_true] at h7'
        exact ⟨o, rfl, of_decide_eq_true h7'.1, of_decide_eq_true h7'.2⟩
      | _ => cases h7
    cases hxi
    walk_at "rd"
    refine r_ixT (SqT.of (Z2.fh _ _ hp)) (at_i (by decide) rfl) ?_
    walk_at "rd"
    refine r_slL Z2 (SqL.of (Z2.fh _ _ hl)) (fun p3 H3 Z3 => ?_)
    have ey : ys.take i = os.map V.int := by
      have := (hy.take i)
      rw [o1] at this
      exact this.of_ints
    rw [cut_take, ey] at Z3
    refine r_inL (SqL.of (Z3.get (i := 0) rfl)) rfl (flat_ints _) ?_
    rw [if_neg (by decide), inV_int]
    walk_at "rd"
    refine ifd (fun h10 => ?_) (fun h10 => ?_)
    · walk_at "rd"
      refine no (fun ⟨w, e, k⟩ => ?_) _ Z3.hh
      cases w with
      | none => cases e
      | some p =>
        obtain ⟨o', ho, e3, e4⟩ := bad _ (fin _ _ e)
        cases e3
        rw [e4] at h10
        have nd := k.2.1
        obtain ⟨j, hj⟩ := List.mem_iff_getElem?.mp h10
        rw [List.getElem?_take] at hj
        split at hj
        · rename_i lt
          have := nd_ix nd ho hj
          omega
        · cases hj
    · walk_at "rd"
      refine ⟨_, _, rfl, Z3.nil, os ++ [o], ?_, ?_, ?_⟩
      · rw [take_snoc hdi, o1, List.map_append] <;> rfl
      · rw [List.nodup_append]
        exact ⟨o2, by simp, fun a ha b hb => by
          rw [List.mem_singleton] at hb
          subst hb
          exact fun q => h10 (q ▸ ha)⟩
      · intro a ha
        rcases List.mem_append.mp ha with ha | ha
        · exact o3 a ha
        · rw [List.mem_singleton] at ha
          subst ha
          exact ⟨h8, h9⟩
  · rintro σ' H' ⟨x2, x3, rfl, Z', os, o1, o2, o3⟩
    rw [hlen, List.take_length] at o1
    walk_at "rd"
    refine yes ⟨some (bw, os), ?_, ?_, o2, o3⟩ _ Z'.hh
    · rw [o1] <;> rfl
    · intro e
      subst e
      rw [o1] at h6
      cases h6
end SB
/-! ## rounds: who is freed when; plain Lean -/
namespace SB
/-- whether a hand is freed in a round below t -/
def fr (ws : List Wt) : Nat → Nat → Bool
  | 0, _ => false
  | t + 1, h => match ws[h]? with
    | some (some (b, os)) => if b then os.any (fun o => fr ws t o.toNat) else os.all (fun o => fr ws t o.toNat)
    | some none => true
    | none => false
/-- the round of a hand, if it is below t -/
def rnd (ws : List Wt) : Nat → Nat → Option Nat
  | 0, _ => none
  | t + 1, h => match rnd ws t h with
    | some r => some r
    | none => if fr ws (t + 1) h then some t else none
section
variable {ws : List Wt} {t h : Nat}
theorem fr_none (e : ws[h]? = some none) : fr ws (t + 1) h = true := by
  show (match ws[h]? with | some (some (b, os)) => _ | some none => true | none => false) = true
  rw [e]
theorem fr_some {b : Bool} {os : List Int} (e : ws[h]? = some (some (b, os))) : fr ws (t + 1) h = if b then os.any (fun o => fr ws t o.toNat) else os.all (fun o => fr ws t o.toNat) := by
  show (match ws[h]? with | some (some (b, os)) => _ | some none => true | none => false) = _
  rw [e]
theorem fr_out (e : ws[h]? = none) : ∀ t, fr ws t h = false
  | 0 => rfl
  | t + 1 => by
    show (match ws[h]? with | some (some (b, os)) => _ | some none => true | none => false) = false
    rw [e]
theorem fr_up : ∀ t h, fr ws t h = true → fr ws (t + 1) h = true
  | 0, h, q => by cases q
  | t + 1, h, q => by
    cases e : ws[h]? with
    | none => rw [fr_out e] at q; cases q
    | some w =>
      cases w with
      | none => exact fr_none e
      | some p =>
        obtain ⟨b, os⟩ := p
        rw [fr_some e] at q ⊢
        cases b with
        | true =>
          rw [if_pos rfl] at q ⊢
          rw [List.any_eq_true] at q ⊢
          obtain ⟨o, m, z⟩ := q
          exact ⟨o, m, fr_up t _ z⟩
        | false =>
          rw [if_neg Bool.false_ne_true] at q ⊢
          rw [List.all_eq_true] at q ⊢
          exact fun o m => fr_up t _ (q o m)
theorem fr_mono {s : Nat} : ∀ {t : Nat}, s ≤ t → fr ws s h = true → fr ws t h = true
  | 0, l, q => by
    obtain rfl : s = 0 := Nat.le_zero.mp l
    exact q
  | t + 1, l, q => by
    by_cases e : s = t + 1
    · subst e; exact q
    · exact fr_up t h (fr_mono (by omega) q)
theorem rnd_succ_some {r : Nat} (e : rnd ws t h = some r) : rnd ws (t + 1) h = some r := by
  show (match rnd ws t h with | some r => some r | none => _) = _
  rw [e]
theorem rnd_succ_none (e : rnd ws t h = none) : rnd ws (t + 1) h = if fr ws (t + 1) h then some t else none := by
  show (match rnd ws t h with | some r => some r | none => _) = _
  rw [e]
theorem rnd_some : ∀ {t r : Nat}, rnd ws t h = some r → r < t ∧ fr ws (r + 1) h = true ∧ fr ws r h = false
  | 0, r, e => by cases e
  | t + 1, r, e => by
    cases q : rnd ws t h with
    | some x =>
      rw [rnd_succ_some q] at e
      cases e
      obtain ⟨a, b⟩ := rnd_some q
      exact ⟨by omega, b⟩
    | none =>
      rw [rnd_succ_none q] at e
      split at e
      · rename_i z
        cases e
        refine ⟨by omega, z, ?_⟩
        cases c : fr ws t h with
        | false => rfl
        | true =>
          have := rnd_has t c
          rw [q] at this
          cases this
      · cases e
where
  rnd_has : ∀ t, fr ws t h = true → (rnd ws t h).isSome = true
    | 0, q => by cases q
    | t + 1, q => by
      cases e : rnd ws t h with
      | some x => rw [rnd_succ_some e] <;> rfl
      | none => rw [rnd_succ_none e, if_pos q] <;> rfl
theorem rnd_iff (t : Nat) : rnd ws t h = none ↔ fr ws t h = false := by
  constructor
  · intro e
    cases c : fr ws t h with
    | false => rfl
    | true =>
      have := rnd_some.rnd_has (ws := ws) (h := h) t c
      rw [e] at this
      cases this
  · intro q
    cases e : rnd ws t h with
    | none => rfl
    | some r =>
      obtain ⟨a, b, _⟩ := rnd_some e
      rw [fr_mono (by omega : r + 1 ≤ t) b] at q
      cases q
theorem rnd_of {r : Nat} (l : r < t) (a : fr ws (r + 1) h = true) (b : fr ws r h = false) : rnd ws t h = some r := by
  cases e : rnd ws t h with
  | none =>
    have := (rnd_iff t).mp e
    rw [fr_mono (by omega : r + 1 ≤ t) a] at this
    cases this
  | some x =>
    obtain ⟨c, d, f⟩ := rnd_some e
    by_cases q1 : x < r
    · rw [fr_mono (by omega : x + 1 ≤ r) d] at b; cases b
    · by_cases q2 : r < x
      · rw [fr_mono (by omega : r + 1 ≤ x) a] at f; cases f
      · rw [show x = r by omega]
/-- nothing new at t: nothing new ever -/
theorem fr_still (q : ∀ h, h < ws.length → fr ws (t + 1) h = true → fr ws t h = true) : ∀ s h, t ≤ s → fr ws s h = true → fr ws t h = true
  | 0, h, l, z => by
    obtain rfl : t = 0 := Nat.le_zero.mp l
    exact z
  | s + 1, h, l, z => by
    by_cases e : t = s + 1
    · subst e; exact z
    have ih := fr_still q s
    cases e1 : ws[h]? with
    | none => rw [fr_out e1] at z; cases z
    | some w =>
      have hl : h < ws.length := (List.getElem?_eq_some_iff.mp e1).1
      refine q h hl ?_
      cases w with
      | none => exact fr_none e1
      | some p =>
        obtain ⟨b, os⟩ := p
        rw [fr_some e1] at z ⊢
        cases b with
        | true =>
          rw [if_pos rfl] at z ⊢
          rw [List.any_eq_true] at z ⊢
          obtain ⟨o, m, c⟩ := z
          exact ⟨o, m, ih _ (by omega) c⟩
        | false =>
          rw [if_neg Bool.false_ne_true] at z ⊢
          rw [List.all_eq_true] at z ⊢
          exact fun o m => ih _ (by omega) (z o m)
def cntR (ws : List Wt) (t : Nat) : Nat := ((List.range ws.length).filter (fr ws t)).length
theorem filter_le {p q : Nat → Bool} : ∀ l : List Nat, (∀ x ∈ l, p x = true → q x = true) → (l.filter p).length ≤ (l.filter q).length
  | [], _ => Nat.le_refl _
  | a :: l, h => by
    have ih := filter_le l fun x m => h x (List.mem_cons_of_mem _ m)
    rw [List.filter_cons, List.filter_cons]
    cases e : p a with
    | true => rw [h a List.mem_cons_self e]; simp; exact ih
    | false =>
      cases q a with
      | true => simp; omega
      | false => simpa using ih
theorem filter_lt {p q : Nat → Bool} : ∀ l : List Nat, (∀ x ∈ l, p x = true → q x = true) → (∃ x ∈ l, q x = true ∧ p x = false) → (l.filter p).length < (l.filter q).length
  | [], _, ⟨_, m, _⟩ => (nomatch m)
  | a :: l, h, ⟨x, m, z1, z2⟩ => by
    have h' : ∀ x ∈ l, p x = true → q x = true := fun x m => h x (List.mem_cons_of_mem _ m)
    rw [List.filter_cons, List.filter_cons]
    rcases List.mem_cons.mp m with rfl | m
    · rw [z1, z2]
      have := filter_le l h'
      simp
      omega
    · have ih := filter_lt l h' ⟨x, m, z1, z2⟩
      cases e : p a with
      | true => rw [h a List.mem_cons_self e]; simp; exact ih
      | false =>
        cases q a with
        | true => simp; omega
        | false => simpa using ih
/-- all is settled after as many turns as there are hands -/
theorem fr_end (s h : Nat) (z : fr ws s h = true) : fr ws ws.length h = true := by
  have main : ∃ t, t ≤ ws.length ∧ ∀ h, h < ws.length → fr ws (t + 1) h = true → fr ws t h = true := by
    refine Classical.byContradiction fun no => ?_
    have grow : ∀ t, t ≤ ws.length + 1 → t ≤ cntR ws t := by
      intro t
      induction t with
      | zero => intro _; exact Nat.zero_le _
      | succ t ih =>
        intro l
        have ih := ih (by omega)
        have q : ∃ x ∈ List.range ws.length, fr ws (t + 1) x = true ∧ fr ws t x = false := by
          refine Classical.byContradiction fun n2 => no ⟨t, by omega, fun h hl a => ?_⟩
          cases c : fr ws t h with
          | true => rfl
          | false => exact absurd ⟨h, List.mem_range.mpr hl, a, c⟩ n2
        have := filter_lt (p := fr ws t) (q := fr ws (t + 1)) (List.range ws.length) (fun x _ => fr_up t x) q
        unfold cntR at ih ⊢
        omega
    have h1 := grow (ws.length + 1) (Nat.le_refl _)
    have h2 := List.length_filter_le (fr ws (ws.length + 1)) (List.range ws.length)
    rw [List.length_range] at h2
    unfold cntR at h1
    omega
  obtain ⟨t, l, q⟩ := main
  by_cases c : t ≤ s
  · exact fr_mono l (fr_still q s h c z)
  · exact fr_mono (by omega) z
/-- rounds below t are all rounds, where nothing is new at t -/
theorem rnd_still (q : ∀ h, h < ws.length → fr ws (t + 1) h = true → fr ws t h = true) (h : Nat) : rnd ws t h = rnd ws ws.length h := by
  cases e : rnd ws t h with
  | some r =>
    obtain ⟨a, b, c⟩ := rnd_some e
    refine (rnd_of (r := r) ?_ b c).symm
    refine Classical.byContradiction fun n => ?_
    have := fr_mono (by omega : ws.length ≤ r) (fr_end _ _ b)
    rw [c] at this
    cases this
  | none =>
    have e' := (rnd_iff t).mp e
    refine ((rnd_iff _).mpr ?_).symm
    cases c : fr ws ws.length h with
    | false => rfl
    | true =>
      by_cases l : t ≤ ws.length
      · rw [fr_still q _ _ l c] at e'; cases e'
      · rw [fr_mono (by omega : ws.length ≤ t) c] at e'; cases e'
end
/-- the rounds of all hands -/
def rnds (ws : List Wt) (t : Nat) : List (Option Nat) := (List.range ws.length).map (rnd ws t)
def rndF (ws : List Wt) : List (Option Nat) := rnds ws ws.length
theorem rnds_len (ws : List Wt) (t : Nat) : (rnds ws t).length = ws.length := by unfold rnds; rw [List.length_map, List.length_range]
theorem rnds_get {ws : List Wt} {t h : Nat} (l : h < ws.length) : (rnds ws t)[h]? = some (rnd ws t h) := by
  unfold rnds
  rw [List.getElem?_map, List.getElem?_range l] <;> rfl
end SB
namespace SB
open PySem L2
/-! ### the program: comes_free, freed, stuck -/
def rV : Option Nat → V
  | none => .non
  | some n => .int (n : Int)
def dR : Option Nat → PyData
  | none => .none
  | some n => .int (n : Int)
theorem td_r {F : Hp} (r : Option Nat) : Td F (rV r) (dR r) := by cases r; exact .non; exact .int _
theorem tdA_r {F : Hp} (rs : List (Option Nat)) : TdA F (rs.map rV) (rs.map dR) := TdA.of_map td_r rs
theorem rV_non {r : Option Nat} : rV r = .non ↔ r = none := by cases r <;> constructor <;> intro h <;> first | rfl | exact (nomatch h)
theorem get_r {rs : List (Option Nat)} {i : Nat} {r : Option Nat} (h : rs[i]? = some r) : (rs.map rV)[i]? = some (rV r) := by rw [List.getElem?_map, h] <;> rfl
def hasR (rs : List (Option Nat)) (o : Int) : Bool := (rs.getD o.toNat none).isSome
def comesB (b : Bool) (os : List Int) (rs : List (Option Nat)) : Bool := if b then os.any (hasR rs) else os.all (hasR rs)
def pr_comes_free (K : PySem.W.Frag) (A : Ad) : V → V → Hp → VK → XK → Prop := fun a b H Q _ => ∃ (bw : Bool) (os : List Int) (rs : List (Option Nat)) (p : Addr), Td H a (dW (some (bw, os))) ∧ okW rs.length (some (bw, os)) ∧ rs.length ≤ 40 ∧ b = .ref p ∧ H p = some (.lst (rs.map rV)) ∧ ∀ H', Same H H' → Q (.bl (comesB bw os rs)) H'
abbrev sp_comes_free (K : PySem.W.Frag) (A : Ad) : Sp := sp2 (pr_comes_free K A)
def t_comes_free (K : PySem.W.Frag) (A : Ad) : TS :=
    (tSeq (tAsg (tLc (iList K (tOp (rIxT K) (tVar 0) (tC (.int 1)))) (gName 2) (tTest (tOp qNotN (tOp (rIxL K) (tVar 1) (tVar 2)) (tC .non))) (tVar 2) [2]) (gName 3))
    (tSeq (tIfS (tTest (tOp rEq (tOp (rIxT K) (tVar 0) (tC (.int 0))) (tC (.str "any"))))
    (tRet (tOp (rNeD K) (tVar 3) (tLst tNil)))
    tNext)
    (tRet (tOp rEq (tCB (qLen K) (tCons (tVar 3) tNil)) (tCB (qLen K) (tCons (tOp (rIxT K) (tVar 0) (tC (.int 1))) tNil))))))
theorem filter_any {p : Int → Bool} : ∀ os : List Int, (os.filter p).isEmpty = !os.any p
  | [] => rfl
  | a :: os => by
    have ih := filter_any (p := p) os
    rw [List.filter_cons, List.any_cons]
    cases p a with
    | true => rfl
    | false => rw [if_neg Bool.false_ne_true, ih, Bool.false_or]
theorem filter_all {p : Int → Bool} (os : List Int) : decide ((os.filter p).length = os.length) = os.all p := by
  by_cases h : os.all p = true
  · rw [h, List.filter_eq_self.mpr (List.all_eq_true.mp h), decide_eq_true rfl]
  · have h' : os.all p = false := by simpa using h
    rw [h', decide_eq_false fun q => ?_]
    exact h (List.all_eq_true.mpr (List.filter_eq_self.mp (List.filter_sublist.eq_of_length q)))
theorem rd_comes_free {K : PySem.W.Frag} {A : Ad} {a b : V} {H : Hp} {Q : VK} {E : XK} (h : pr_comes_free K A a b H Q E) : t_comes_free K A { nx := fun _ H' => Q .non H', rt := Q } [some a, some b, none, none] H := by
  obtain ⟨bw, os, rs, p, hw, ok, h40, rfl, hp, q⟩ := h
  obtain ⟨t, o, rfl, ht, ho⟩ := Td.inv_w hw
  have Z : Zs H H H H [] := Zs.start (Same.refl _)
  have osz : os.length ≤ rs.length := nodup_bound ok.2.1 (fun o ho => ok.2.2 o ho)
  unfold t_comes_free
  walk_at "rd"
  refine r_ixT (SqT.of ht) (at_i (by decide) rfl) ?_
  refine lc_lst (xs := os.map V.int) (SqL.of ho) Z (fun i acc F' => acc = ((os.take i).filter (hasR rs)).map V.int) rfl (fun F' H' Z'' s => SqL.of (Z''.fh _ _ (s _ _ ho))) ?_ ?_
  · intro j x Dl F' H'' acc hj Z'' s hacc e
    subst e
    obtain ⟨c, hc, rfl⟩ := of_get_ints hj
    have okc := ok.2.2 c (List.mem_of_getElem? hc)
    dsimp only [wipe]
    walk_at "rd"
    refine ⟨rfl, ?_⟩
    have hcl : c.toNat < rs.length := by omega
    have hce : rs[c.toNat]? = some rs[c.toNat] := List.getElem?_eq_getElem hcl
    have hhas : hasR rs c = (rs[c.toNat]).isSome := by unfold hasR; rw [List.getD_eq_getElem?_getD, hce] <;> rfl
    walk_at "rd"
    refine r_ixL (SqL.of (Z''.fh _ _ (s _ _ hp))) (at_i okc.1 (get_r hce)) ?_
    walk_at "rd"
    refine ifn (fun h2 => ?_) (fun h2 => ?_)
    · walk_at "rd"
      have hjl : j < os.length := (List.getElem?_eq_some_iff.mp hc).1
      refine cy Z'' s hacc (by omega) ?_
      have e : hasR rs c = true := by
        rw [hhas]
        cases q : rs[c.toNat] with
        | none => rw [q] at h2; exact absurd rfl h2
        | some r => rfl
      rw [take_snoc hc, List.filter_append, List.filter_cons, if_pos e, List.map_append] <;> rfl
    · refine cn Z'' s hacc ?_
      have e : hasR rs c = false := by rw [hhas, rV_non.mp h2] <;> rfl
      rw [take_snoc hc, List.filter_append, List.filter_cons, if_neg (by rw [e]; decide), List.filter_nil, List.append_nil]
  · intro Dl F' H'' acc Z'' s e
    rw [List.length_map, List.take_length] at e
    subst e
    walk_at "rd"
    refine r_ixT (SqT.of (Z''.fh _ _ (s _ _ ht))) (at_i (by decide) rfl) ?_
    walk_at "rd"
    rw [wd_any]
    refine ifb (fun h3 => ?_) (fun h3 => ?_)
    · walk_at "rd"
      refine r_mk sz0 Z'' (fun p3 H3 Z3 => ?_)
      refine r_neD (Td.ints_lst (Z3.get (i := 1) rfl)) (.lst (Z3.get (i := 0) rfl) .nil) (shaped_ints _) rfl ?_
      rw [eqv_nil]
      have em : (((os.filter (hasR rs))).map PyData.int).isEmpty = (os.filter (hasR rs)).isEmpty := by
        cases (os.filter (hasR rs)) <;> rfl
      rw [em, filter_any, Bool.not_not]
      have e : comesB bw os rs = os.any (hasR rs) := by unfold comesB; rw [if_pos h3]
      rw [← e]
      exact q _ Z3.hh
    · walk_at "rd"
      refine r_lenL (SqL.of (Z''.get (i := 0) rfl)) ?_
      walk_at "rd"
      refine r_ixT (SqT.of (Z''.fh _ _ (s _ _ ht))) (at_i (by decide) rfl) ?_
      walk_at "rd"
      refine r_lenL (SqL.of (Z''.fh _ _ (s _ _ ho))) ?_
      walk_at "rd"
      rw [List.length_map, List.length_map]
      have e : comesB bw os rs = decide (((os.filter (hasR rs)).length : Int) = (os.length : Int)) := by
        unfold comesB
        rw [if_neg (by rw [h3]; decide), ← filter_all]
        by_cases z : (os.filter (hasR rs)).length = os.length
        · rw [decide_eq_true z, decide_eq_true (by omega)]
        · rw [decide_eq_false z, decide_eq_false (by omega)]
      rw [← e]
      exact q _ Z''.hh

/-- the hands that come free at t -/
def newAt (ws : List Wt) (t : Nat) : List Int := ((List.range ws.length).filter fun h => fr ws (t + 1) h && !fr ws t h).map fun (i : Nat) => (i : Int)
def setAll (rs : List (Option Nat)) (hs : List Int) (t : Nat) : List (Option Nat) := hs.foldl (fun rs h => rs.set h.toNat (some t)) rs
theorem setAll_snoc (rs : List (Option Nat)) (hs : List Int) (h : Int) (t : Nat) : setAll rs (hs ++ [h]) t = (setAll rs hs t).set h.toNat (some t) := by unfold setAll; rw [List.foldl_append] <;> rfl
theorem setAll_len (t : Nat) : ∀ (hs : List Int) (rs : List (Option Nat)), (setAll rs hs t).length = rs.length
  | [], _ => rfl
  | h :: hs, rs => by
    show (setAll (rs.set h.toNat (some t)) hs t).length = _
    rw [setAll_len t hs, List.length_set]
theorem setAll_get (t : Nat) (j : Nat) : ∀ (hs : List Int) (rs : List (Option Nat)), (∀ h ∈ hs, 0 ≤ h) → j < rs.length → (setAll rs hs t)[j]? = if (j : Int) ∈ hs then some (some t) else rs[j]?
  | [], rs, _, _ => by rw [if_neg (by simp)] <;> rfl
  | h :: hs, rs, p, l => by
    show (setAll (rs.set h.toNat (some t)) hs t)[j]? = _
    rw [setAll_get t j hs _ (fun x m => p x (List.mem_cons_of_mem _ m)) (by rw [List.length_set]; exact l), List.getElem?_set]
    have h0 := p h List.mem_cons_self
    by_cases m : (j : Int) ∈ hs
    · rw [if_pos m, if_pos (List.mem_cons_of_mem _ m)]
    · rw [if_neg m]
      by_cases e : h.toNat = j
      · rw [if_pos e, if_pos (by rw [e]; exact l), if_pos (by rw [show (j : Int) = h by omega]; exact List.mem_cons_self)]
      · rw [if_neg e, if_neg]
        intro q
        rcases List.mem_cons.mp q with q | q
        · exact e (by omega)
        · exact m q
theorem new_in {ws : List Wt} {t : Nat} {h : Int} : h ∈ newAt ws t ↔ 0 ≤ h ∧ h < (ws.length : Int) ∧ fr ws (t + 1) h.toNat = true ∧ fr ws t h.toNat = false := by
  unfold newAt
  rw [List.mem_map]
  constructor
  · rintro ⟨i, m, rfl⟩
    rw [List.mem_filter, List.mem_range, Bool.and_eq_true] at m
    refine ⟨by omega, by omega, ?_, ?_⟩
    · rw [Int.toNat_natCast]; exact m.2.1
    · rw [Int.toNat_natCast]; simpa using m.2.2
  · rintro ⟨h0, h1, h2, h3⟩
    exact ⟨h.toNat, by rw [List.mem_filter, List.mem_range, h2, h3]; exact ⟨by omega, rfl⟩, by omega⟩
theorem setAll_new (ws : List Wt) (t : Nat) : setAll (rnds ws t) (newAt ws t) t = rnds ws (t + 1) := by
  refine List.ext_getElem? fun j => ?_
  by_cases l : j < ws.length
  · rw [setAll_get t j _ _ (fun h m => (new_in.mp m).1) (by rw [rnds_len]; exact l), rnds_get l, rnds_get l]
    by_cases m : (j : Int) ∈ newAt ws t
    · rw [if_pos m]
      obtain ⟨_, _, a, b⟩ := new_in.mp m
      rw [Int.toNat_natCast] at a b
      rw [rnd_of (by omega) a b]
    · rw [if_neg m]
      cases e : rnd ws t j with
      | some r => rw [rnd_succ_some e]
      | none =>
        rw [rnd_succ_none e]
        cases c : fr ws (t + 1) j with
        | false => rfl
        | true => exact absurd (new_in.mpr ⟨by omega, by omega, by rw [Int.toNat_natCast]; exact c, by rw [Int.toNat_natCast]; exact (rnd_iff t).mp e⟩) m
  · rw [List.getElem?_eq_none (by rw [setAll_len, rnds_len]; omega), List.getElem?_eq_none (by rw [rnds_len]; omega)]
theorem new_nil {ws : List Wt} {t : Nat} (e : newAt ws t = []) : rnds ws t = rndF ws := by
  unfold rndF rnds
  refine List.map_congr_left fun h m => rnd_still (fun h l a => ?_) h
  cases c : fr ws t h with
  | true => rfl
  | false =>
    have : (h : Int) ∈ newAt ws t := new_in.mpr ⟨by omega, by omega, by rw [Int.toNat_natCast]; exact a, by rw [Int.toNat_natCast]; exact c⟩
    rw [e] at this
    cases this
theorem new_cons {ws : List Wt} {t : Nat} (e : newAt ws t ≠ []) : t < ws.length := by
  cases q : newAt ws t with
  | nil => exact absurd q e
  | cons h r =>
    obtain ⟨_, _, a, b⟩ := new_in.mp (by rw [q]; exact List.mem_cons_self : h ∈ newAt ws t)
    refine Classical.byContradiction fun n => ?_
    rw [fr_mono (by omega : ws.length ≤ t) (fr_end _ _ a)] at b
    cases b
/-- who is left and comes free by the rounds below t + 1 -/
theorem comes_eq {ws : List Wt} {t h : Nat} {b : Bool} {os : List Int} (ok : OkWs ws) (e : ws[h]? = some (some (b, os))) : comesB b os (rnds ws t) = fr ws (t + 1) h := by
  have okw := ok.all _ (List.mem_of_getElem? e)
  have one : ∀ o ∈ os, hasR (rnds ws t) o = fr ws t o.toNat := fun o m => by
    have := okw.2.2 o m
    have l : o.toNat < ws.length := by omega
    unfold hasR
    rw [List.getD_eq_getElem?_getD, rnds_get l]
    show (rnd ws t o.toNat).isSome = _
    cases q : rnd ws t o.toNat with
    | none => rw [(rnd_iff t).mp q] <;> rfl
    | some r =>
      cases c : fr ws t o.toNat with
      | true => rfl
      | false => rw [(rnd_iff t).mpr c] at q; cases q
  rw [fr_some e]
  unfold comesB
  cases b with
  | true => rw [if_pos rfl, if_pos rfl]; exact List.any_congr_mem one
  | false => rw [if_neg Bool.false_ne_true, if_neg Bool.false_ne_true]; exact List.all_congr_mem one
where
  List.any_congr_mem {os : List Int} {p q : Int → Bool} (h : ∀ o ∈ os, p o = q o) : os.any p = os.any q := by
    induction os with
    | nil => rfl
    | cons a l ih => rw [List.any_cons, List.any_cons, h a List.mem_cons_self, ih fun o m => h o (List.mem_cons_of_mem _ m)]
  List.all_congr_mem {os : List Int} {p q : Int → Bool} (h : ∀ o ∈ os, p o = q o) : os.all p = os.all q := by
    induction os with
    | nil => rfl
    | cons a l ih => rw [List.all_cons, List.all_cons, h a List.mem_cons_self, ih fun o m => h o (List.mem_cons_of_mem _ m)]
/-- the hands below n of which p -/
def pick (p : Nat → Bool) (n : Nat) : List Int := ((List.range n).filter p).map fun (i : Nat) => (i : Int)
theorem pick_succ (p : Nat → Bool) (n : Nat) : pick p (n + 1) = if p n = true then pick p n ++ [(n : Int)] else pick p n := by
  unfold pick
  rw [List.range_succ, List.filter_append, List.map_append, List.filter_cons]
  cases p n with
  | true => rfl
  | false => simp
theorem pick_len (p : Nat → Bool) (n : Nat) : (pick p n).length ≤ n := by
  unfold pick
  rw [List.length_map]
  have := List.length_filter_le p (List.range n)
  rw [List.length_range] at this
  exact this
theorem pick_in {p : Nat → Bool} {n : Nat} {h : Int} : h ∈ pick p n ↔ 0 ≤ h ∧ h < (n : Int) ∧ p h.toNat = true := by
  unfold pick
  rw [List.mem_map]
  constructor
  · rintro ⟨i, m, rfl⟩
    rw [List.mem_filter, List.mem_range] at m
    exact ⟨by omega, by omega, by rw [Int.toNat_natCast]; exact m.2⟩
  · rintro ⟨h0, h1, h2⟩
    exact ⟨h.toNat, by rw [List.mem_filter, List.mem_range]; exact ⟨by omega, h2⟩, by omega⟩
theorem pick_pick (p q : Nat → Bool) (n : Nat) : (pick p n).filter (fun h => q h.toNat) = pick (fun i => p i && q i) n := by
  unfold pick
  rw [List.filter_map]
  congr 1
  have : ((fun h : Int => q h.toNat) ∘ fun (i : Nat) => (i : Int)) = q := by funext i; show q (i : Int).toNat = _; rw [Int.toNat_natCast]
  rw [this, List.filter_filter]
  congr 1
  funext i
  exact Bool.and_comm _ _
theorem pick_congr {p q : Nat → Bool} {n : Nat} (h : ∀ i, i < n → p i = q i) : pick p n = pick q n := by
  unfold pick
  rw [List.filter_congr fun i m => h i (List.mem_range.mp m)]
def stuckOf (ws : List Wt) : List Int := pick (fun h => !fr ws ws.length h) ws.length
end SB
/-! The program: need of any data. -/
namespace SB
open PySem L2
theorem BadE.up {A : Ad} {H H1 : Hp} {E : XK} {v : V} (h : BadE A H E v) (s : Same H H1) : BadE A H1 E v := fun d H' s' hd hx => h d H' (s.trans s') (same_none s hd) hx
/-- what is a list of a good length -/
def IsL (d : PyData) : Prop := ∃ ds, d = .list ds ∧ 1 ≤ ds.length ∧ ds.length ≤ 40
/-- the first thing that is none stands at i -/
def FirstBad (ds : List PyData) (i : Nat) : Prop := (∃ x, ds[i]? = some x ∧ ¬ WaitP x ds.length) ∧ ∀ j y, j < i → ds[j]? = some y → WaitP y ds.length
def pr_need (K : PySem.W.Frag) (A : Ad) : V → Hp → VK → XK → Prop := fun a H Q E => ∃ d, Td H a d ∧ SeqAt.shaped d = true ∧ (¬ IsL d → BadE A H E .non) ∧
  ∀ ds, d = .list ds → IsL d → (∀ i, FirstBad ds i → BadE A H E (.int (i : Nat))) ∧ ((∀ x ∈ ds, WaitP x ds.length) → ∀ H', Same H H' → Q (.bl true) H')
abbrev sp_need (K : PySem.W.Frag) (A : Ad) : Sp := sp1 (pr_need K A)
def t_need (K : PySem.W.Frag) (A : Ad) (E : XK) : TS :=
    (tSeq (tIfS (tOr (tNot (tB (tCB (rIsi K) (tCons (tVar 0) (tCons (tC (.ty "list")) tNil))))) (tNot (tTest (tChain qLe qLe (tC (.int 1)) (tCB (qLen K) (tCons (tVar 0) tNil)) (tC (.int 40))))))
    (tRaise (tMkO A.cBadWaits (sp_BadWaits_init K A) [] (tCons (tC .non) tNil)) E)
    tNext)
    (tSeq (tFor (iEnum K (tCons (tVar 0) tNil)) (gTup K 2 (gCons (gName 1) (gCons (gName 2) gNil)))
    (tIfS (tNot (tB (tCall (sp_is_wait K A) [] E0 (tCons (tVar 2) (tCons (tCB (qLen K) (tCons (tVar 0) tNil)) tNil)))))
    (tRaise (tMkO A.cBadWaits (sp_BadWaits_init K A) [] (tCons (tVar 1) tNil)) E)
    tNext))
    (tRet (tC (.bl true)))))
theorem rd_need {K : PySem.W.Frag} {A : Ad} (O : ErrOk K A) {a : V} {H : Hp} {Q : VK} {E : XK} (h : pr_need K A a H Q E) : t_need K A E { nx := fun _ H' => Q .non H', rt := Q } [some a, none, none] H := by
  obtain ⟨d, hd, hsh, hno, hq⟩ := h
  have Z : Zs H H H H [] := Zs.start (Same.refl _)
  unfold t_need
  walk_at "rd"
  refine r_isi hd (ki_list d) ?_
  walk_at "rd"
  by_cases hl : ∃ ds, d = .list ds
  · obtain ⟨ds, rfl⟩ := hl
    obtain ⟨p, xs, rfl, hp, hx⟩ := hd.inv_lst
    have hlen := hx.len
    refine ifF rfl ?_
    walk_at "rd"
    refine r_lenL (SqL.of hp) ?_
    walk_at "rd"
    refine ifd (fun h1 => ?_) (fun h1 => ?_)
    · walk_at "rd"
      refine ifn (fun h2 => ?_) (fun h2 => ?_)
      · refine r_raiseO ?_
        walk_at "rd"
        refine r_bad O (hno ?_)
        rintro ⟨ds', e, _, h3⟩
        cases e
        omega
      · have isl : IsL (.list ds) := ⟨ds, rfl, by omega, by omega⟩
        obtain ⟨hbad, hgood⟩ := hq ds rfl isl
        walk_at "rd"
        refine r_enumI (xs := xs) (SqL.of hp) (fun i σ' H' => ∃ x1 x2, σ' = [some (.ref p), x1, x2] ∧ Zs H H H H' [] ∧ ∀ j y, j < i → ds[j]? = some y → WaitP y ds.length) ⟨none, none, rfl, Z, fun j y h => absurd h (Nat.not_lt_zero _)⟩ (fun i σ' H' _ ⟨_, _, _, Z', _⟩ => SqL.of (Z'.fh _ _ hp)) ?_ ?_
        · rintro i x T σ' H' hi ⟨x1, x2, rfl, Z', hw⟩ hT
          have Z2 := Z'.alloc (o := .tup [.int (i : Nat), x]) hT
          refine r_gt2 (SqT.of (Z2.get (i := 0) rfl)) ?_
          dsimp only [List.set_cons_succ, List.set_cons_zero]
          replace Z2 := Z2.drop
          obtain ⟨di, hdi, hxi⟩ := hx.at hi
          walk_at "rd"
          refine r_lenL (SqL.of (Z2.fh _ _ hp)) ?_
          walk_at "rd"
          refine ⟨di, ds.length, hxi.up Z2.fh, shaped_l hsh (List.mem_of_getElem? hdi), by rw [hlen], fun H3 s3 => ?_⟩
          walk_at "rd"
          by_cases hwp : WaitP di ds.length
          · rw [waitD_t hwp]
            refine ifF rfl ?_
            walk_at "rd"
            refine ⟨_, _, rfl, Z2.ext s3, fun j y hj hy => ?_⟩
            by_cases e : j = i
            · rw [e, hdi] at hy
              cases hy
              exact hwp
            · exact hw j y (by omega) hy
          · rw [waitD_f hwp]
            refine ifT rfl ?_
            refine r_raiseO ?_
            walk_at "rd"
            exact r_bad O ((hbad i ⟨⟨di, hdi, hwp⟩, hw⟩).up (Z2.hh.trans s3))
        · rintro σ' H' ⟨x1, x2, rfl, Z', hw⟩
          walk_at "rd"
          refine hgood (fun x hxm => ?_) _ Z'.hh
          obtain ⟨j, hj⟩ := List.mem_iff_getElem?.mp hxm
          exact hw j x (by rw [hlen]; exact (List.getElem?_eq_some_iff.mp hj).1) hj
    · walk_at "rd"
      refine ifT rfl ?_
      refine r_raiseO ?_
      walk_at "rd"
      refine r_bad O (hno ?_)
      rintro ⟨ds', e, h3, _⟩
      cases e
      omega
  · refine ifT (by cases d <;> first | rfl | exact absurd ⟨_, rfl⟩ hl) ?_
    walk_at "rd"
    refine ifT rfl ?_
    refine r_raiseO ?_
    walk_at "rd"
    refine r_bad O (hno ?_)
    rintro ⟨ds, e, _⟩
    exact hl ⟨ds, e⟩
end SB
/-! The program: need, where waits are good, or where they are none; need_hand of any data. -/
namespace SB
open PySem L2
/-- what need finds: the place of the first thing that is none, or None -/
def NeedBad (d : PyData) (v : V) : Prop := (¬ IsL d ∧ v = .non) ∨ ∃ (i : Nat) (ds : List PyData), d = .list ds ∧ IsL d ∧ FirstBad ds i ∧ v = .int (i : Int)
section
variable {K : PySem.W.Frag} {A : Ad} {a : V} {H : Hp} {Q : VK} {E : XK} {ws : List Wt} {d : PyData} {v : V}
theorem ws_waitP (ok : OkWs ws) : ∀ x ∈ ws.map dW, WaitP x (ws.map dW).length := fun x hx => by
  obtain ⟨w, hw, rfl⟩ := List.mem_map.mp hx
  rw [List.length_map]
  exact ⟨w, rfl, ok.all w hw⟩
theorem need_good (h : Td H a (dWs ws)) (ok : OkWs ws) (q : ∀ H', Same H H' → Q (.bl true) H') : pr_need K A a H Q E := by
  have isl : IsL (dWs ws) := ⟨_, rfl, by rw [List.length_map]; exact ok.pos, by rw [List.length_map]; exact ok.most⟩
  refine ⟨_, h, dWs_shaped ws, fun n => absurd isl n, fun ds e _ => ⟨fun i hf => ?_, fun _ => q⟩⟩
  cases e
  obtain ⟨⟨x, hx, hb⟩, _⟩ := hf
  exact absurd (ws_waitP ok x (List.mem_of_getElem? hx)) hb
theorem need_bad (h : Td H a d) (hs : SeqAt.shaped d = true) (nb : NeedBad d v) (hb : BadE A H E v) : pr_need K A a H Q E := by
  rcases nb with ⟨n, rfl⟩ | ⟨i, ds, rfl, isl, hf, rfl⟩
  · exact ⟨d, h, hs, fun _ => hb, fun ds e isl => absurd isl n⟩
  · refine ⟨_, h, hs, fun n => absurd isl n, fun ds' e _ => ?_⟩
    cases e
    refine ⟨fun j hj => ?_, fun hg => ?_⟩
    · have : j = i := by
        obtain ⟨⟨x, hx, hb⟩, hlt⟩ := hf
        obtain ⟨⟨y, hy, hb'⟩, hlt'⟩ := hj
        rcases Nat.lt_trichotomy i j with h | h | h
        · exact absurd (hlt' i x h hx) hb
        · exact h.symm
        · exact absurd (hlt j y h hy) hb'
      rw [this]
      exact hb
    · obtain ⟨⟨x, hx, hb⟩, _⟩ := hf
      exact absurd (hg x (List.mem_of_getElem? hx)) hb
end
theorem handD_t {d : PyData} {m : Int} (h : handD d m = true) : ∃ i, d = .int i ∧ 0 ≤ i ∧ i < m := by
  cases d with
  | int i =>
    have h2 : (decide (0 ≤ i) && decide (i < m)) = true := h
    rw [Bool.and_eq_true] at h2
    exact ⟨i, rfl, of_decide_eq_true h2.1, of_decide_eq_true h2.2⟩
  | _ => cases h
theorem handD_i {i m : Int} (h0 : 0 ≤ i) (h1 : i < m) : handD (.int i) m = true := by
  show (decide (0 ≤ i) && decide (i < m)) = true
  rw [decide_eq_true h0, decide_eq_true h1] <;> rfl
def pr_need_hand (K : PySem.W.Frag) (A : Ad) : V → V → Hp → VK → XK → Prop := fun a b H Q E => ∃ m d, a = .int m ∧ Td H b d ∧ (handD d m = true → Q b H) ∧ (handD d m = false → E (.ref A.cNoHand) none H)
abbrev sp_need_hand (K : PySem.W.Frag) (A : Ad) : Sp := sp2 (pr_need_hand K A)
def t_need_hand (K : PySem.W.Frag) (A : Ad) (E : XK) : TS :=
    (tSeq (tIfS (tNot (tB (tCall (sp_is_hand K A) [] E0 (tCons (tVar 1) (tCons (tVar 0) tNil)))))
    (tRaise (tMkN A.cNoHand) E)
    tNext)
    (tRet (tVar 1)))
theorem rd_need_hand {K : PySem.W.Frag} {A : Ad} {a b : V} {H : Hp} {Q : VK} {E : XK} (h : pr_need_hand K A a b H Q E) : t_need_hand K A E { nx := fun _ H' => Q .non H', rt := Q } [some a, some b] H := by
  obtain ⟨m, d, rfl, hd, q1, q2⟩ := h
  unfold t_need_hand
  walk_at "rd"
  refine ⟨d, m, hd, rfl, ?_⟩
  walk_at "rd"
  refine ifnb (fun h => ?_) (fun h => ?_)
  · exact r_raiseN (q2 h)
  · walk_at "rd"
    exact q1 h
end SB
/-! The program: freed and stuck, of good waits, or of what is none. -/
namespace SB
open PySem L2
def pr_freed (K : PySem.W.Frag) (A : Ad) : V → Hp → VK → XK → Prop := fun a H Q E => (∃ ws, Td H a (dWs ws) ∧ OkWs ws ∧ RetL H Q ((rndF ws).map rV)) ∨ ∃ d v, Td H a d ∧ SeqAt.shaped d = true ∧ NeedBad d v ∧ BadE A H E v
abbrev sp_freed (K : PySem.W.Frag) (A : Ad) : Sp := sp1 (pr_freed K A)
def t_freed (K : PySem.W.Frag) (A : Ad) (E : XK) : TS :=
    (tSeq (tDrop (tCall (sp_need K A) [] E (tCons (tVar 0) tNil)))
    (tSeq (tAsg (tOp rRep (tLst (tCons (tC .non) tNil)) (tCB (qLen K) (tCons (tVar 0) tNil))) (gName 1))
    (tSeq (tAsg (tLc (iRng1 (tCons (tCB (qLen K) (tCons (tVar 0) tNil)) tNil)) (gName 2) (tTest (tOp qIsN (tOp (rIxL K) (tVar 0) (tVar 2)) (tC .non))) (tVar 2) [2]) (gName 3))
    (tSeq (tAsg (tC (.int 0)) (gName 4))
    (tSeq (tWhile (tTest (tOp (rNeD K) (tVar 3) (tLst tNil)))
    (tSeq (tFor (iList K (tVar 3)) (gName 2)
    (tAsg (tVar 4) (gSub (tVar 1) (tVar 2) rSetL)))
    (tSeq (tAsg (tOp qAdd (tVar 4) (tC (.int 1))) (gName 4))
    (tSeq (tAsg (tLc (iRng1 (tCons (tCB (qLen K) (tCons (tVar 0) tNil)) tNil)) (gName 2) (tTest (tOp qIsN (tOp (rIxL K) (tVar 1) (tVar 2)) (tC .non))) (tVar 2) [2]) (gName 5))
    (tAsg (tLc (iList K (tVar 5)) (gName 2) (tB (tCall (sp_comes_free K A) [] E0 (tCons (tOp (rIxL K) (tVar 0) (tVar 2)) (tCons (tVar 1) tNil)))) (tVar 2) [2]) (gName 3))))))
    (tRet (tVar 1)))))))
theorem rd_freed {K : PySem.W.Frag} {A : Ad} {a : V} {H : Hp} {Q : VK} {E : XK} (h : pr_freed K A a H Q E) : t_freed K A E { nx := fun _ H' => Q .non H', rt := Q } [some a, none, none, none, none, none] H := by
  rcases h with h | ⟨d, v, hd, hs, nb, hb⟩
  rotate_left
  · unfold t_freed
    walk_at "rd"
    exact need_bad hd hs nb hb
  obtain ⟨ws, hd, ok, q⟩ := h
  have hd0 := hd
  obtain ⟨p, xs, rfl, hp, hx, hl⟩ := Td.inv_ws hd0
  have o1 := ok.pos
  have o2 := ok.most
  have Z : Zs H H H H [] := Zs.start (Same.refl _)
  unfold t_freed
  walk_at "rd"
  refine need_good hd ok (fun H1 s1 => ?_)
  replace Z := Z.ext s1
  walk_at "rd"
  refine r_mk sz1 Z (fun p1 H1 Z1 => ?_)
  walk_at "rd"
  refine r_lenL (SqL.of (Z1.fh _ _ hp)) ?_
  refine r_rep Z1 (Z1.get (i := 0) rfl) (by omega) (by omega) (by rw [List.length_singleton]; omega) (fun p2 H2 Z2 => ?_)
  replace Z2 := Z2.dropAt 1
  rw [Int.toNat_natCast, rep_flat, hl] at Z2
  walk_at "rd"
  refine r_lenL (SqL.of (Z2.fh _ _ hp)) ?_
  rw [hl]
  walk_at "rd"
  refine lc_rng (by omega) Z2 (fun j acc F' => acc = (pick (fun h => fr ws 1 h && !fr ws 0 h) j).map V.int) (fun _ => rfl) rfl ?_ ?_
  · rintro j Dl F' H3 acc hj Z3 s hacc rfl
    dsimp only [wipe]
    have hjn : j < ws.length := by omega
    have wsj : ws[j]? = some ws[j] := List.getElem?_eq_getElem hjn
    obtain ⟨y, hy, hyw⟩ := TdA.ws_get hx wsj
    walk_at "rd"
    refine r_ixL (SqL.of (Z3.fh _ _ (s _ _ hp))) (at_i (by omega) (by rw [Int.toNat_natCast]; exact hy)) ?_
    walk_at "rd"
    refine ifd (fun h2 => ?_) (fun h2 => ?_)
    · walk_at "rd"
      refine cy Z3 s hacc (by omega) ?_
      subst h2
      have e := Td.w_non hyw
      rw [e] at wsj
      rw [pick_succ, if_pos (by show (fr ws (0 + 1) j && !fr ws 0 j) = true; rw [fr_none wsj] <;> rfl), List.map_append] <;> rfl
    · refine cn Z3 s hacc ?_
      obtain ⟨bw, os, ew⟩ : ∃ b os, ws[j] = some (b, os) := by
        cases e : ws[j] with
        | none => rw [e] at hyw; exact absurd (Td.inv_non hyw) h2
        | some z => exact ⟨z.1, z.2, rfl⟩
      rw [ew] at wsj
      have okw := ok.all _ (List.mem_of_getElem? wsj)
      have e : fr ws (0 + 1) j = false := by
        rw [fr_some wsj]
        cases hos : os with
        | nil => exact absurd hos okw.1
        | cons x y => cases bw <;> simp [fr]
      rw [pick_succ, if_neg (by show ¬ (fr ws (0 + 1) j && !fr ws 0 j) = true; rw [e]; simp)]
  rintro Dl F' H3 acc Z3 s rfl
  replace Z3 := Z3.weak (Same.refl _) s
  rw [Int.toNat_natCast] at Z3
  clear s
  walk_at "rd"
  refine r_while (fun m σ' H' => ∃ (t : Nat) (r f : Addr) (x2 x5 : Option V), m = ws.length - t ∧ σ' = [some (.ref p), some (.ref r), x2, some (.ref f), some (.int (t : Int)), x5] ∧ Zs H H H H' [(f, .lst ((newAt ws t).map V.int)), (r, .lst ((rnds ws t).map rV))])
    ws.length ⟨0, p2, Dl, none, none, by omega, rfl, ?_⟩ ?_
  · have e : (rnds ws 0).map rV = List.replicate ws.length V.non := by
      unfold rnds
      rw [List.map_map]
      refine List.ext_getElem? fun j => ?_
      by_cases l : j < ws.length
      · rw [List.getElem?_map, List.getElem?_range l, List.getElem?_replicate_of_lt l] <;> rfl
      · rw [List.getElem?_eq_none (by simp; omega), List.getElem?_eq_none (by simp; omega)]
    rw [e]
    exact Z3
  rintro m σ' H' ⟨t, r, f, x2, x5, rfl, rfl, Z4⟩
  walk_at "rd"
  refine r_mk sz0 Z4 (fun p5 H5 Z5 => ?_)
  refine r_neD (Td.ints_lst (Z5.get (i := 1) rfl)) (.lst (Z5.get (i := 0) rfl) .nil) (shaped_ints _) rfl ?_
  rw [eqv_nil]
  replace Z5 := Z5.drop
  walk_at "rd"
  refine ifnb (fun h2 => ?_) (fun h2 => ?_)
  · have ht : t < ws.length := new_cons fun e => by rw [e] at h2; cases h2
    refine ⟨fun σ2 H2 => ∃ m', m' < ws.length - t ∧ _, fun σ2 H2 n => n, ?_⟩
    have hn0 : ∀ h ∈ newAt ws t, 0 ≤ h ∧ h < (ws.length : Int) := fun h m => ⟨(new_in.mp m).1, (new_in.mp m).2.1⟩
    walk_at "rd"
    refine r_lstI (xs := (newAt ws t).map V.int) (SqL.of (Z5.get (i := 0) rfl)) (fun i σ' H' => ∃ (x2 : Option V), σ' = [some (.ref p), some (.ref r), x2, some (.ref f), some (.int (t : Int)), x5] ∧ Zs H H H H' [(f, .lst ((newAt ws t).map V.int)), (r, .lst ((setAll (rnds ws t) ((newAt ws t).take i) t).map rV))])
      ⟨x2, rfl, Z5⟩ (fun i σ' H' _ ⟨_, _, Z'⟩ => SqL.of (Z'.get (i := 0) rfl)) ?_ ?_
    · rintro i x σ' H' hi ⟨x2, rfl, Z6⟩
      obtain ⟨n, hn, rfl⟩ := of_get_ints hi
      have hn2 := hn0 n (List.mem_of_getElem? hn)
      walk_at "rd"
      refine r_setL (j := n.toNat) 1 Z6 rfl (by omega) (by rw [List.length_map, setAll_len, rnds_len]; omega) (fun H7 Z7 => ?_)
      refine ⟨_, rfl, ?_⟩
      rw [take_snoc hn, setAll_snoc, List.map_set]
      exact Z7
    rintro σ' H' ⟨x2, rfl, Z6⟩
    rw [List.length_map, List.take_length, setAll_new] at Z6
    replace Z6 := Z6.drop
    walk_at "rd"
    refine r_lenL (SqL.of (Z6.fh _ _ hp)) ?_
    rw [hl]
    walk_at "rd"
    refine lc_rng (by omega) Z6 (fun j acc F' => acc = (pick (fun h => !fr ws (t + 1) h) j).map V.int) (fun _ => rfl) rfl ?_ ?_
    · rintro j Dl F' H7 acc hj Z7 s hacc rfl
      dsimp only [wipe]
      walk_at "rd"
      refine r_ixL (SqL.of (Z7.get (i := 1) rfl)) (at_i (by omega) (by rw [Int.toNat_natCast]; exact get_r (rnds_get (by omega)))) ?_
      walk_at "rd"
      refine ifd (fun h2 => ?_) (fun h2 => ?_)
      · walk_at "rd"
        refine cy Z7 s hacc (by omega) ?_
        rw [pick_succ, if_pos (by rw [(rnd_iff _).mp (rV_non.mp h2)] <;> rfl), List.map_append] <;> rfl
      · refine cn Z7 s hacc ?_
        rw [pick_succ, if_neg]
        intro c
        exact h2 (rV_non.mpr ((rnd_iff _).mpr (by simpa using c)))
    rintro Dl F' H7 acc Z7 s rfl
    replace Z7 := Z7.weak (Same.refl _) s
    rw [Int.toNat_natCast] at Z7
    clear s
    walk_at "rd"
    have hpl := pick_len (fun h => !fr ws (t + 1) h) ws.length
    refine lc_lst (xs := (pick (fun h => !fr ws (t + 1) h) ws.length).map V.int) (SqL.of (Z7.get (i := 0) rfl)) Z7 (fun j acc F' => acc = (((pick (fun h => !fr ws (t + 1) h) ws.length).take j).filter (fun h => fr ws (t + 2) h.toNat)).map V.int) rfl (fun F4 H4 Z4 s4 => SqL.of (Z4.get (i := 0) rfl)) ?_ ?_
    · rintro j x Dl2 F4 H8 acc hj Z8 s hacc rfl
      obtain ⟨n, hn, rfl⟩ := of_get_ints hj
      obtain ⟨n0, n1, n2⟩ := pick_in.mp (List.mem_of_getElem? hn)
      have n2' : fr ws (t + 1) n.toNat = false := by simpa using n2
      have hnl : n.toNat < ws.length := by omega
      have wsn : ws[n.toNat]? = some ws[n.toNat] := List.getElem?_eq_getElem hnl
      obtain ⟨y, hy, hyw⟩ := TdA.ws_get hx wsn
      obtain ⟨bw, os, ew⟩ : ∃ b os, ws[n.toNat] = some (b, os) := by
        cases e : ws[n.toNat] with
        | none => rw [e] at wsn; rw [fr_none wsn] at n2'; cases n2'
        | some z => exact ⟨z.1, z.2, rfl⟩
      rw [ew] at wsn hyw
      dsimp only [wipe]
      walk_at "rd"
      refine ⟨rfl, ?_⟩
      walk_at "rd"
      refine r_ixL (SqL.of (Z8.fh _ _ (s _ _ hp))) (at_i n0 hy) ?_
      walk_at "rd"
      refine ⟨bw, os, rnds ws (t + 1), r, hyw.up (s.trans Z8.fh), by rw [rnds_len]; exact ok.all _ (List.mem_of_getElem? wsn), by rw [rnds_len]; omega, rfl, Z8.get (i := 2) rfl, fun H9 s9 => ?_⟩
      rw [comes_eq ok wsn]
      walk_at "rd"
      refine ifb (fun h3 => ?_) (fun h3 => ?_)
      · walk_at "rd"
        refine cy (Z8.ext s9) s hacc (by have := (List.getElem?_eq_some_iff.mp hn).1; omega) ?_
        rw [take_snoc hn, List.filter_append, List.filter_cons, if_pos h3, List.map_append] <;> rfl
      · refine cn (Z8.ext s9) s hacc ?_
        rw [take_snoc hn, List.filter_append, List.filter_cons, if_neg (by rw [h3]; decide), List.filter_nil, List.append_nil]
    · rintro Dl2 F4 H8 acc Z8 s rfl
      replace Z8 := Z8.weak (Same.refl _) s
      rw [List.length_map, List.take_length, pick_pick] at Z8
      walk_at "rd"
      refine ⟨ws.length - (t + 1), by omega, t + 1, r, Dl2, _, _, rfl, rfl, ?_⟩
      have e : newAt ws (t + 1) = pick (fun i => !fr ws (t + 1) i && fr ws (t + 2) i) ws.length := by
        unfold newAt pick
        congr 1
        refine List.filter_congr fun i _ => Bool.and_comm _ _
      rw [e]
      exact Z8.dropAt 1
  · walk_at "rd"
    have e : newAt ws t = [] := by
      cases q : newAt ws t with
      | nil => rfl
      | cons x y => rw [q] at h2; cases h2
    rw [new_nil e] at Z5
    exact q _ _ (Z5.drop)

/-! ### stuck -/
def pr_stuck (K : PySem.W.Frag) (A : Ad) : V → Hp → VK → XK → Prop := fun a H Q E => (∃ ws, Td H a (dWs ws) ∧ OkWs ws ∧ RetL H Q ((stuckOf ws).map V.int)) ∨ ∃ d v, Td H a d ∧ SeqAt.shaped d = true ∧ NeedBad d v ∧ BadE A H E v
abbrev sp_stuck (K : PySem.W.Frag) (A : Ad) : Sp := sp1 (pr_stuck K A)
def t_stuck (K : PySem.W.Frag) (A : Ad) (E : XK) : TS :=
    (tSeq (tAsg (tCall (sp_freed K A) [] E (tCons (tVar 0) tNil)) (gName 1))
    (tRet (tLc (iRng1 (tCons (tCB (qLen K) (tCons (tVar 0) tNil)) tNil)) (gName 2) (tTest (tOp qIsN (tOp (rIxL K) (tVar 1) (tVar 2)) (tC .non))) (tVar 2) [2])))
theorem rd_stuck {K : PySem.W.Frag} {A : Ad} {a : V} {H : Hp} {Q : VK} {E : XK} (h : pr_stuck K A a H Q E) : t_stuck K A E { nx := fun _ H' => Q .non H', rt := Q } [some a, none, none] H := by
  rcases h with h | ⟨d, v, hd, hs, nb, hb⟩
  rotate_left
  · unfold t_stuck
    walk_at "rd"
    exact .inr ⟨d, v, hd, hs, nb, hb⟩
  obtain ⟨ws, hd, ok, q⟩ := h
  have hd0 := hd
  obtain ⟨p, xs, rfl, hp, hx, hl⟩ := Td.inv_ws hd0
  have o1 := ok.pos
  have o2 := ok.most
  unfold t_stuck
  walk_at "rd"
  refine .inl ⟨ws, hd, ok, fun H1 r Z1 => ?_⟩
  walk_at "rd"
  refine r_lenL (SqL.of (Z1.fh _ _ hp)) ?_
  rw [hl]
  walk_at "rd"
  refine lc_rng (by omega) Z1 (fun j acc F' => acc = (pick (fun h => !fr ws ws.length h) j).map V.int) (fun _ => rfl) rfl ?_ ?_
  · rintro j Dl F' H7 acc hj Z7 s hacc rfl
    dsimp only [wipe]
    walk_at "rd"
    refine r_ixL (SqL.of (Z7.get (i := 1) rfl)) (at_i (by omega) (by rw [Int.toNat_natCast]; exact get_r (rnds_get (by omega)))) ?_
    walk_at "rd"
    refine ifd (fun h2 => ?_) (fun h2 => ?_)
    · walk_at "rd"
      refine cy Z7 s hacc (by omega) ?_
      rw [pick_succ, if_pos (by rw [(rnd_iff _).mp (rV_non.mp h2)] <;> rfl), List.map_append] <;> rfl
    · refine cn Z7 s hacc ?_
      rw [pick_succ, if_neg]
      intro c
      exact h2 (rV_non.mpr ((rnd_iff _).mpr (by simpa using c)))
  · rintro Dl F' H7 acc Z7 s rfl
    rw [Int.toNat_natCast] at Z7
    exact q _ _ ((Z7.weak (Same.refl _) s).dropAt 1)
end SB
/-! The program: shows, where it refuses. -/
namespace SB
open PySem L2
def pr_shows (K : PySem.W.Frag) (A : Ad) : V → V → Hp → VK → XK → Prop := fun a b H Q E => (∃ d v, Td H a d ∧ SeqAt.shaped d = true ∧ NeedBad d v ∧ BadE A H E v) ∨
  ∃ (ws : List Wt) (hs : List PyData), Td H a (dWs ws) ∧ OkWs ws ∧ Td H b (.list hs) ∧ (∃ x ∈ hs, handD x (ws.length : Int) = false) ∧ ∀ H', Same H H' → E (.ref A.cNoHand) none H'
abbrev sp_shows (K : PySem.W.Frag) (A : Ad) : Sp := sp2 (pr_shows K A)
def t_shows (K : PySem.W.Frag) (A : Ad) (E : XK) : TS :=
    (tSeq (tDrop (tCall (sp_need K A) [] E (tCons (tVar 0) tNil)))
    (tSeq (tFor (iList K (tVar 1)) (gName 2)
    (tDrop (tCall (sp_need_hand K A) [] E (tCons (tCB (qLen K) (tCons (tVar 0) tNil)) (tCons (tVar 2) tNil)))))
    (tSeq (tFor (iList K (tVar 1)) (gName 2)
    (tSeq (tAsg (tOp (rIxL K) (tVar 0) (tVar 2)) (gName 3))
    (tSeq (tIfS (tTest (tOp qIsN (tVar 3) (tC .non)))
    (tRet (tC (.bl false)))
    tNext)
    (tSeq (tAsg (tLc (iList K (tOp (rIxT K) (tVar 3) (tC (.int 1)))) (gName 4) (tTest (tOp (rIn K false) (tVar 4) (tVar 1))) (tVar 4) [4]) (gName 5))
    (tIfS (tOr (tTest (tOp (rEqD K) (tVar 5) (tLst tNil))) (tAnd (tTest (tOp rEq (tOp (rIxT K) (tVar 3) (tC (.int 0))) (tC (.str "any")))) (tTest (tOp qLt (tCB (qLen K) (tCons (tVar 5) tNil)) (tCB (qLen K) (tCons (tOp (rIxT K) (tVar 3) (tC (.int 1))) tNil))))))
    (tRet (tC (.bl false)))
    tNext)))))
    (tRet (tC (.bl true))))))
theorem rd_shows {K : PySem.W.Frag} {A : Ad} {a b : V} {H : Hp} {Q : VK} {E : XK} (h : pr_shows K A a b H Q E) : t_shows K A E { nx := fun _ H' => Q .non H', rt := Q } [some a, some b, none, none, none, none] H := by
  rcases h with ⟨d, v, hd, hs, nb, hb⟩ | ⟨ws, hs, hd, ok, hb, hbad, q⟩
  · unfold t_shows
    walk_at "rd"
    exact need_bad hd hs nb hb
  have hd0 := hd
  obtain ⟨p, xs, rfl, hp, hx, hl⟩ := Td.inv_ws hd0
  obtain ⟨l, ys, rfl, hl2, hy⟩ := hb.inv_lst
  unfold t_shows
  walk_at "rd"
  refine need_good hd ok (fun H1 s1 => ?_)
  walk_at "rd"
  refine r_lstI (xs := ys) (SqL.of (s1 _ _ hl2)) (fun i σ' H' => (∃ x2, σ' = [some (.ref p), some (.ref l), x2, none, none, none]) ∧ H' = H1 ∧ ∀ j y, j < i → hs[j]? = some y → handD y (ws.length : Int) = true) ⟨⟨none, rfl⟩, rfl, fun j y h => absurd h (Nat.not_lt_zero _)⟩ (fun i σ' H' _ ⟨_, e, _⟩ => by rw [e]; exact SqL.of (s1 _ _ hl2)) ?_ ?_
  · rintro i x σ' H' hi ⟨⟨x2, rfl⟩, rfl, hall⟩
    obtain ⟨di, hdi, hxi⟩ := hy.at hi
    walk_at "rd"
    refine r_lenL (SqL.of (s1 _ _ hp)) ?_
    rw [hl]
    walk_at "rd"
    refine ⟨_, di, rfl, hxi.up s1, fun h => ?_, fun h => ?_⟩
    · refine ⟨⟨_, rfl⟩, rfl, fun j y hj hy2 => ?_⟩
      by_cases e : j = i
      · rw [e, hdi] at hy2
        cases hy2
        exact h
      · exact hall j y (by omega) hy2
    · exact q _ s1
  · rintro σ' H' ⟨⟨x2, rfl⟩, rfl, hall⟩
    obtain ⟨x, hxm, hx0⟩ := hbad
    obtain ⟨j, hj⟩ := List.mem_iff_getElem?.mp hxm
    have := hall j x (by rw [hy.len]; exact (List.getElem?_eq_some_iff.mp hj).1) hj
    rw [hx0] at this
    cases this
end SB
/-! A hand: its attributes as cells of the ledger; what its methods compute, plainly. -/
namespace SB
open PySem L2
structure HS where
  number : Int
  word : Option Bool
  others : List Int
  first : Bool
  free : Bool
  has : Bool
  askers : List Int
  told : List Int
  owed : Int
  waker : Option Int
def kOf : Option Int → V
  | none => .non
  | some i => .int i
def wOf : Option Bool → V
  | none => .non
  | some b => .str (wd b)
def hf (s : HS) (o a t : Addr) : List (Str × V) := [("number", .int s.number), ("word", wOf s.word), ("others", .ref o), ("is_asker", .bl s.first), ("is_freed", .bl s.free), ("has_asked", .bl s.has), ("askers", .ref a), ("told_so", .ref t), ("owed", .int s.owed), ("waker", kOf s.waker)]
/-- where a hand lies -/
structure HR where
  x : Addr
  dx : Addr
  o : Addr
  a : Addr
  t : Addr
def hI (A : Ad) (r : HR) (s : HS) : HO := .ins A.cHand r.dx (hf s r.o r.a r.t)
abbrev hL (A : Ad) (r : HR) (s : HS) (L : List (Addr × HO)) : List (Addr × HO) := (r.x, hI A r s) :: (r.a, .lst (s.askers.map V.int)) :: (r.t, .lst (s.told.map V.int)) :: L
structure HandOk (K : PySem.W.Frag) (A : Ad) : Prop where
  cl : Cls K A.cHand
  number : NoAttr K A.cHand "number"
  word : NoAttr K A.cHand "word"
  others : NoAttr K A.cHand "others"
  first : NoAttr K A.cHand "is_asker"
  free : NoAttr K A.cHand "is_freed"
  has : NoAttr K A.cHand "has_asked"
  askers : NoAttr K A.cHand "askers"
  told : NoAttr K A.cHand "told_so"
  owed : NoAttr K A.cHand "owed"
  waker : NoAttr K A.cHand "waker"
section
variable {K : PySem.W.Frag} {A : Ad} {σ : St} {F0 H0 F H : Hp} {L : List (Addr × HO)} {Q : VK} {r : HR} {s : HS} {P : St → Hp → Prop} {n : Int} {b : Bool}
theorem fl_number (O : HandOk K A) (e : H r.x = some (hI A r s)) (k : Q (.int s.number) H) : FldQ K "number" Q (.ref r.x) H := r_fldQ O.cl O.number e rfl k
theorem fl_word (O : HandOk K A) (e : H r.x = some (hI A r s)) (k : Q (wOf s.word) H) : FldQ K "word" Q (.ref r.x) H := r_fldQ O.cl O.word e rfl k
theorem fl_others (O : HandOk K A) (e : H r.x = some (hI A r s)) (k : Q (.ref r.o) H) : FldQ K "others" Q (.ref r.x) H := r_fldQ O.cl O.others e rfl k
theorem fl_first (O : HandOk K A) (e : H r.x = some (hI A r s)) (k : Q (.bl s.first) H) : FldQ K "is_asker" Q (.ref r.x) H := r_fldQ O.cl O.first e rfl k
theorem fl_free (O : HandOk K A) (e : H r.x = some (hI A r s)) (k : Q (.bl s.free) H) : FldQ K "is_freed" Q (.ref r.x) H := r_fldQ O.cl O.free e rfl k
theorem fl_has (O : HandOk K A) (e : H r.x = some (hI A r s)) (k : Q (.bl s.has) H) : FldQ K "has_asked" Q (.ref r.x) H := r_fldQ O.cl O.has e rfl k
theorem fl_askers (O : HandOk K A) (e : H r.x = some (hI A r s)) (k : Q (.ref r.a) H) : FldQ K "askers" Q (.ref r.x) H := r_fldQ O.cl O.askers e rfl k
theorem fl_told (O : HandOk K A) (e : H r.x = some (hI A r s)) (k : Q (.ref r.t) H) : FldQ K "told_so" Q (.ref r.x) H := r_fldQ O.cl O.told e rfl k
theorem fl_owed (O : HandOk K A) (e : H r.x = some (hI A r s)) (k : Q (.int s.owed) H) : FldQ K "owed" Q (.ref r.x) H := r_fldQ O.cl O.owed e rfl k
theorem fl_waker (O : HandOk K A) (e : H r.x = some (hI A r s)) (k : Q (kOf s.waker) H) : FldQ K "waker" Q (.ref r.x) H := r_fldQ O.cl O.waker e rfl k
theorem hf_lt {o a t : Addr} : (hf s o a t).length < 1000 := by show 10 < 1000; decide
theorem sf_owed (O : HandOk K A) (Z : Zs F0 H0 F H (hL A r s L)) (k : ∀ H', Zs F0 H0 F H' (hL A r { s with owed := n } L) → P σ H') : SFldQ K "owed" (.int n) P σ (.ref r.x) H := r_sfldQ O.cl O.owed 0 Z rfl hf_lt k
theorem sf_has (O : HandOk K A) (Z : Zs F0 H0 F H (hL A r s L)) (k : ∀ H', Zs F0 H0 F H' (hL A r { s with has := b } L) → P σ H') : SFldQ K "has_asked" (.bl b) P σ (.ref r.x) H := r_sfldQ O.cl O.has 0 Z rfl hf_lt k
theorem sf_free (O : HandOk K A) (Z : Zs F0 H0 F H (hL A r s L)) (k : ∀ H', Zs F0 H0 F H' (hL A r { s with free := b } L) → P σ H') : SFldQ K "is_freed" (.bl b) P σ (.ref r.x) H := r_sfldQ O.cl O.free 0 Z rfl hf_lt k
theorem sf_waker (O : HandOk K A) (Z : Zs F0 H0 F H (hL A r s L)) (k : ∀ H', Zs F0 H0 F H' (hL A r { s with waker := some n } L) → P σ H') : SFldQ K "waker" (.int n) P σ (.ref r.x) H := r_sfldQ O.cl O.waker 0 Z rfl hf_lt k
theorem sf_wakerN (O : HandOk K A) (Z : Zs F0 H0 F H (hL A r s L)) (k : ∀ H', Zs F0 H0 F H' (hL A r { s with waker := none } L) → P σ H') : SFldQ K "waker" .non P σ (.ref r.x) H := r_sfldQ O.cl O.waker 0 Z rfl hf_lt k
end
/-! ### plainly -/
def posted (s : HS) (w : Str) (rs : List Int) : HS × List Lt := ({ s with owed := s.owed + (rs.length : Int) }, rs.map fun o => (w, s.number, o))
def asking (s : HS) : HS × List Lt := posted { s with has := true } "ask" s.others
def begin (s : HS) : HS × List Lt := if s.free = true then (s, []) else asking s
def askedBy (s : HS) (j : Int) : HS × List Lt :=
  if s.free = true then posted s "freed" [j] else
  if s.has = true then ({ s with askers := s.askers ++ [j] }, []) else asking { s with askers := s.askers ++ [j] }
def toldBy (s : HS) (j : Int) : HS × List Lt :=
  if (s.free || (decide (s.word = some false) && decide (s.told.length + 1 < s.others.length))) = true then ({ s with told := s.told ++ [j] }, [])
  else posted { s with told := s.told ++ [j], free := true } "freed" s.askers
/-- ahead of what the letter says: whose turn it is to wake -/
def woken (s : HS) (j : Int) : HS × List Lt := if (s.first || s.waker.isSome) = true then (s, [("back", s.number, j)]) else ({ s with waker := some j }, [])
/-- behind it: is nothing owed any more? -/
def settle (s : HS) : HS × List Lt :=
  match s.waker with
  | some k => if s.owed = 0 then ({ s with waker := none }, [("back", s.number, k)]) else (s, [])
  | none => (s, [])
def come1 (s : HS) (w : Str) (j : Int) : HS × List Lt :=
  if w = "back" then ({ s with owed := s.owed - 1 }, [])
  else
    let p := woken s j
    let q := if w = "ask" then askedBy p.1 j else toldBy p.1 j
    (q.1, p.2 ++ q.2)
def come (s : HS) (w : Str) (j : Int) : HS × List Lt :=
  let p := come1 s w j
  let q := settle p.1
  (q.1, p.2 ++ q.2)
/-- how a method of a hand ends -/
def PostH (A : Ad) (F0 H0 F : Hp) (L : List (Addr × HO)) (r : HR) (p : HS × List Lt) (Q : VK) : Prop := ∀ F' H' l vs, Zs F0 H0 F' H' ((l, .lst vs) :: hL A r p.1 L) → Same F F' → TdA F' vs (dLts p.2) → Q (.ref l) H'
end SB
/-! A net: its cells and its hands' cells. -/
namespace SB
open PySem L2
theorem TdA.erase {F : Hp} : ∀ {vs : List V} {ds : List PyData} (i : Nat), TdA F vs ds → TdA F (vs.eraseIdx i) (ds.eraseIdx i)
  | _, _, _, .nil => .nil
  | _, _, 0, .cons _ h2 => h2
  | _, _, i + 1, .cons h1 h2 => .cons h1 (TdA.erase i h2)
theorem map_eraseIdx {α β : Type} (f : α → β) : ∀ (l : List α) (i : Nat), (l.eraseIdx i).map f = (l.map f).eraseIdx i
  | [], _ => rfl
  | _ :: _, 0 => rfl
  | a :: l, i + 1 => by rw [List.eraseIdx_cons_succ, List.map_cons, map_eraseIdx f l i, List.map_cons, List.eraseIdx_cons_succ]
structure NS where
  asker : Int
  hands : List HS
  row : List Lt
  sent : Int
structure NR where
  x : Addr
  dx : Addr
  hl : Addr
  rl : Addr
  hr : List HR
def nf (S : NS) (hl rl : Addr) : List (Str × V) := [("asker", .int S.asker), ("hands", .ref hl), ("row", .ref rl), ("posted_so_far", .int S.sent)]
def nI (A : Ad) (N : NR) (S : NS) : HO := .ins A.cNet N.dx (nf S N.hl N.rl)
def hsL (A : Ad) : List HR → List HS → List (Addr × HO) → List (Addr × HO)
  | r :: rs, s :: ss, L => hL A r s (hsL A rs ss L)
  | [], _, L => L
  | _ :: _, [], L => L
abbrev nL (A : Ad) (N : NR) (S : NS) (rv : List V) (L : List (Addr × HO)) : List (Addr × HO) := (N.x, nI A N S) :: (N.rl, .lst rv) :: hsL A N.hr S.hands L
theorem hL_perm {A : Ad} {r : HR} {s : HS} {L M : List (Addr × HO)} (h : L.Perm M) : (hL A r s L).Perm (hL A r s M) := List.Perm.cons _ (List.Perm.cons _ (List.Perm.cons _ h))
theorem hL_swap {A : Ad} {r r' : HR} {s s' : HS} {L : List (Addr × HO)} : (hL A r s (hL A r' s' L)).Perm (hL A r' s' (hL A r s L)) := List.perm_append_comm_assoc (hL A r s []) (hL A r' s' []) L
theorem hsL_out {A : Ad} {L : List (Addr × HO)} : ∀ {rs : List HR} {ss : List HS} {i : Nat} {r : HR} {s : HS}, rs[i]? = some r → ss[i]? = some s → (hsL A rs ss L).Perm (hL A r s (hsL A (rs.eraseIdx i) (ss.eraseIdx i) L))
  | [], _, _, _, _, h, _ => by simp at h
  | _ :: _, [], _, _, _, _, h => by simp at h
  | r' :: rs, s' :: ss, 0, r, s, h1, h2 => by
    simp at h1 h2
    subst h1 h2
    exact List.Perm.refl _
  | r' :: rs, s' :: ss, i + 1, r, s, h1, h2 => by
    have ih := hsL_out (A := A) (L := L) (rs := rs) (ss := ss) (i := i) (by simpa using h1) (by simpa using h2)
    show (hL A r' s' (hsL A rs ss L)).Perm (hL A r s (hL A r' s' (hsL A (rs.eraseIdx i) (ss.eraseIdx i) L)))
    exact (hL_perm ih).trans hL_swap
theorem hsL_in {A : Ad} {L : List (Addr × HO)} {rs : List HR} {ss : List HS} {i : Nat} {r : HR} {s s' : HS} (h1 : rs[i]? = some r) (h2 : ss[i]? = some s) : (hL A r s' (hsL A (rs.eraseIdx i) (ss.eraseIdx i) L)).Perm (hsL A rs (ss.set i s') L) := by
  have hl := (List.getElem?_eq_some_iff.mp h2).1
  have h := hsL_out (A := A) (L := L) (rs := rs) (ss := ss.set i s') (i := i) (r := r) (s := s') h1 (by rw [List.getElem?_set_self hl])
  rw [List.eraseIdx_set_eq] at h
  exact h.symm
theorem hsL_tail {A : Ad} {L M : List (Addr × HO)} (h : L.Perm M) : ∀ {rs : List HR} {ss : List HS}, (hsL A rs ss L).Perm (hsL A rs ss M)
  | [], _ => h
  | _ :: _, [] => h
  | _ :: _, _ :: _ => hL_perm (hsL_tail h)
theorem hsL_mid {A : Ad} {L : List (Addr × HO)} {q : Addr × HO} : ∀ {rs : List HR} {ss : List HS}, (hsL A rs ss (q :: L)).Perm (q :: hsL A rs ss L)
  | [], _ => List.Perm.refl _
  | _ :: _, [] => List.Perm.refl _
  | r :: rs, s :: ss => (hL_perm (hsL_mid (rs := rs) (ss := ss))).trans (List.perm_middle (a := q) (l₁ := hL A r s []) (l₂ := hsL A rs ss L))
theorem hsL_snoc {A : Ad} {L : List (Addr × HO)} {r : HR} {s : HS} : ∀ {rs : List HR} {ss : List HS}, rs.length = ss.length → hsL A (rs ++ [r]) (ss ++ [s]) L = hsL A rs ss (hL A r s L)
  | [], [], _ => rfl
  | [], _ :: _, h => by simp at h
  | _ :: _, [], h => by simp at h
  | r' :: rs, s' :: ss, h => by
    show hL A r' s' (hsL A (rs ++ [r]) (ss ++ [s]) L) = hL A r' s' (hsL A rs ss (hL A r s L))
    rw [hsL_snoc (by simpa using h)]
theorem hsL_app {A : Ad} {L : List (Addr × HO)} : ∀ {rs : List HR} {ss : List HS}, hsL A rs ss L = hsL A rs ss [] ++ L
  | [], _ => rfl
  | _ :: _, [] => rfl
  | r :: rs, s :: ss => by
    show hL A r s (hsL A rs ss L) = hL A r s (hsL A rs ss []) ++ L
    rw [hsL_app (rs := rs) (ss := ss)] <;> rfl
theorem nL_app {A : Ad} {N : NR} {S : NS} {rv : List V} {L : List (Addr × HO)} : nL A N S rv L = nL A N S rv [] ++ L := by
  show (N.x, _) :: (N.rl, _) :: hsL A N.hr S.hands L = (N.x, _) :: (N.rl, _) :: (hsL A N.hr S.hands [] ++ L)
  rw [hsL_app]
/-- what of a net never changes -/
structure NFz (F : Hp) (N : NR) (S : NS) : Prop where
  hl : F N.hl = some (.lst (N.hr.map fun r => .ref r.x))
  len : N.hr.length = S.hands.length
  oth : ∀ (i : Nat) (r : HR) (s : HS), N.hr[i]? = some r → S.hands[i]? = some s → F r.o = some (.lst (s.others.map V.int))
theorem NFz.up {F F' : Hp} {N : NR} {S : NS} (h : NFz F N S) (sm : Same F F') : NFz F' N S := ⟨sm _ _ h.hl, h.len, fun i r s a b => sm _ _ (h.oth i r s a b)⟩
/-- a net as it stands in the heap -/
structure NetH (A : Ad) (H : Hp) (N : NR) (S : NS) : Prop where
  x : H N.x = some (nI A N S)
  row : ∃ rv, H N.rl = some (.lst rv) ∧ TdA H rv (dLts S.row)
  hl : H N.hl = some (.lst (N.hr.map fun r => .ref r.x))
  len : N.hr.length = S.hands.length
  hd : ∀ (i : Nat) (r : HR) (s : HS), N.hr[i]? = some r → S.hands[i]? = some s → H r.x = some (hI A r s)
theorem NetH.of {A : Ad} {F0 H0 F H : Hp} {L : List (Addr × HO)} {N : NR} {S : NS} {rv : List V} (Z : Zs F0 H0 F H (nL A N S rv L)) (f : NFz F N S) (h : TdA F rv (dLts S.row)) : NetH A H N S where
  x := Z.get (i := 0) rfl
  row := ⟨rv, Z.get (i := 1) rfl, h.up Z.fh⟩
  hl := Z.fix f.hl
  len := f.len
  hd := fun i r s h1 h2 => ((Z.drop.drop).perm (hsL_out h1 h2)).get (i := 0) rfl
theorem NetH.up {A : Ad} {H H' : Hp} {N : NR} {S : NS} (h : NetH A H N S) (sm : Same H H') : NetH A H' N S where
  x := sm _ _ h.x
  row := let ⟨rv, a, b⟩ := h.row; ⟨rv, sm _ _ a, b.up sm⟩
  hl := sm _ _ h.hl
  len := h.len
  hd := fun i r s h1 h2 => sm _ _ (h.hd i r s h1 h2)
structure NetOk (K : PySem.W.Frag) (A : Ad) : Prop where
  cl : Cls K A.cNet
  asker : NoAttr K A.cNet "asker"
  hands : NoAttr K A.cNet "hands"
  row : NoAttr K A.cNet "row"
  sent : NoAttr K A.cNet "posted_so_far"
section
variable {K : PySem.W.Frag} {A : Ad} {σ : St} {F0 H0 F H : Hp} {L : List (Addr × HO)} {Q : VK} {N : NR} {S : NS} {P : St → Hp → Prop}
theorem fn_asker (O : NetOk K A) (e : H N.x = some (nI A N S)) (k : Q (.int S.asker) H) : FldQ K "asker" Q (.ref N.x) H := r_fldQ O.cl O.asker e rfl k
theorem fn_hands (O : NetOk K A) (e : H N.x = some (nI A N S)) (k : Q (.ref N.hl) H) : FldQ K "hands" Q (.ref N.x) H := r_fldQ O.cl O.hands e rfl k
theorem fn_row (O : NetOk K A) (e : H N.x = some (nI A N S)) (k : Q (.ref N.rl) H) : FldQ K "row" Q (.ref N.x) H := r_fldQ O.cl O.row e rfl k
theorem fn_sent (O : NetOk K A) (e : H N.x = some (nI A N S)) (k : Q (.int S.sent) H) : FldQ K "posted_so_far" Q (.ref N.x) H := r_fldQ O.cl O.sent e rfl k
theorem NetH.ix (h : NetH A H N S) {i : Nat} {r : HR} (hi : N.hr[i]? = some r) : (N.hr.map fun r => V.ref r.x)[i]? = some (.ref r.x) := by rw [List.getElem?_map, hi] <;> rfl
theorem NetH.at (h : NetH A H N S) {i : Nat} {s : HS} (hi : S.hands[i]? = some s) : ∃ r, N.hr[i]? = some r ∧ H r.x = some (hI A r s) := by
  have hl := (List.getElem?_eq_some_iff.mp hi).1
  have hl2 : i < N.hr.length := by rw [h.len]; exact hl
  exact ⟨N.hr[i], List.getElem?_eq_getElem hl2, h.hd i _ s (List.getElem?_eq_getElem hl2) hi⟩
end
end SB
/-! The words of letters, and letters as data. -/
namespace SB
open PySem L2
def Wd3 (w : Str) : Prop := w = "ask" ∨ w = "freed" ∨ w = "back"
theorem Wd3.ok {w : Str} (h : Wd3 w) : PyData.canLay0 (.str w) = true := by
  rcases h with rfl | rfl | rfl <;> decide +kernel
theorem lay_mem {α : Type} {f : α → PyData} : ∀ {l : List α}, (∀ a ∈ l, (f a).canLay0 = true) → PyData.canLayAll0 (l.map f) = true
  | [], _ => rfl
  | a :: l, h => by
    show ((f a).canLay0 && PyData.canLayAll0 (l.map f)) = true
    rw [h a List.mem_cons_self, lay_mem fun b hb => h b (List.mem_cons_of_mem _ hb)] <;> rfl
theorem shaped_mem {α : Type} {f : α → PyData} {n : Nat} (hn : n ≤ 60) {l : List α} (h : ∀ a ∈ l, (f a).canLay0 = true) (h2 : ∀ a, (f a).depth ≤ n) : SeqAt.shaped (.list (l.map f)) = true :=
  shaped_of (lay_mem h) (by have := dep_map h2 l; show PyData.depthAll (l.map f) + 1 ≤ 64; omega)
theorem dLt_lay {l : Lt} (h : Wd3 l.1) : (dLt l).canLay0 = true := by
  show (PyData.canLay0 (.str l.1) && (true && (true && true))) = true
  rw [h.ok] <;> rfl
theorem dLt_dep (l : Lt) : (dLt l).depth ≤ 1 := Nat.le_refl 1
theorem dLt_shaped {l : Lt} (h : Wd3 l.1) : SeqAt.shaped (dLt l) = true := shaped_of (dLt_lay h) (by have := dLt_dep l; omega)
theorem dLts_shaped {ls : List Lt} (h : ∀ l ∈ ls, Wd3 l.1) : SeqAt.shaped (.list (dLts ls)) = true := shaped_mem (n := 1) (by decide) (fun l hl => dLt_lay (h l hl)) dLt_dep
theorem posted_w {s : HS} {w : Str} {rs : List Int} (h : Wd3 w) : ∀ l ∈ (posted s w rs).2, Wd3 l.1 := by
  intro l hl
  unfold posted at hl
  obtain ⟨o, _, rfl⟩ := List.mem_map.mp hl
  exact h
theorem askedBy_w {s : HS} {j : Int} : ∀ l ∈ (askedBy s j).2, Wd3 l.1 := by
  intro l hl
  unfold askedBy at hl
  split at hl
  · exact posted_w (.inr (.inl rfl)) l hl
  · split at hl
    · cases hl
    · exact posted_w (.inl rfl) l hl
theorem toldBy_w {s : HS} {j : Int} : ∀ l ∈ (toldBy s j).2, Wd3 l.1 := by
  intro l hl
  unfold toldBy at hl
  split at hl
  · cases hl
  · exact posted_w (.inr (.inl rfl)) l hl
theorem begin_w {s : HS} : ∀ l ∈ (begin s).2, Wd3 l.1 := by
  intro l hl
  unfold begin at hl
  split at hl
  · cases hl
  · exact posted_w (.inl rfl) l hl
theorem woken_w {s : HS} {j : Int} : ∀ l ∈ (woken s j).2, Wd3 l.1 := by
  intro l hl
  unfold woken at hl
  split at hl
  · rw [List.mem_singleton.mp hl]
    exact .inr (.inr rfl)
  · cases hl
theorem settle_w {s : HS} : ∀ l ∈ (settle s).2, Wd3 l.1 := by
  intro l hl
  unfold settle at hl
  split at hl
  · split at hl
    · rw [List.mem_singleton.mp hl]
      exact .inr (.inr rfl)
    · cases hl
  · cases hl
theorem come1_w {s : HS} {w : Str} {j : Int} : ∀ l ∈ (come1 s w j).2, Wd3 l.1 := by
  intro l hl
  unfold come1 at hl
  split at hl
  · cases hl
  · simp only [List.mem_append] at hl
    rcases hl with hl | hl
    · exact woken_w l hl
    · split at hl
      · exact askedBy_w l hl
      · exact toldBy_w l hl
theorem come_w {s : HS} {w : Str} {j : Int} : ∀ l ∈ (come s w j).2, Wd3 l.1 := by
  intro l hl
  unfold come at hl
  simp only [List.mem_append] at hl
  rcases hl with hl | hl
  · exact come1_w l hl
  · exact settle_w l hl
/-- what no letter changes -/
structure Keep (s t : HS) : Prop where
  number : t.number = s.number
  word : t.word = s.word
  others : t.others = s.others
  first : t.first = s.first
theorem Keep.refl (s : HS) : Keep s s := ⟨rfl, rfl, rfl, rfl⟩
theorem Keep.trans {s t u : HS} (h : Keep s t) (k : Keep t u) : Keep s u := ⟨k.number.trans h.number, k.word.trans h.word, k.others.trans h.others, k.first.trans h.first⟩
theorem keep_begin {s : HS} : Keep s (begin s).1 := by
  unfold begin
  split <;> exact ⟨rfl, rfl, rfl, rfl⟩
theorem keep_askedBy {s : HS} {j : Int} : Keep s (askedBy s j).1 := by
  unfold askedBy
  split
  · exact ⟨rfl, rfl, rfl, rfl⟩
  · split <;> exact ⟨rfl, rfl, rfl, rfl⟩
theorem keep_toldBy {s : HS} {j : Int} : Keep s (toldBy s j).1 := by
  unfold toldBy
  split <;> exact ⟨rfl, rfl, rfl, rfl⟩
theorem keep_woken {s : HS} {j : Int} : Keep s (woken s j).1 := by
  unfold woken
  split <;> exact ⟨rfl, rfl, rfl, rfl⟩
theorem keep_settle {s : HS} : Keep s (settle s).1 := by
  unfold settle
  split
  · split <;> exact ⟨rfl, rfl, rfl, rfl⟩
  · exact Keep.refl _
theorem keep_come1 {s : HS} {w : Str} {j : Int} : Keep s (come1 s w j).1 := by
  unfold come1
  split
  · exact ⟨rfl, rfl, rfl, rfl⟩
  · simp only []
    split
    · exact keep_woken.trans keep_askedBy
    · exact keep_woken.trans keep_toldBy
theorem keep_come {s : HS} {w : Str} {j : Int} : Keep s (come s w j).1 := by
  unfold come
  exact keep_come1.trans keep_settle
end SB
/-! A net's methods that read. -/
namespace SB
open PySem L2
def pr_Net_letters (K : PySem.W.Frag) (A : Ad) : V → Hp → VK → XK → Prop := fun x H Q _ => ∃ (N : NR) (S : NS), x = .ref N.x ∧ NetH A H N S ∧ ∀ H' p vs, Zs H H H H' [(p, .lst vs)] → TdA H vs (dLts S.row) → H N.rl = some (.lst vs) → Q (.ref p) H'
abbrev sp_Net_letters (K : PySem.W.Frag) (A : Ad) : Sp := sp1 (pr_Net_letters K A)
def t_Net_letters (K : PySem.W.Frag) (A : Ad) : TS :=
    (tRet (tCB (qListOf K) (tCons (tFld K (tVar 0) "row") tNil)))
theorem rd_Net_letters {K : PySem.W.Frag} {A : Ad} (O : NetOk K A) {x : V} {H : Hp} {Q : VK} {E : XK} (h : pr_Net_letters K A x H Q E) : t_Net_letters K A { nx := fun _ H' => Q .non H', rt := Q } [some x] H := by
  obtain ⟨N, S, rfl, n, k⟩ := h
  obtain ⟨rv, h1, h2⟩ := n.row
  unfold t_Net_letters
  walk_at "rd"
  refine fn_row O n.x ?_
  walk_at "rd"
  refine r_listL (SqL.of h1) (Zs.start (Same.refl H)) ?_
  intro l H' Z
  exact k H' l rv Z h2 h1
def pr_Net_sent (K : PySem.W.Frag) (A : Ad) : V → Hp → VK → XK → Prop := fun x H Q _ => ∃ (N : NR) (S : NS), x = .ref N.x ∧ NetH A H N S ∧ Q (.int S.sent) H
abbrev sp_Net_sent (K : PySem.W.Frag) (A : Ad) : Sp := sp1 (pr_Net_sent K A)
def t_Net_sent (K : PySem.W.Frag) (A : Ad) : TS :=
    (tRet (tFld K (tVar 0) "posted_so_far"))
theorem rd_Net_sent {K : PySem.W.Frag} {A : Ad} (O : NetOk K A) {x : V} {H : Hp} {Q : VK} {E : XK} (h : pr_Net_sent K A x H Q E) : t_Net_sent K A { nx := fun _ H' => Q .non H', rt := Q } [some x] H := by
  obtain ⟨N, S, rfl, n, k⟩ := h
  unfold t_Net_sent
  walk_at "rd"
  exact fn_sent O n.x k
/-- what the bell tells -/
def bellV (s : HS) : V := if 0 < s.owed then .non else .bl (!s.free)
def pr_Net_rung (K : PySem.W.Frag) (A : Ad) : V → Hp → VK → XK → Prop := fun x H Q _ => ∃ (N : NR) (S : NS) (i : Nat) (s : HS), x = .ref N.x ∧ NetH A H N S ∧ S.asker = (i : Int) ∧ S.hands[i]? = some s ∧ Q (bellV s) H
abbrev sp_Net_rung (K : PySem.W.Frag) (A : Ad) : Sp := sp1 (pr_Net_rung K A)
def t_Net_rung (K : PySem.W.Frag) (A : Ad) : TS :=
    (tSeq (tIfS (tTest (tOp qGt (tFld K (tOp (rIxL K) (tFld K (tVar 0) "hands") (tFld K (tVar 0) "asker")) "owed") (tC (.int 0))))
    (tRet (tC .non))
    tNext)
    (tRet (tNotV (tFld K (tOp (rIxL K) (tFld K (tVar 0) "hands") (tFld K (tVar 0) "asker")) "is_freed"))))
theorem rd_Net_rung {K : PySem.W.Frag} {A : Ad} (O : NetOk K A) (O2 : HandOk K A) {x : V} {H : Hp} {Q : VK} {E : XK} (h : pr_Net_rung K A x H Q E) : t_Net_rung K A { nx := fun _ H' => Q .non H', rt := Q } [some x] H := by
  obtain ⟨N, S, i, s, rfl, n, ha, hi, k⟩ := h
  obtain ⟨r, h1, h2⟩ := n.at hi
  unfold bellV at k
  unfold t_Net_rung
  walk_at "rd"
  refine fn_hands O n.x ?_
  walk_at "rd"
  refine fn_asker O n.x ?_
  rw [ha]
  refine r_ixL (SqL.of n.hl) (atI_nat (n.ix h1)) ?_
  refine fl_owed O2 h2 ?_
  walk_at "rd"
  refine ifd (fun e => ?_) (fun e => ?_)
  · walk_at "rd"
    rw [if_pos e] at k
    exact k
  · walk_at "rd"
    refine fn_hands O n.x ?_
    walk_at "rd"
    refine fn_asker O n.x ?_
    rw [ha]
    refine r_ixL (SqL.of n.hl) (atI_nat (n.ix h1)) ?_
    refine fl_free O2 h2 ?_
    walk_at "rd"
    rw [if_neg e] at k
    exact k
/-- who is shown -/
def shownTo (hs : List HS) (i : Nat) : List Int := ((List.range i).filter fun k => (hs[k]?).any fun s => s.has && !s.free).map fun (k : Nat) => (k : Int)
theorem shown_succ {hs : List HS} {i : Nat} {s : HS} (h : hs[i]? = some s) : shownTo hs (i + 1) = if (s.has && !s.free) = true then shownTo hs i ++ [(i : Int)] else shownTo hs i := by
  unfold shownTo
  rw [List.range_succ, List.filter_append, List.filter_cons, h]
  show List.map _ (_ ++ if (s.has && !s.free) = true then _ else _) = _
  split
  · rw [List.map_append] <;> rfl
  · rw [List.filter_nil, List.append_nil]
def pr_Net_shown (K : PySem.W.Frag) (A : Ad) : V → Hp → VK → XK → Prop := fun x H Q _ => ∃ (N : NR) (S : NS), x = .ref N.x ∧ NetH A H N S ∧ S.hands.length ≤ 1000 ∧ ∀ H' p, Zs H H H H' [(p, .lst ((shownTo S.hands S.hands.length).map V.int))] → Q (.ref p) H'
abbrev sp_Net_shown (K : PySem.W.Frag) (A : Ad) : Sp := sp1 (pr_Net_shown K A)
def t_Net_shown (K : PySem.W.Frag) (A : Ad) : TS :=
    (tRet (tLc (iEnum K (tCons (tFld K (tVar 0) "hands") tNil)) (gTup K 2 (gCons (gName 1) (gCons (gName 2) gNil))) (tAnd (tB (tFld K (tVar 2) "has_asked")) (tNot (tB (tFld K (tVar 2) "is_freed")))) (tVar 1) [1, 2]))
theorem rd_Net_shown {K : PySem.W.Frag} {A : Ad} (O : NetOk K A) (O2 : HandOk K A) {x : V} {H : Hp} {Q : VK} {E : XK} (h : pr_Net_shown K A x H Q E) : t_Net_shown K A { nx := fun _ H' => Q .non H', rt := Q } [some x, none, none] H := by
  obtain ⟨N, S, rfl, n, hn, k⟩ := h
  have hlen : (N.hr.map fun r => V.ref r.x).length = S.hands.length := by rw [List.length_map, n.len]
  unfold t_Net_shown
  walk_at "rd"
  refine fn_hands O n.x ?_
  walk_at "rd"
  refine lc_enm (SqL.of n.hl) (Zs.start (Same.refl H)) (fun i acc F' => acc = (shownTo S.hands i).map V.int) rfl (fun F' H' Z' sm => SqL.of (Z'.hh _ _ n.hl)) ?_ ?_
  · rintro i y T Dl F' H' acc hy Z' sm hacc rfl
    have hlt := (List.getElem?_eq_some_iff.mp hy).1
    rw [hlen] at hlt
    have hlt2 : i < N.hr.length := by rw [n.len]; exact hlt
    have es : S.hands[i]? = some S.hands[i] := List.getElem?_eq_getElem hlt
    have er : N.hr[i]? = some N.hr[i] := List.getElem?_eq_getElem hlt2
    rw [n.ix er] at hy
    cases hy
    refine r_gt2 (SqT.of (Z'.get (i := 0) rfl)) ?_
    replace Z' := Z'.drop
    have eh := Z'.hh _ _ (n.hd i _ _ er es)
    dsimp only [wipe, List.set_cons_succ, List.set_cons_zero, List.foldl_cons, List.foldl_nil]
    refine ⟨rfl, ?_⟩
    walk_at "rd"
    refine fl_has O2 eh ?_
    walk_at "rd"
    refine ifb (fun e => ?_) (fun e => ?_)
    · walk_at "rd"
      refine fl_free O2 eh ?_
      walk_at "rd"
      refine ifnb (fun e2 => ?_) (fun e2 => ?_)
      · walk_at "rd"
        refine cy Z' sm hacc (by omega) ?_
        rw [shown_succ es, if_pos (by rw [show S.hands[i].has = true from e, show S.hands[i].free = false from e2]; rfl), List.map_append] <;> rfl
      · refine cn Z' sm hacc ?_
        rw [shown_succ es, if_neg (by rw [show S.hands[i].has = true from e, show S.hands[i].free = true from e2]; decide)]
    · refine ifF rfl ?_
      refine cn Z' sm hacc ?_
      rw [shown_succ es, if_neg (by rw [show S.hands[i].has = false from e, Bool.false_and]; decide)]
  · rintro Dl F' H' acc Z' sm rfl
    rw [hlen] at Z'
    exact k H' Dl (Z'.weak (Same.refl _) sm)
end SB
/-! A net's methods that read by a hand, of any data. -/
namespace SB
open PySem L2
def pr_Net_hand (K : PySem.W.Frag) (A : Ad) : V → V → Hp → VK → XK → Prop := fun x y H Q E => ∃ (N : NR) (S : NS) (d : PyData), x = .ref N.x ∧ NetH A H N S ∧ Td H y d ∧ (∀ (i : Nat) (r : HR), d = .int (i : Int) → N.hr[i]? = some r → Q (.ref r.x) H) ∧ (handD d (S.hands.length : Int) = false → E (.ref A.cNoHand) none H)
abbrev sp_Net_hand (K : PySem.W.Frag) (A : Ad) : Sp := sp2 (pr_Net_hand K A)
def t_Net_hand (K : PySem.W.Frag) (A : Ad) (E : XK) : TS :=
    (tRet (tOp (rIxL K) (tFld K (tVar 0) "hands") (tCall (sp_need_hand K A) [] E (tCons (tCB (qLen K) (tCons (tFld K (tVar 0) "hands") tNil)) (tCons (tVar 1) tNil)))))
theorem rd_Net_hand {K : PySem.W.Frag} {A : Ad} (O : NetOk K A) {x y : V} {H : Hp} {Q : VK} {E : XK} (h : pr_Net_hand K A x y H Q E) : t_Net_hand K A E { nx := fun _ H' => Q .non H', rt := Q } [some x, some y] H := by
  obtain ⟨N, S, d, rfl, n, hd, q1, q2⟩ := h
  unfold t_Net_hand
  walk_at "rd"
  refine fn_hands O n.x ?_
  walk_at "rd"
  refine fn_hands O n.x ?_
  walk_at "rd"
  refine r_lenL (SqL.of n.hl) ?_
  rw [List.length_map, n.len]
  walk_at "rd"
  refine ⟨_, d, rfl, hd, fun h => ?_, fun h => q2 h⟩
  obtain ⟨i, rfl, h0, h1⟩ := handD_t h
  have ei : i = ((i.toNat : Nat) : Int) := by omega
  have hlt : i.toNat < N.hr.length := by rw [n.len]; omega
  have er : N.hr[i.toNat]? = some N.hr[i.toNat] := List.getElem?_eq_getElem hlt
  rw [hd.inv_int]
  exact r_ixL (SqL.of n.hl) (at_i h0 (n.ix er)) (q1 i.toNat _ (by rw [← ei]) er)
def pr_Net_owed_by (K : PySem.W.Frag) (A : Ad) : V → V → Hp → VK → XK → Prop := fun x y H Q E => ∃ (N : NR) (S : NS) (d : PyData), x = .ref N.x ∧ NetH A H N S ∧ Td H y d ∧ (∀ (i : Nat) (s : HS), d = .int (i : Int) → S.hands[i]? = some s → Q (.int s.owed) H) ∧ (handD d (S.hands.length : Int) = false → E (.ref A.cNoHand) none H)
abbrev sp_Net_owed_by (K : PySem.W.Frag) (A : Ad) : Sp := sp2 (pr_Net_owed_by K A)
def t_Net_owed_by (K : PySem.W.Frag) (A : Ad) (E : XK) : TS :=
    (tRet (tFld K (tMeth A.cNet "hand" (sp_Net_hand K A) [] E (tVar 0) (tCons (tVar 1) tNil)) "owed"))
theorem rd_Net_owed_by {K : PySem.W.Frag} {A : Ad} (O : NetOk K A) (O2 : HandOk K A) {x y : V} {H : Hp} {Q : VK} {E : XK} (h : pr_Net_owed_by K A x y H Q E) : t_Net_owed_by K A E { nx := fun _ H' => Q .non H', rt := Q } [some x, some y] H := by
  obtain ⟨N, S, d, rfl, n, hd, q1, q2⟩ := h
  unfold t_Net_owed_by
  walk_at "rd"
  refine r_methQ n.x rfl ?_
  walk_at "rd"
  refine ⟨N, S, d, rfl, n, hd, fun i r e er => ?_, fun h => q2 h⟩
  have hlt := (List.getElem?_eq_some_iff.mp er).1
  have es : S.hands[i]? = some (S.hands[i]'(by rw [← n.len]; exact hlt)) := List.getElem?_eq_getElem (by rw [← n.len]; exact hlt)
  exact fl_owed O2 (n.hd i r _ er es) (q1 i _ e es)
def pr_Net_waker_of (K : PySem.W.Frag) (A : Ad) : V → V → Hp → VK → XK → Prop := fun x y H Q E => ∃ (N : NR) (S : NS) (d : PyData), x = .ref N.x ∧ NetH A H N S ∧ Td H y d ∧ (∀ (i : Nat) (s : HS), d = .int (i : Int) → S.hands[i]? = some s → Q (kOf s.waker) H) ∧ (handD d (S.hands.length : Int) = false → E (.ref A.cNoHand) none H)
abbrev sp_Net_waker_of (K : PySem.W.Frag) (A : Ad) : Sp := sp2 (pr_Net_waker_of K A)
def t_Net_waker_of (K : PySem.W.Frag) (A : Ad) (E : XK) : TS :=
    (tRet (tFld K (tMeth A.cNet "hand" (sp_Net_hand K A) [] E (tVar 0) (tCons (tVar 1) tNil)) "waker"))
theorem rd_Net_waker_of {K : PySem.W.Frag} {A : Ad} (O : NetOk K A) (O2 : HandOk K A) {x y : V} {H : Hp} {Q : VK} {E : XK} (h : pr_Net_waker_of K A x y H Q E) : t_Net_waker_of K A E { nx := fun _ H' => Q .non H', rt := Q } [some x, some y] H := by
  obtain ⟨N, S, d, rfl, n, hd, q1, q2⟩ := h
  unfold t_Net_waker_of
  walk_at "rd"
  refine r_methQ n.x rfl ?_
  walk_at "rd"
  refine ⟨N, S, d, rfl, n, hd, fun i r e er => ?_, fun h => q2 h⟩
  have hlt := (List.getElem?_eq_some_iff.mp er).1
  have es : S.hands[i]? = some (S.hands[i]'(by rw [← n.len]; exact hlt)) := List.getElem?_eq_getElem (by rw [← n.len]; exact hlt)
  exact fl_waker O2 (n.hd i r _ er es) (q1 i _ e es)
def pr_Net_freed_yet (K : PySem.W.Frag) (A : Ad) : V → V → Hp → VK → XK → Prop := fun x y H Q E => ∃ (N : NR) (S : NS) (d : PyData), x = .ref N.x ∧ NetH A H N S ∧ Td H y d ∧ (∀ (i : Nat) (s : HS), d = .int (i : Int) → S.hands[i]? = some s → Q (.bl s.free) H) ∧ (handD d (S.hands.length : Int) = false → E (.ref A.cNoHand) none H)
abbrev sp_Net_freed_yet (K : PySem.W.Frag) (A : Ad) : Sp := sp2 (pr_Net_freed_yet K A)
def t_Net_freed_yet (K : PySem.W.Frag) (A : Ad) (E : XK) : TS :=
    (tRet (tFld K (tMeth A.cNet "hand" (sp_Net_hand K A) [] E (tVar 0) (tCons (tVar 1) tNil)) "is_freed"))
theorem rd_Net_freed_yet {K : PySem.W.Frag} {A : Ad} (O : NetOk K A) (O2 : HandOk K A) {x y : V} {H : Hp} {Q : VK} {E : XK} (h : pr_Net_freed_yet K A x y H Q E) : t_Net_freed_yet K A E { nx := fun _ H' => Q .non H', rt := Q } [some x, some y] H := by
  obtain ⟨N, S, d, rfl, n, hd, q1, q2⟩ := h
  unfold t_Net_freed_yet
  walk_at "rd"
  refine r_methQ n.x rfl ?_
  walk_at "rd"
  refine ⟨N, S, d, rfl, n, hd, fun i r e er => ?_, fun h => q2 h⟩
  have hlt := (List.getElem?_eq_some_iff.mp er).1
  have es : S.hands[i]? = some (S.hands[i]'(by rw [← n.len]; exact hlt)) := List.getElem?_eq_getElem (by rw [← n.len]; exact hlt)
  exact fl_free O2 (n.hd i r _ er es) (q1 i _ e es)
end SB
/-! Hand.__init__. -/
namespace SB
open PySem L2
def mkH (n : Int) (wt : Wt) (f : Bool) : HS := { number := n, word := wt.map (·.1), others := (wt.map (·.2)).getD [], first := f, free := wt.isNone, has := false, askers := [], told := [], owed := 0, waker := none }
/-- what a wait handed to a hand is -/
def WtIn (F : Hp) (L : List (Addr × HO)) (w : V) (wt : Wt) : Prop := (wt = none ∧ w = .non) ∨ ∃ b os p l, wt = some (b, os) ∧ w = .ref p ∧ F p = some (.tup [.str (wd b), .ref l]) ∧ (F l = some (.lst (os.map V.int)) ∨ (l, HO.lst (os.map V.int)) ∈ L)
def pr_Hand_init (K : PySem.W.Frag) (A : Ad) : V → V → V → V → Hp → VK → XK → Prop := fun x n w f H Q _ => ∃ (F0 H0 F : Hp) (L : List (Addr × HO)) (xa dx : Addr) (num : Int) (wt : Wt) (first : Bool), x = .ref xa ∧ n = .int num ∧ f = .bl first ∧ WtIn F L w wt ∧ Zs F0 H0 F H ((xa, .ins A.cHand dx []) :: L) ∧
  ∀ F' H' r, Zs F0 H0 F' H' (hL A r (mkH num wt first) L) → Same F F' → r.x = xa → F' r.o = some (.lst ((mkH num wt first).others.map V.int)) → Q .non H'
abbrev sp_Hand_init (K : PySem.W.Frag) (A : Ad) : Sp := sp4 (pr_Hand_init K A)
def t_Hand_init (K : PySem.W.Frag) (A : Ad) : TS :=
    (tSeq (sFld K (tVar 0) (tVar 1) "number")
    (tSeq (sFld K (tVar 0) (tC .non) "word")
    (tSeq (sFld K (tVar 0) (tLst tNil) "others")
    (Evl.tCut (tIfS (tTest (tOp qNotN (tVar 2) (tC .non)))
    (tSeq (sFld K (tVar 0) (tOp (rIxT K) (tVar 2) (tC (.int 0))) "word")
    (sFld K (tVar 0) (tCB (qListOf K) (tCons (tOp (rIxT K) (tVar 2) (tC (.int 1))) tNil)) "others"))
    tNext)
    (tSeq (sFld K (tVar 0) (tVar 3) "is_asker")
    (tSeq (sFld K (tVar 0) (tOp qIsN (tVar 2) (tC .non)) "is_freed")
    (tSeq (sFld K (tVar 0) (tC (.bl false)) "has_asked")
    (tSeq (sFld K (tVar 0) (tLst tNil) "askers")
    (tSeq (sFld K (tVar 0) (tLst tNil) "told_so")
    (tSeq (sFld K (tVar 0) (tC (.int 0)) "owed")
    (sFld K (tVar 0) (tC .non) "waker")))))))))))
theorem rd_Hand_init {K : PySem.W.Frag} {A : Ad} (O : HandOk K A) {x n w f : V} {H : Hp} {Q : VK} {E : XK} (h : pr_Hand_init K A x n w f H Q E) : t_Hand_init K A { nx := fun _ H' => Q .non H', rt := Q } [some x, some n, some w, some f] H := by
  obtain ⟨F0, H0, F, L, xa, dx, num, wt, first, rfl, rfl, rfl, hw, Z, k⟩ := h
  unfold t_Hand_init
  walk_at "rd"
  refine r_sfldQ O.cl O.number 0 Z rfl (by show 0 < 1000; decide) ?_
  intro H1 Z
  replace Z : Zs F0 H0 F H1 ((xa, .ins A.cHand dx [("number", .int num)]) :: L) := Z
  walk_at "rd"
  refine r_sfldQ O.cl O.word 0 Z rfl (by show 1 < 1000; decide) ?_
  intro H1 Z
  replace Z : Zs F0 H0 F H1 ((xa, .ins A.cHand dx [("number", .int num), ("word", .non)]) :: L) := Z
  walk_at "rd"
  refine r_mk sz0 Z ?_
  intro o1 H1 Z
  obtain ⟨F1, Z, s1, e1⟩ := Z.frzAt 0 rfl
  replace Z : Zs F0 H0 F1 H1 ((xa, .ins A.cHand dx [("number", .int num), ("word", .non)]) :: L) := Z
  walk_at "rd"
  refine r_sfldQ O.cl O.others 0 Z rfl (by show 2 < 1000; decide) ?_
  intro H1 Z
  replace Z : Zs F0 H0 F1 H1 ((xa, .ins A.cHand dx [("number", .int num), ("word", .non), ("others", .ref o1)]) :: L) := Z
  walk_at "rd"
  refine r_cut (fun σ' H' => σ' = [some (.ref xa), some (.int num), some w, some (.bl first)] ∧ ∃ F' o, Zs F0 H0 F' H' ((xa, .ins A.cHand dx [("number", .int num), ("word", wOf (wt.map (·.1))), ("others", .ref o)]) :: L) ∧ Same F F' ∧ F' o = some (.lst ((mkH num wt first).others.map V.int))) ?_ ?_
  · walk_at "rd"
    rcases hw with ⟨rfl, rfl⟩ | ⟨b, os, p, l, rfl, rfl, hp, hl⟩
    · refine ifF rfl ?_
      walk_at "rd"
      exact ⟨rfl, F1, o1, Z, s1, e1⟩
    · refine ifT rfl ?_
      walk_at "rd"
      refine r_ixT (SqT.of (Z.fix (s1 _ _ hp))) (at_i (by decide) rfl) ?_
      walk_at "rd"
      refine r_sfldQ O.cl O.word 0 Z rfl (by show 3 < 1000; decide) ?_
      intro H2 Z
      replace Z : Zs F0 H0 F1 H2 ((xa, .ins A.cHand dx [("number", .int num), ("word", .str (wd b)), ("others", .ref o1)]) :: L) := Z
      walk_at "rd"
      refine r_ixT (SqT.of (Z.fix (s1 _ _ hp))) (at_i (by decide) rfl) ?_
      walk_at "rd"
      refine r_listL (ys := os.map V.int) ?_ Z ?_
      · rcases hl with hl | hl
        · exact SqL.of (Z.fix (s1 _ _ hl))
        · exact SqL.of (Z.led _ (List.mem_cons_of_mem _ hl)).1
      intro o2 H3 Z
      obtain ⟨F2, Z, s2, e2⟩ := Z.frzAt 0 rfl
      replace Z : Zs F0 H0 F2 H3 ((xa, .ins A.cHand dx [("number", .int num), ("word", .str (wd b)), ("others", .ref o1)]) :: L) := Z
      walk_at "rd"
      refine r_sfldQ O.cl O.others 0 Z rfl (by show 3 < 1000; decide) ?_
      intro H4 Z
      replace Z : Zs F0 H0 F2 H4 ((xa, .ins A.cHand dx [("number", .int num), ("word", .str (wd b)), ("others", .ref o2)]) :: L) := Z
      exact ⟨rfl, F2, o2, Z, s1.trans s2, e2⟩
  · rintro σ' H2 ⟨rfl, F2, o, Z, s2, e2⟩
    have hn : decide (w = .non) = wt.isNone := by
      rcases hw with ⟨rfl, rfl⟩ | ⟨b, os, p, l, rfl, rfl, hp, hl⟩
      · rfl
      · rfl
    walk_at "rd"
    refine r_sfldQ O.cl O.first 0 Z rfl (by show 3 < 1000; decide) ?_
    intro H1 Z
    replace Z : Zs F0 H0 F2 H1 ((xa, .ins A.cHand dx [("number", .int num), ("word", wOf (wt.map (·.1))), ("others", .ref o), ("is_asker", .bl first)]) :: L) := Z
    walk_at "rd"
    rw [hn]
    refine r_sfldQ O.cl O.free 0 Z rfl (by show 4 < 1000; decide) ?_
    intro H1 Z
    replace Z : Zs F0 H0 F2 H1 ((xa, .ins A.cHand dx [("number", .int num), ("word", wOf (wt.map (·.1))), ("others", .ref o), ("is_asker", .bl first), ("is_freed", .bl wt.isNone)]) :: L) := Z
    walk_at "rd"
    refine r_sfldQ O.cl O.has 0 Z rfl (by show 5 < 1000; decide) ?_
    intro H1 Z
    replace Z : Zs F0 H0 F2 H1 ((xa, .ins A.cHand dx [("number", .int num), ("word", wOf (wt.map (·.1))), ("others", .ref o), ("is_asker", .bl first), ("is_freed", .bl wt.isNone), ("has_asked", .bl false)]) :: L) := Z
    walk_at "rd"
    refine r_mk sz0 Z ?_
    intro a H1 Z
    walk_at "rd"
    refine r_sfldQ O.cl O.askers 1 Z rfl (by show 6 < 1000; decide) ?_
    intro H1 Z
    replace Z : Zs F0 H0 F2 H1 ((a, .lst []) :: (xa, .ins A.cHand dx [("number", .int num), ("word", wOf (wt.map (·.1))), ("others", .ref o), ("is_asker", .bl first), ("is_freed", .bl wt.isNone), ("has_asked", .bl false), ("askers", .ref a)]) :: L) := Z
    walk_at "rd"
    refine r_mk sz0 Z ?_
    intro t H1 Z
    walk_at "rd"
    refine r_sfldQ O.cl O.told 2 Z rfl (by show 7 < 1000; decide) ?_
    intro H1 Z
    replace Z : Zs F0 H0 F2 H1 ((t, .lst []) :: (a, .lst []) :: (xa, .ins A.cHand dx [("number", .int num), ("word", wOf (wt.map (·.1))), ("others", .ref o), ("is_asker", .bl first), ("is_freed", .bl wt.isNone), ("has_asked", .bl false), ("askers", .ref a), ("told_so", .ref t)]) :: L) := Z
    walk_at "rd"
    refine r_sfldQ O.cl O.owed 2 Z rfl (by show 8 < 1000; decide) ?_
    intro H1 Z
    replace Z : Zs F0 H0 F2 H1 ((t, .lst []) :: (a, .lst []) :: (xa, .ins A.cHand dx [("number", .int num), ("word", wOf (wt.map (·.1))), ("others", .ref o), ("is_asker", .bl first), ("is_freed", .bl wt.isNone), ("has_asked", .bl false), ("askers", .ref a), ("told_so", .ref t), ("owed", .int 0)]) :: L) := Z
    walk_at "rd"
    refine r_sfldQ O.cl O.waker 2 Z rfl (by show 9 < 1000; decide) ?_
    intro H1 Z
    have Z1 : Zs F0 H0 F2 H1 ((t, .lst []) :: (a, .lst []) :: (xa, hI A ⟨xa, dx, o, a, t⟩ (mkH num wt first)) :: L) := Z
    refine k F2 H1 ⟨xa, dx, o, a, t⟩ (Z1.perm ?_) s2 rfl e2
    exact ((List.Perm.cons _ (List.Perm.swap _ _ _)).trans (List.Perm.swap _ _ _)).trans (List.Perm.cons _ (List.Perm.swap _ _ _))
end SB
/-! A hand's methods: posted, asking, begin, asked_by, told_by. -/
namespace SB
open PySem L2
def pr_Hand_posted (K : PySem.W.Frag) (A : Ad) : V → V → V → Hp → VK → XK → Prop := fun x w b H Q _ => ∃ (F0 H0 F : Hp) (L : List (Addr × HO)) (r : HR) (s : HS) (wo : Str) (rs : List Int) (pb : Addr), x = .ref r.x ∧ w = .str wo ∧ b = .ref pb ∧ Zs F0 H0 F H (hL A r s L) ∧
  (F pb = some (.lst (rs.map V.int)) ∨ (pb = r.a ∧ rs = s.askers)) ∧ rs.length ≤ 50000 ∧ PostH A F0 H0 F L r (posted s wo rs) Q
abbrev sp_Hand_posted (K : PySem.W.Frag) (A : Ad) : Sp := sp3 (pr_Hand_posted K A)
def t_Hand_posted (K : PySem.W.Frag) (A : Ad) : TS :=
    (tSeq (sFld K (tVar 0) (tOp qAdd (tFld K (tVar 0) "owed") (tCB (qLen K) (tCons (tVar 2) tNil))) "owed")
    (tRet (tLc (iList K (tVar 2)) (gName 3) tYes (tTup (tCons (tVar 1) (tCons (tFld K (tVar 0) "number") (tCons (tVar 3) tNil)))) [3])))
theorem hL_src {K : PySem.W.Frag} {A : Ad} {F0 H0 F F' H' : Hp} {L : List (Addr × HO)} {r : HR} {s s' : HS} {rs : List Int} {pb : Addr} (h : F pb = some (.lst (rs.map V.int)) ∨ (pb = r.a ∧ rs = s.askers)) (Z : Zs F0 H0 F' H' (hL A r s' L)) (e : s'.askers = s.askers) (sm : Same F F') : SqL K H' pb (rs.map V.int) := by
  rcases h with h | ⟨rfl, rfl⟩
  · exact SqL.of (Z.fix (sm _ _ h))
  · have := Z.get (i := 1) rfl
    rw [e] at this
    exact SqL.of this
theorem rd_Hand_posted {K : PySem.W.Frag} {A : Ad} (O : HandOk K A) {x w b : V} {H : Hp} {Q : VK} {E : XK} (h : pr_Hand_posted K A x w b H Q E) : t_Hand_posted K A { nx := fun _ H' => Q .non H', rt := Q } [some x, some w, some b, none] H := by
  obtain ⟨F0, H0, F, L, r, s, wo, rs, pb, rfl, rfl, rfl, Z, hb, hn, k⟩ := h
  unfold t_Hand_posted
  walk_at "rd"
  refine fl_owed O (Z.get (i := 0) rfl) ?_
  walk_at "rd"
  refine r_lenL (hL_src hb Z rfl (Same.refl _)) ?_
  rw [List.length_map]
  walk_at "rd"
  refine sf_owed O Z ?_
  intro H1 Z
  walk_at "rd"
  refine lc_lst (hL_src hb Z rfl (Same.refl _)) Z (fun i acc F' => TdA F' acc ((dLts (posted s wo rs).2).take i)) (by rw [List.take_zero]; exact .nil) (fun F' H' Z' sm => hL_src hb Z' rfl sm) ?_ ?_
  · intro i y Dl F' H' acc hi Z' sm hacc p
    obtain ⟨n, hn1, rfl⟩ := of_get_ints hi
    walk_at "rd"
    refine ⟨rfl, ?_⟩
    refine r_yes (ifT rfl ?_)
    walk_at "rd"
    refine fl_number O (Z'.get (i := 1) rfl) ?_
    walk_at "rd"
    refine r_mk sz3 Z' ?_
    intro p0 H2 Z2
    obtain ⟨F3, Z3, s3, e3⟩ := Z2.frzAt 0 rfl
    have hlt := (List.getElem?_eq_some_iff.mp hn1).1
    refine cy Z3 (sm.trans s3) hacc (by omega) ?_
    have ed : (dLts (posted s wo rs).2)[i]? = some (dLt (wo, s.number, n)) := by
      unfold dLts posted
      rw [List.getElem?_map, List.getElem?_map, hn1] <;> rfl
    rw [take_snoc ed]
    exact (p.up s3).snoc (Td.mk_lt e3)
  · intro Dl F' H' acc Z' sm p
    refine k F' H' Dl acc Z' sm ?_
    rw [List.length_map] at p
    have e : (dLts (posted s wo rs).2).length = rs.length := by unfold dLts posted; rw [List.length_map, List.length_map]
    rw [← e, List.take_length] at p
    exact p
/-- what a hand's methods lean on -/
structure HsF (F : Hp) (r : HR) (s : HS) : Prop where
  o : F r.o = some (.lst (s.others.map V.int))
  no : s.others.length ≤ 10000
  na : s.askers.length ≤ 10000
  nt : s.told.length ≤ 10000
theorem HsF.up {F F' : Hp} {r : HR} {s : HS} (h : HsF F r s) (sm : Same F F') : HsF F' r s := ⟨sm _ _ h.o, h.no, h.na, h.nt⟩
def pr_Hand_asking (K : PySem.W.Frag) (A : Ad) : V → Hp → VK → XK → Prop := fun x H Q _ => ∃ (F0 H0 F : Hp) (L : List (Addr × HO)) (r : HR) (s : HS), x = .ref r.x ∧ Zs F0 H0 F H (hL A r s L) ∧ F r.o = some (.lst (s.others.map V.int)) ∧ s.others.length ≤ 10000 ∧ PostH A F0 H0 F L r (asking s) Q
abbrev sp_Hand_asking (K : PySem.W.Frag) (A : Ad) : Sp := sp1 (pr_Hand_asking K A)
def t_Hand_asking (K : PySem.W.Frag) (A : Ad) : TS :=
    (tSeq (sFld K (tVar 0) (tC (.bl true)) "has_asked")
    (tRet (tMeth A.cHand "posted" (sp_Hand_posted K A) [] E0 (tVar 0) (tCons (tC (.str "ask")) (tCons (tFld K (tVar 0) "others") tNil)))))
theorem rd_Hand_asking {K : PySem.W.Frag} {A : Ad} (O : HandOk K A) {x : V} {H : Hp} {Q : VK} {E : XK} (h : pr_Hand_asking K A x H Q E) : t_Hand_asking K A { nx := fun _ H' => Q .non H', rt := Q } [some x] H := by
  obtain ⟨F0, H0, F, L, r, s, rfl, Z, ho, hn, k⟩ := h
  unfold t_Hand_asking
  walk_at "rd"
  refine sf_has O Z ?_
  intro H1 Z
  walk_at "rd"
  refine r_methQ (Z.get (i := 0) rfl) rfl ?_
  walk_at "rd"
  refine fl_others O (Z.get (i := 0) rfl) ?_
  walk_at "rd"
  exact ⟨F0, H0, F, L, r, { s with has := true }, "ask", s.others, r.o, rfl, rfl, rfl, Z, .inl ho, by omega, k⟩
def pr_Hand_begin (K : PySem.W.Frag) (A : Ad) : V → Hp → VK → XK → Prop := fun x H Q _ => ∃ (F0 H0 F : Hp) (L : List (Addr × HO)) (r : HR) (s : HS), x = .ref r.x ∧ Zs F0 H0 F H (hL A r s L) ∧ F r.o = some (.lst (s.others.map V.int)) ∧ s.others.length ≤ 10000 ∧ PostH A F0 H0 F L r (begin s) Q
abbrev sp_Hand_begin (K : PySem.W.Frag) (A : Ad) : Sp := sp1 (pr_Hand_begin K A)
def t_Hand_begin (K : PySem.W.Frag) (A : Ad) : TS :=
    (tSeq (tIfS (tB (tFld K (tVar 0) "is_freed"))
    (tRet (tLst tNil))
    tNext)
    (tRet (tMeth A.cHand "asking" (sp_Hand_asking K A) [] E0 (tVar 0) tNil)))
theorem rd_Hand_begin {K : PySem.W.Frag} {A : Ad} (O : HandOk K A) {x : V} {H : Hp} {Q : VK} {E : XK} (h : pr_Hand_begin K A x H Q E) : t_Hand_begin K A { nx := fun _ H' => Q .non H', rt := Q } [some x] H := by
  obtain ⟨F0, H0, F, L, r, s, rfl, Z, ho, hn, k⟩ := h
  unfold t_Hand_begin
  walk_at "rd"
  refine fl_free O (Z.get (i := 0) rfl) ?_
  walk_at "rd"
  refine ifb (fun e => ?_) (fun e => ?_)
  · walk_at "rd"
    refine r_mk sz0 Z ?_
    intro p H1 Z1
    refine k F H1 p [] ?_ (Same.refl _) ?_
    · unfold begin
      rw [if_pos e]
      exact Z1
    · unfold begin
      rw [if_pos e]
      exact .nil
  · walk_at "rd"
    refine r_methQ (Z.get (i := 0) rfl) rfl ?_
    walk_at "rd"
    refine ⟨F0, H0, F, L, r, s, rfl, Z, ho, hn, ?_⟩
    have e2 : begin s = asking s := by unfold begin; rw [if_neg (by rw [e]; decide)]
    rw [← e2]
    exact k
def pr_Hand_asked_by (K : PySem.W.Frag) (A : Ad) : V → V → Hp → VK → XK → Prop := fun x y H Q _ => ∃ (F0 H0 F : Hp) (L : List (Addr × HO)) (r : HR) (s : HS) (j : Int), x = .ref r.x ∧ y = .int j ∧ Zs F0 H0 F H (hL A r s L) ∧ HsF F r s ∧ PostH A F0 H0 F L r (askedBy s j) Q
abbrev sp_Hand_asked_by (K : PySem.W.Frag) (A : Ad) : Sp := sp2 (pr_Hand_asked_by K A)
def t_Hand_asked_by (K : PySem.W.Frag) (A : Ad) : TS :=
    (tSeq (tIfS (tB (tFld K (tVar 0) "is_freed"))
    (tRet (tMeth A.cHand "posted" (sp_Hand_posted K A) [] E0 (tVar 0) (tCons (tC (.str "freed")) (tCons (tLst (tCons (tVar 1) tNil)) tNil))))
    tNext)
    (tSeq (tDrop (tBM K "list" rAppend (tFld K (tVar 0) "askers") (tCons (tVar 1) tNil)))
    (tSeq (tIfS (tB (tFld K (tVar 0) "has_asked"))
    (tRet (tLst tNil))
    tNext)
    (tRet (tMeth A.cHand "asking" (sp_Hand_asking K A) [] E0 (tVar 0) tNil)))))
theorem rd_Hand_asked_by {K : PySem.W.Frag} {A : Ad} (O : HandOk K A) {x y : V} {H : Hp} {Q : VK} {E : XK} (h : pr_Hand_asked_by K A x y H Q E) : t_Hand_asked_by K A { nx := fun _ H' => Q .non H', rt := Q } [some x, some y] H := by
  obtain ⟨F0, H0, F, L, r, s, j, rfl, rfl, Z, hs, k⟩ := h
  unfold t_Hand_asked_by
  walk_at "rd"
  refine fl_free O (Z.get (i := 0) rfl) ?_
  walk_at "rd"
  refine ifb (fun e => ?_) (fun e => ?_)
  · walk_at "rd"
    refine r_methQ (Z.get (i := 0) rfl) rfl ?_
    walk_at "rd"
    refine r_mk sz1 Z ?_
    intro p H1 Z1
    obtain ⟨F2, Z2, s2, e2⟩ := Z1.frzAt 0 rfl
    walk_at "rd"
    refine ⟨F0, H0, F2, L, r, s, "freed", [j], p, rfl, rfl, rfl, Z2, .inl e2, by show 1 ≤ 50000; decide, ?_⟩
    have e3 : askedBy s j = posted s "freed" [j] := by unfold askedBy; rw [if_pos e]
    rw [← e3]
    exact fun F' H' l vs Z' sm hd => k F' H' l vs Z' (s2.trans sm) hd
  · walk_at "rd"
    refine fl_askers O (Z.get (i := 0) rfl) ?_
    refine ⟨ty_l (SqL.of (Z.get (i := 1) rfl)), ?_⟩
    walk_at "rd"
    refine r_append 1 Z rfl (by rw [List.length_map]; have := hs.na; omega) ?_
    intro H1 Z
    have Z : Zs F0 H0 F H1 (hL A r { s with askers := s.askers ++ [j] } L) := by
      have q := Z
      simp only [List.set_cons_succ, List.set_cons_zero] at q
      show Zs F0 H0 F H1 ((r.x, hI A r s) :: (r.a, .lst ((s.askers ++ [j]).map V.int)) :: (r.t, .lst (s.told.map V.int)) :: L)
      rw [List.map_append]
      exact q
    walk_at "rd"
    refine fl_has O (Z.get (i := 0) rfl) ?_
    walk_at "rd"
    refine ifb (fun e2 => ?_) (fun e2 => ?_)
    · walk_at "rd"
      refine r_mk sz0 Z ?_
      intro p H1 Z1
      have e3 : askedBy s j = ({ s with askers := s.askers ++ [j] }, []) := by unfold askedBy; rw [if_neg (by rw [e]; decide), if_pos e2]
      rw [e3] at k
      exact k F H1 p [] Z1 (Same.refl _) .nil
    · walk_at "rd"
      refine r_methQ (Z.get (i := 0) rfl) rfl ?_
      walk_at "rd"
      refine ⟨F0, H0, F, L, r, { s with askers := s.askers ++ [j] }, rfl, Z, hs.o, hs.no, ?_⟩
      have e3 : askedBy s j = asking { s with askers := s.askers ++ [j] } := by
        unfold askedBy
        rw [if_neg (by rw [e]; decide), if_neg (by rw [show s.has = false from e2]; decide)]
      rw [← e3]
      exact k
theorem w_all (b : Option Bool) : wOf b = .str "all" ↔ b = some false := by
  rcases b with _ | _ | _ <;> constructor <;> intro q <;> first | rfl | cases q
theorem rEq_all {H : Hp} {Q : VK} {w : Option Bool} (k : Q (.bl (decide (w = some false))) H) : rEq (wOf w) (.str "all") H Q := by
  rcases w with _ | _ | _
  · exact ⟨rfl, k⟩
  · exact r_eqS k
  · exact r_eqS k
def pr_Hand_told_by (K : PySem.W.Frag) (A : Ad) : V → V → Hp → VK → XK → Prop := fun x y H Q _ => ∃ (F0 H0 F : Hp) (L : List (Addr × HO)) (r : HR) (s : HS) (j : Int), x = .ref r.x ∧ y = .int j ∧ Zs F0 H0 F H (hL A r s L) ∧ HsF F r s ∧ PostH A F0 H0 F L r (toldBy s j) Q
abbrev sp_Hand_told_by (K : PySem.W.Frag) (A : Ad) : Sp := sp2 (pr_Hand_told_by K A)
def t_Hand_told_by (K : PySem.W.Frag) (A : Ad) : TS :=
    (tSeq (tDrop (tBM K "list" rAppend (tFld K (tVar 0) "told_so") (tCons (tVar 1) tNil)))
    (tSeq (tIfS (tOr (tB (tFld K (tVar 0) "is_freed")) (tAnd (tTest (tOp rEq (tFld K (tVar 0) "word") (tC (.str "all")))) (tTest (tOp qLt (tCB (qLen K) (tCons (tFld K (tVar 0) "told_so") tNil)) (tCB (qLen K) (tCons (tFld K (tVar 0) "others") tNil))))))
    (tRet (tLst tNil))
    tNext)
    (tSeq (sFld K (tVar 0) (tC (.bl true)) "is_freed")
    (tRet (tMeth A.cHand "posted" (sp_Hand_posted K A) [] E0 (tVar 0) (tCons (tC (.str "freed")) (tCons (tFld K (tVar 0) "askers") tNil)))))))
theorem rd_Hand_told_by {K : PySem.W.Frag} {A : Ad} (O : HandOk K A) {x y : V} {H : Hp} {Q : VK} {E : XK} (h : pr_Hand_told_by K A x y H Q E) : t_Hand_told_by K A { nx := fun _ H' => Q .non H', rt := Q } [some x, some y] H := by
  obtain ⟨F0, H0, F, L, r, s, j, rfl, rfl, Z, hs, k⟩ := h
  unfold t_Hand_told_by
  walk_at "rd"
  refine fl_told O (Z.get (i := 0) rfl) ?_
  refine ⟨ty_l (SqL.of (Z.get (i := 2) rfl)), ?_⟩
  walk_at "rd"
  refine r_append 2 Z rfl (by rw [List.length_map]; have := hs.nt; omega) ?_
  intro H1 Z
  have Z : Zs F0 H0 F H1 (hL A r { s with told := s.told ++ [j] } L) := by
    have q := Z
    simp only [List.set_cons_succ, List.set_cons_zero] at q
    show Zs F0 H0 F H1 ((r.x, hI A r s) :: (r.a, .lst (s.askers.map V.int)) :: (r.t, .lst ((s.told ++ [j]).map V.int)) :: L)
    rw [List.map_append]
    exact q
  have hyes : (s.free || (decide (s.word = some false) && decide (s.told.length + 1 < s.others.length))) = true → tIfS tYes (tRet (tLst tNil)) tNext { nx := fun _ _ => False, rt := Q } [] H1 := fun e => by
    refine r_ifS (r_yes (ifT rfl (r_ret (r_lst (r_nil ?_)))))
    refine r_mk sz0 Z ?_
    intro p H2 Z2
    have e3 : toldBy s j = ({ s with told := s.told ++ [j] }, []) := by unfold toldBy; rw [if_pos e]
    rw [e3] at k
    exact k F H2 p [] Z2 (Same.refl _) .nil
  have hno : ∀ σ : St, σ[0]? = some (some (V.ref r.x)) → (s.free || (decide (s.word = some false) && decide (s.told.length + 1 < s.others.length))) = false → tSeq (sFld K (tVar 0) (tC (.bl true)) "is_freed") (tRet (tMeth A.cHand "posted" (sp_Hand_posted K A) [] E0 (tVar 0) (tCons (tC (.str "freed")) (tCons (tFld K (tVar 0) "askers") tNil)))) { nx := fun _ H' => Q .non H', rt := Q } σ H1 := fun σ h0 e => by
    refine r_seq (r_sfld (r_c (r_var h0 ?_)))
    refine sf_free O Z ?_
    intro H2 Z
    refine r_ret (r_meth (r_var h0 ?_))
    refine r_methQ (Z.get (i := 0) rfl) rfl ?_
    refine r_cons (r_c (r_cons (r_fld (r_var h0 ?_))))
    refine fl_askers O (Z.get (i := 0) rfl) ?_
    refine r_nil (r_sp3m ?_)
    refine ⟨F0, H0, F, L, r, { s with told := s.told ++ [j], free := true }, "freed", s.askers, r.a, rfl, rfl, rfl, Z, .inr ⟨rfl, rfl⟩, by have := hs.na; omega, ?_⟩
    have e3 : toldBy s j = posted { s with told := s.told ++ [j], free := true } "freed" s.askers := by unfold toldBy; rw [if_neg (by rw [e]; decide)]
    rw [← e3]
    exact k
  walk_at "rd"
  refine fl_free O (Z.get (i := 0) rfl) ?_
  walk_at "rd"
  refine ifb (fun e => ?_) (fun e => ?_)
  · refine ifT rfl ?_
    exact hyes (by rw [show s.free = true from e]; rfl)
  · walk_at "rd"
    refine fl_word O (Z.get (i := 0) rfl) ?_
    walk_at "rd"
    refine rEq_all ?_
    walk_at "rd"
    refine ifd (fun e2 => ?_) (fun e2 => ?_)
    · walk_at "rd"
      refine fl_told O (Z.get (i := 0) rfl) ?_
      walk_at "rd"
      refine r_lenL (SqL.of (Z.get (i := 2) rfl)) ?_
      walk_at "rd"
      refine fl_others O (Z.get (i := 0) rfl) ?_
      walk_at "rd"
      refine r_lenL (SqL.of (Z.fix hs.o)) ?_
      walk_at "rd"
      rw [List.length_map, List.length_map, List.length_append, List.length_singleton]
      refine ifd (fun e3 => ?_) (fun e3 => ?_)
      · exact hyes (by rw [show s.free = false from e, decide_eq_true (show s.word = some false from e2), decide_eq_true (show s.told.length + 1 < s.others.length by omega)]; rfl)
      · refine r_next ?_
        exact hno [some (.ref r.x), some (.int j)] rfl (by rw [show s.free = false from e, decide_eq_false (show ¬ s.told.length + 1 < s.others.length by omega), Bool.and_false]; rfl)
    · refine ifF rfl ?_
      refine r_next ?_
      exact hno [some (.ref r.x), some (.int j)] rfl (by rw [show s.free = false from e, decide_eq_false (show ¬ s.word = some false from e2)]; rfl)
end SB
/-! Hand.come. -/
namespace SB
open PySem L2
theorem hL_in {A : Ad} {F0 H0 F H : Hp} {L : List (Addr × HO)} {r : HR} {s : HS} {q : Addr × HO} (Z : Zs F0 H0 F H (q :: hL A r s L)) : Zs F0 H0 F H (hL A r s (q :: L)) :=
  Z.perm ((List.Perm.swap _ _ _).trans ((List.Perm.cons _ (List.Perm.swap _ _ _)).trans (List.Perm.cons _ (List.Perm.cons _ (List.Perm.swap _ _ _)))))
theorem hL_out {A : Ad} {F0 H0 F H : Hp} {L : List (Addr × HO)} {r : HR} {s : HS} {q : Addr × HO} (Z : Zs F0 H0 F H (hL A r s (q :: L))) : Zs F0 H0 F H (q :: hL A r s L) :=
  Z.perm (((List.Perm.swap _ _ _).trans ((List.Perm.cons _ (List.Perm.swap _ _ _)).trans (List.Perm.cons _ (List.Perm.cons _ (List.Perm.swap _ _ _))))).symm)
theorem len_dLts (ls : List Lt) : (dLts ls).length = ls.length := by unfold dLts; rw [List.length_map]
theorem len_posted {s : HS} {w : Str} {rs : List Int} : (posted s w rs).2.length = rs.length := by unfold posted; rw [List.length_map]
theorem len_askedBy {F : Hp} {r : HR} {s : HS} {j : Int} (h : HsF F r s) : (askedBy s j).2.length ≤ 10000 := by
  have := h.no
  unfold askedBy
  split
  · rw [len_posted]; show 1 ≤ 10000; decide
  · split
    · exact Nat.zero_le _
    · unfold asking; rw [len_posted]; exact this
theorem len_toldBy {F : Hp} {r : HR} {s : HS} {j : Int} (h : HsF F r s) : (toldBy s j).2.length ≤ 10000 := by
  have := h.na
  unfold toldBy
  split
  · exact Nat.zero_le _
  · rw [len_posted]; exact this
theorem dec_kOf (k : Option Int) : decide (kOf k = .non) = !k.isSome := by cases k <;> rfl
theorem HsF.waker {F : Hp} {r : HR} {s : HS} (h : HsF F r s) (k : Option Int) : HsF F r { s with waker := k } := ⟨h.o, h.no, h.na, h.nt⟩
def pr_Hand_come (K : PySem.W.Frag) (A : Ad) : V → V → Hp → VK → XK → Prop := fun x y H Q _ => ∃ (F0 H0 F : Hp) (L : List (Addr × HO)) (r : HR) (s : HS) (w : Str) (j me : Int) (p : Addr), x = .ref r.x ∧ y = .ref p ∧ F p = some (.tup [.str w, .int j, .int me]) ∧ Zs F0 H0 F H (hL A r s L) ∧ HsF F r s ∧ PostH A F0 H0 F L r (come s w j) Q
abbrev sp_Hand_come (K : PySem.W.Frag) (A : Ad) : Sp := sp2 (pr_Hand_come K A)
def t_Hand_come (K : PySem.W.Frag) (A : Ad) : TS :=
    (tSeq (tAsg (tVar 1) (gTup K 3 (gCons (gName 2) (gCons (gName 3) (gCons (gName 4) gNil)))))
    (tSeq (tAsg (tLst tNil) (gName 5))
    (Evl.tCut (tIfS (tTest (tOp rEq (tVar 2) (tC (.str "back"))))
    (sFld K (tVar 0) (tOp qSub (tFld K (tVar 0) "owed") (tC (.int 1))) "owed")
    (Evl.tCut (tIfS (tOr (tB (tFld K (tVar 0) "is_asker")) (tTest (tOp qNotN (tFld K (tVar 0) "waker") (tC .non))))
    (tDrop (tBM K "list" rAppend (tVar 5) (tCons (tTup (tCons (tC (.str "back")) (tCons (tFld K (tVar 0) "number") (tCons (tVar 3) tNil)))) tNil)))
    (sFld K (tVar 0) (tVar 3) "waker"))
    (tIfS (tTest (tOp rEq (tVar 2) (tC (.str "ask"))))
    (tDrop (tBM K "list" rExtend (tVar 5) (tCons (tMeth A.cHand "asked_by" (sp_Hand_asked_by K A) [] E0 (tVar 0) (tCons (tVar 3) tNil)) tNil)))
    (tDrop (tBM K "list" rExtend (tVar 5) (tCons (tMeth A.cHand "told_by" (sp_Hand_told_by K A) [] E0 (tVar 0) (tCons (tVar 3) tNil)) tNil))))))
    (Evl.tCut (tIfS (tAnd (tTest (tOp rEq (tFld K (tVar 0) "owed") (tC (.int 0)))) (tTest (tOp qNotN (tFld K (tVar 0) "waker") (tC .non))))
    (tSeq (tDrop (tBM K "list" rAppend (tVar 5) (tCons (tTup (tCons (tC (.str "back")) (tCons (tFld K (tVar 0) "number") (tCons (tFld K (tVar 0) "waker") tNil)))) tNil)))
    (sFld K (tVar 0) (tC .non) "waker"))
    tNext)
    (tRet (tVar 5))))))
/-- what stands in the midst of come -/
def CmW (A : Ad) (F0 H0 F : Hp) (L : List (Addr × HO)) (r : HR) (pf : Addr) (p : HS × List Lt) (H' : Hp) : Prop := ∃ F' vs, Zs F0 H0 F' H' (hL A r p.1 ((pf, .lst vs) :: L)) ∧ Same F F' ∧ TdA F' vs (dLts p.2)
theorem rd_Hand_come {K : PySem.W.Frag} {A : Ad} (O : HandOk K A) {x y : V} {H : Hp} {Q : VK} {E : XK} (h : pr_Hand_come K A x y H Q E) : t_Hand_come K A { nx := fun _ H' => Q .non H', rt := Q } [some x, some y, none, none, none, none] H := by
  obtain ⟨F0, H0, F, L, r, s, w, j, me, p, rfl, rfl, hp, Z, hs, k⟩ := h
  unfold t_Hand_come
  walk_at "rd"
  refine r_gt3 (SqT.of (Z.fix hp)) ?_
  walk_at "rd"
  refine r_mk sz0 Z ?_
  intro pf H1 Z
  replace Z := hL_in Z
  walk_at "rd"
  refine r_cut (fun σ' H' => σ' = [some (.ref r.x), some (.ref p), some (.str w), some (.int j), some (.int me), some (.ref pf)] ∧ CmW A F0 H0 F L r pf (come1 s w j) H') ?_ ?_
  · walk_at "rd"
    refine ifd (fun ew => ?_) (fun ew => ?_)
    · walk_at "rd"
      refine fl_owed O (Z.get (i := 0) rfl) ?_
      walk_at "rd"
      refine sf_owed O Z ?_
      intro H2 Z2
      refine ⟨rfl, F, [], ?_, Same.refl _, ?_⟩
      · have e : come1 s w j = ({ s with owed := s.owed - 1 }, []) := by unfold come1; rw [if_pos ew]
        rw [e]
        exact Z2
      · have e : come1 s w j = ({ s with owed := s.owed - 1 }, []) := by unfold come1; rw [if_pos ew]
        rw [e]
        exact .nil
    · refine r_cut (fun σ' H' => σ' = [some (.ref r.x), some (.ref p), some (.str w), some (.int j), some (.int me), some (.ref pf)] ∧ CmW A F0 H0 F L r pf (woken s j) H') ?_ ?_
      · walk_at "rd"
        refine fl_first O (Z.get (i := 0) rfl) ?_
        walk_at "rd"
        have hyes : ∀ (σ : St), σ = [some (V.ref r.x), some (.ref p), some (.str w), some (.int j), some (.int me), some (.ref pf)] → (s.first || s.waker.isSome) = true → tDrop (tBM K "list" rAppend (tVar 5) (tCons (tTup (tCons (tC (.str "back")) (tCons (tFld K (tVar 0) "number") (tCons (tVar 3) tNil)))) tNil)) { nx := fun σ' H' => σ' = [some (V.ref r.x), some (.ref p), some (.str w), some (.int j), some (.int me), some (.ref pf)] ∧ CmW A F0 H0 F L r pf (woken s j) H', rt := Q } σ H1 := fun σ e0 e => by
          subst e0
          walk_at "rd"
          refine ⟨ty_l (SqL.of (Z.get (i := 3) rfl)), ?_⟩
          walk_at "rd"
          refine fl_number O (Z.get (i := 0) rfl) ?_
          walk_at "rd"
          refine r_mk sz3 Z ?_
          intro p2 H2 Z2
          obtain ⟨F3, Z3, s3, e3⟩ := Z2.frzAt 0 rfl
          replace Z3 : Zs F0 H0 F3 H2 (hL A r s ((pf, .lst []) :: L)) := Z3
          walk_at "rd"
          refine r_append 3 Z3 rfl (by show 0 < 100000; decide) ?_
          intro H3 Z4
          have e4 : woken s j = (s, [(("back" : Str), s.number, j)]) := by unfold woken; rw [if_pos e]
          refine ⟨rfl, F3, [.ref p2], ?_, s3, ?_⟩
          · rw [e4]
            exact Z4
          · rw [e4]
            exact .cons (Td.mk_lt e3) .nil
        refine ifb (fun e => ?_) (fun e => ?_)
        · refine ifT rfl ?_
          exact hyes _ rfl (by rw [show s.first = true from e]; rfl)
        · walk_at "rd"
          refine fl_waker O (Z.get (i := 0) rfl) ?_
          walk_at "rd"
          rw [dec_kOf, Bool.not_not]
          refine ifb (fun e2 => ?_) (fun e2 => ?_)
          · exact hyes _ rfl (by rw [show s.waker.isSome = true from e2, Bool.or_true])
          · walk_at "rd"
            refine sf_waker O Z ?_
            intro H2 Z2
            have e4 : woken s j = ({ s with waker := some j }, []) := by unfold woken; rw [if_neg (by rw [show s.first = false from e, show s.waker.isSome = false from e2]; decide)]
            refine ⟨rfl, F, [], ?_, Same.refl _, ?_⟩
            · rw [e4]
              exact Z2
            · rw [e4]
              exact .nil
      · rintro σ' H' ⟨rfl, F2, vs, Z2, s2, hd⟩
        have hs2 : HsF F2 r (woken s j).1 := by
          unfold woken
          split
          · exact hs.up s2
          · exact (hs.up s2).waker _
        have hw : (woken s j).2.length ≤ 1 := by
          unfold woken
          split
          · exact Nat.le_refl 1
          · exact Nat.zero_le 1
        walk_at "rd"
        refine ifd (fun ea => ?_) (fun ea => ?_)
        · walk_at "rd"
          refine ⟨ty_l (SqL.of (Z2.get (i := 3) rfl)), ?_⟩
          walk_at "rd"
          refine r_methQ (Z2.get (i := 0) rfl) rfl ?_
          walk_at "rd"
          refine ⟨F0, H0, F2, (pf, .lst vs) :: L, r, (woken s j).1, j, rfl, rfl, Z2, hs2, ?_⟩
          intro F3 H3 l ws Z3 s3 hd3
          walk_at "rd"
          refine r_extend 4 Z3 rfl (Z3.get (i := 0) rfl) ?_ ?_
          · have h1 := hd.len
            have h2 := hd3.len
            have h3 := len_askedBy (j := j) hs2
            rw [len_dLts] at h1 h2
            omega
          · intro H4 Z4
            have e : come1 s w j = ((askedBy (woken s j).1 j).1, (woken s j).2 ++ (askedBy (woken s j).1 j).2) := by
              unfold come1
              rw [if_neg ew]
              simp only [if_pos ea]
            refine ⟨rfl, F3, vs ++ ws, ?_, s2.trans s3, ?_⟩
            · rw [e]
              exact Z4.drop
            · rw [e]
              show TdA F3 (vs ++ ws) (dLts ((woken s j).2 ++ (askedBy (woken s j).1 j).2))
              unfold dLts
              rw [List.map_append]
              exact (hd.up s3).append hd3
        · walk_at "rd"
          refine ⟨ty_l (SqL.of (Z2.get (i := 3) rfl)), ?_⟩
          walk_at "rd"
          refine r_methQ (Z2.get (i := 0) rfl) rfl ?_
          walk_at "rd"
          refine ⟨F0, H0, F2, (pf, .lst vs) :: L, r, (woken s j).1, j, rfl, rfl, Z2, hs2, ?_⟩
          intro F3 H3 l ws Z3 s3 hd3
          walk_at "rd"
          refine r_extend 4 Z3 rfl (Z3.get (i := 0) rfl) ?_ ?_
          · have h1 := hd.len
            have h2 := hd3.len
            have h3 := len_toldBy (j := j) hs2
            rw [len_dLts] at h1 h2
            omega
          · intro H4 Z4
            have e : come1 s w j = ((toldBy (woken s j).1 j).1, (woken s j).2 ++ (toldBy (woken s j).1 j).2) := by
              unfold come1
              rw [if_neg ew]
              simp only [if_neg ea]
            refine ⟨rfl, F3, vs ++ ws, ?_, s2.trans s3, ?_⟩
            · rw [e]
              exact Z4.drop
            · rw [e]
              show TdA F3 (vs ++ ws) (dLts ((woken s j).2 ++ (toldBy (woken s j).1 j).2))
              unfold dLts
              rw [List.map_append]
              exact (hd.up s3).append hd3
  · rintro σ' H' ⟨rfl, F2, vs, Z2, s2, hd⟩
    have hlen : (come1 s w j).2.length ≤ 20000 := by
      have hw : (woken s j).2.length ≤ 1 := by
        unfold woken
        split
        · exact Nat.le_refl 1
        · exact Nat.zero_le 1
      have hs2 : HsF F r (woken s j).1 := by
        unfold woken
        split
        · exact hs
        · exact hs.waker _
      have h1 := len_askedBy (j := j) hs2
      have h2 := len_toldBy (j := j) hs2
      unfold come1
      split
      · exact Nat.zero_le _
      · simp only []
        split
        · rw [List.length_append]; omega
        · rw [List.length_append]; omega
    have hstop : settle (come1 s w j).1 = ((come1 s w j).1, []) → Q (.ref pf) H' := fun e => by
      have e2 : come s w j = come1 s w j := by
        unfold come
        simp only [e, List.append_nil]
      rw [e2] at k
      exact k F2 H' pf vs (hL_out Z2) s2 hd
    refine r_cut (fun σ' H' => σ' = [some (.ref r.x), some (.ref p), some (.str w), some (.int j), some (.int me), some (.ref pf)] ∧ Q (.ref pf) H') ?_ ?_
    · walk_at "rd"
      refine fl_owed O (Z2.get (i := 0) rfl) ?_
      walk_at "rd"
      refine ifd (fun e0 => ?_) (fun e0 => ?_)
      · walk_at "rd"
        refine fl_waker O (Z2.get (i := 0) rfl) ?_
        walk_at "rd"
        rw [dec_kOf, Bool.not_not]
        refine ifb (fun e2 => ?_) (fun e2 => ?_)
        · obtain ⟨kk, ek⟩ := Option.isSome_iff_exists.mp e2
          walk_at "rd"
          refine ⟨ty_l (SqL.of (Z2.get (i := 3) rfl)), ?_⟩
          walk_at "rd"
          refine fl_number O (Z2.get (i := 0) rfl) ?_
          walk_at "rd"
          refine fl_waker O (Z2.get (i := 0) rfl) ?_
          rw [ek]
          walk_at "rd"
          refine r_mk sz3 Z2 ?_
          intro p2 H2 Z3
          obtain ⟨F3, Z3, s3, e3⟩ := Z3.frzAt 0 rfl
          replace Z3 : Zs F0 H0 F3 H2 (hL A r (come1 s w j).1 ((pf, .lst vs) :: L)) := Z3
          walk_at "rd"
          refine r_append 3 Z3 rfl (by have := hd.len; rw [len_dLts] at this; omega) ?_
          intro H3 Z4
          walk_at "rd"
          refine sf_wakerN O (s := (come1 s w j).1) (L := (pf, .lst (vs ++ [.ref p2])) :: L) Z4 ?_
          intro H5 Z5
          refine ⟨rfl, ?_⟩
          have e5 : come s w j = ({ (come1 s w j).1 with waker := none }, (come1 s w j).2 ++ [(("back" : Str), (come1 s w j).1.number, kk)]) := by
            unfold come settle
            simp only [ek, if_pos e0]
          rw [e5] at k
          refine k F3 H5 pf _ (hL_out Z5) (s2.trans s3) ?_
          show TdA F3 (vs ++ [.ref p2]) (dLts ((come1 s w j).2 ++ [(("back" : Str), (come1 s w j).1.number, kk)]))
          unfold dLts
          rw [List.map_append]
          exact (hd.up s3).append (.cons (Td.mk_lt e3) .nil)
        · walk_at "rd"
          refine ⟨rfl, hstop ?_⟩
          unfold settle
          have e3 : (come1 s w j).1.waker = none := Option.isSome_eq_false_iff.mp e2 |> Option.isNone_iff_eq_none.mp
          rw [e3]
      · refine ifF rfl ?_
        walk_at "rd"
        refine ⟨rfl, hstop ?_⟩
        unfold settle
        split
        · rw [if_neg e0]
        · rfl
    · rintro σ2 H2 ⟨rfl, q⟩
      walk_at "rd"
      exact q
end SB
/-! Net.__init__. -/
namespace SB
open PySem L2
/-! ### a comprehension over enumerate whose elements lay cells of their own -/
def CWg (F0 H0 F : Hp) (P : Nat → List V → List (Addr × HO) → Hp → Prop) (Dl : Addr) (i : Nat) (H' : Hp) : Prop := ∃ F' acc M, Zs F0 H0 F' H' ((Dl, .lst acc) :: M) ∧ Same F F' ∧ acc.length ≤ i ∧ P i acc M F'
def CYg (F0 H0 F : Hp) (P : Nat → List V → List (Addr × HO) → Hp → Prop) (Dl : Addr) (i : Nat) (y : V) (H4 : Hp) : Prop := ∃ acc, H4 Dl = some (.lst acc) ∧ acc.length < sizeLine ∧ CWg F0 H0 F P Dl (i + 1) (upd H4 Dl (.lst (acc ++ [y])))
section
variable {K : PySem.W.Frag} {σ : St} {F0 H0 F H : Hp} {L : List (Addr × HO)} {Q : VK} {te : TE} {tt : TT} {vs : List Nat} {g : TG} {a : Addr} {xs : List V} {P : Nat → List V → List (Addr × HO) → Hp → Prop}
theorem cyG {Dl : Addr} {i : Nat} {y : V} {F4 H4 : Hp} {acc : List V} {M : List (Addr × HO)} (Z : Zs F0 H0 F4 H4 ((Dl, .lst acc) :: M)) (s : Same F F4) (hl : acc.length ≤ i) (hi : i < 100000) (p : P (i + 1) (acc ++ [y]) M F4) : CYg F0 H0 F P Dl i y H4 :=
  ⟨acc, Z.get (i := 0) rfl, sz_lt (by omega), F4, acc ++ [y], M, Z.setAt 0 rfl, s, by rw [List.length_append, List.length_singleton]; omega, p⟩
theorem lc_enmG (hx : SqL K H a xs) (Z : Zs F0 H0 F H L) (P : Nat → List V → List (Addr × HO) → Hp → Prop) (h0 : P 0 [] L F) (hsrc : ∀ i Dl acc M F' H', Zs F0 H0 F' H' ((Dl, .lst acc) :: M) → Same F F' → P i acc M F' → SqL K H' a xs)
    (hs : ∀ (i : Nat) x T Dl F' H' acc M, xs[i]? = some x → Zs F0 H0 F' H' ((T, .tup [.int (i : Nat), x]) :: (Dl, .lst acc) :: M) → Same F F' → acc.length ≤ i → P i acc M F' →
      g (.ref T) (wipe σ vs) H' fun σ2 H2 => wipe σ2 vs = wipe σ vs ∧ tt σ2 H2 fun b H3 => if b = true then te σ2 H3 (CYg F0 H0 F P Dl i) else CWg F0 H0 F P Dl (i + 1) H3)
    (hd : ∀ Dl F' H' acc M, Zs F0 H0 F' H' ((Dl, .lst acc) :: M) → Same F F' → P xs.length acc M F' → Q (.ref Dl) H') : LRE K g tt te vs σ Q [.ref a] H := by
  refine ⟨a, xs, rfl, hx, fun Dl hD => ⟨fun i m H => m = xs.length - i ∧ i ≤ xs.length ∧ CWg F0 H0 F P Dl i H, ⟨xs.length, rfl, Nat.zero_le _, F, [], L, Z.alloc hD, Same.refl _, Nat.le_refl _, h0⟩, ?_⟩⟩
  rintro i m H' ⟨rfl, hi, p⟩
  obtain ⟨F', acc, M, Z', s', hl, p'⟩ := p
  have q := hsrc i Dl acc M F' H' Z' s' p'
  by_cases hlt : i < xs.length
  · refine .inr ⟨⟨xs, xs[i], q, by simp [hlt]⟩, CWg F0 H0 F P Dl (i + 1), fun H'' p'' => ⟨xs.length - (i + 1), by omega, rfl, hlt, p''⟩, fun x H'' y => ?_⟩
    obtain ⟨T, x', rfl, hT, rfl, hx'⟩ := y
    exact hs i x' T Dl F' _ acc M (hx' xs q) (Z'.alloc hT) s' hl p'
  · have e : i = xs.length := by omega
    subst e
    exact .inl ⟨⟨xs, q, Nat.le_refl _⟩, hd Dl F' H' acc M Z' s' p'⟩
end
/-! ### waits, frozen or not -/
def CellIn (F : Hp) (L : List (Addr × HO)) (a : Addr) (o : HO) : Prop := F a = some o ∨ (a, o) ∈ L
def WsIn (F : Hp) (L : List (Addr × HO)) (w : V) (ws : List Wt) : Prop := ∃ pw xs, w = .ref pw ∧ CellIn F L pw (.lst xs) ∧ xs.length = ws.length ∧ ∀ (i : Nat) (v : V) (wt : Wt), xs[i]? = some v → ws[i]? = some wt → WtIn F L v wt
theorem CellIn.at {F0 H0 F H : Hp} {L L' : List (Addr × HO)} {a : Addr} {o : HO} (c : CellIn F L a o) (Z : Zs F0 H0 F H L') (h : ∀ q ∈ L, q ∈ L') : H a = some o := by
  rcases c with c | c
  · exact Z.fix c
  · exact (Z.led _ (h _ c)).1
theorem CellIn.up {F F' : Hp} {L L' : List (Addr × HO)} {a : Addr} {o : HO} (c : CellIn F L a o) (s : Same F F') (h : ∀ q ∈ L, q ∈ L') : CellIn F' L' a o := by
  rcases c with c | c
  · exact .inl (s _ _ c)
  · exact .inr (h _ c)
theorem WtIn.up {F F' : Hp} {L L' : List (Addr × HO)} {v : V} {wt : Wt} (c : WtIn F L v wt) (s : Same F F') (h : ∀ q ∈ L, q ∈ L') : WtIn F' L' v wt := by
  rcases c with c | ⟨b, os, p, l, e1, e2, e3, e4⟩
  · exact .inl c
  · exact .inr ⟨b, os, p, l, e1, e2, s _ _ e3, CellIn.up e4 s h⟩
theorem WtIn.td {F0 H0 F H : Hp} {L L' : List (Addr × HO)} {v : V} {wt : Wt} (c : WtIn F L v wt) (Z : Zs F0 H0 F H L') (h : ∀ q ∈ L, q ∈ L') : Td H v (dW wt) := by
  rcases c with ⟨rfl, rfl⟩ | ⟨b, os, p, l, rfl, rfl, e3, e4⟩
  · exact .non
  · exact Td.mk_w (Z.fix e3) (CellIn.at e4 Z h)
theorem TdA.of_get {F : Hp} : ∀ {vs : List V} {ds : List PyData}, vs.length = ds.length → (∀ (i : Nat) v d, vs[i]? = some v → ds[i]? = some d → Td F v d) → TdA F vs ds
  | [], [], _, _ => .nil
  | [], _ :: _, h, _ => by simp at h
  | _ :: _, [], h, _ => by simp at h
  | v :: vs, d :: ds, h, k => .cons (k 0 v d rfl rfl) (TdA.of_get (by simpa using h) fun i v d h1 h2 => k (i + 1) v d (by simpa using h1) (by simpa using h2))
theorem WsIn.td {F0 H0 F H : Hp} {L L' : List (Addr × HO)} {w : V} {ws : List Wt} (c : WsIn F L w ws) (Z : Zs F0 H0 F H L') (h : ∀ q ∈ L, q ∈ L') : Td H w (dWs ws) := by
  obtain ⟨pw, xs, rfl, c1, c2, c3⟩ := c
  refine .lst (CellIn.at c1 Z h) (TdA.of_get (by rw [List.length_map]; exact c2) fun i v d h1 h2 => ?_)
  rw [List.getElem?_map] at h2
  cases e : ws[i]? with
  | none => rw [e] at h2; cases h2
  | some wt =>
    rw [e] at h2
    cases h2
    exact (c3 i v wt h1 e).td Z h
theorem WsIn.of {F : Hp} {L : List (Addr × HO)} {w : V} {ws : List Wt} (h : Td F w (dWs ws)) : WsIn F L w ws := by
  obtain ⟨pw, xs, rfl, h1, h2, h3⟩ := Td.inv_ws h
  refine ⟨pw, xs, rfl, .inl h1, h3, fun i v wt e1 e2 => ?_⟩
  obtain ⟨w2, e3, e4⟩ := h2.ws_at e1
  rw [e2] at e3
  cases e3
  cases wt with
  | none => exact .inl ⟨rfl, e4.inv_non⟩
  | some p =>
    obtain ⟨b, os⟩ := p
    obtain ⟨a, l, rfl, k1, k2⟩ := e4.inv_w
    exact .inr ⟨b, os, a, l, rfl, rfl, k1, .inl k2⟩
/-! ### the net that is made -/
def hands0 (ws : List Wt) (k : Nat) : List HS := ws.mapIdx fun i w => mkH (i : Int) w (decide ((i : Int) = (k : Int)))
def handAt (S : List HS) (k : Nat) : HS := S.getD k (mkH 0 none false)
def netS (ws : List Wt) (k : Nat) : NS := { asker := (k : Int), hands := (hands0 ws k).set k (begin (handAt (hands0 ws k) k)).1, row := (begin (handAt (hands0 ws k) k)).2, sent := ((begin (handAt (hands0 ws k) k)).2.length : Int) }
theorem hands0_len (ws : List Wt) (k : Nat) : (hands0 ws k).length = ws.length := by unfold hands0; rw [List.length_mapIdx]
theorem hands0_at {ws : List Wt} {k i : Nat} {w : Wt} (h : ws[i]? = some w) : (hands0 ws k)[i]? = some (mkH (i : Int) w (decide ((i : Int) = (k : Int)))) := by unfold hands0; rw [List.getElem?_mapIdx, h] <;> rfl
theorem handAt_of {S : List HS} {k : Nat} {s : HS} (h : S[k]? = some s) : handAt S k = s := by unfold handAt; rw [List.getD_eq_getElem?_getD, h] <;> rfl
theorem hsL_mem {A : Ad} {L : List (Addr × HO)} {q : Addr × HO} (h : q ∈ L) : ∀ {rs : List HR} {ss : List HS}, q ∈ hsL A rs ss L
  | [], _ => h
  | _ :: _, [] => h
  | _ :: _, _ :: _ => List.mem_cons_of_mem _ (List.mem_cons_of_mem _ (List.mem_cons_of_mem _ (hsL_mem h)))
theorem hsL_end {A : Ad} {L : List (Addr × HO)} {r : HR} {s : HS} {rs : List HR} {ss : List HS} : (hL A r s (hsL A rs ss L)).Perm (hsL A rs ss (hL A r s L)) :=
  ((hsL_mid.trans (List.Perm.cons _ (hsL_mid.trans (List.Perm.cons _ hsL_mid)))).symm)
end SB
/-! Net.__init__, of good waits and a hand, or where it refuses. -/
namespace SB
open PySem L2
def pr_Net_init (K : PySem.W.Frag) (A : Ad) : V → V → V → Hp → VK → XK → Prop := fun x w a H Q E => (∃ (F0 H0 F : Hp) (L : List (Addr × HO)) (xa dx : Addr) (ws : List Wt) (k : Nat), x = .ref xa ∧ a = .int (k : Int) ∧ Zs F0 H0 F H ((xa, .ins A.cNet dx []) :: L) ∧ WsIn F L w ws ∧ OkWs ws ∧ k < ws.length ∧
  ∀ F' H' N rv, Zs F0 H0 F' H' (nL A N (netS ws k) rv L) → Same F F' → N.x = xa → NFz F' N (netS ws k) → TdA F' rv (dLts (netS ws k).row) → Q .non H') ∨
  (∃ (d : PyData) (v : V), Td H w d ∧ SeqAt.shaped d = true ∧ NeedBad d v ∧ BadE A H E v) ∨
  ∃ (ws : List Wt) (d : PyData), Td H w (dWs ws) ∧ OkWs ws ∧ Td H a d ∧ handD d (ws.length : Int) = false ∧ ∀ H', Same H H' → E (.ref A.cNoHand) none H'
abbrev sp_Net_init (K : PySem.W.Frag) (A : Ad) : Sp := sp3 (pr_Net_init K A)
def t_Net_init (K : PySem.W.Frag) (A : Ad) (E : XK) : TS :=
    (tSeq (tDrop (tCall (sp_need K A) [] E (tCons (tVar 1) tNil)))
    (tSeq (sFld K (tVar 0) (tCall (sp_need_hand K A) [] E (tCons (tCB (qLen K) (tCons (tVar 1) tNil)) (tCons (tVar 2) tNil))) "asker")
    (tSeq (sFld K (tVar 0) (tLc (iEnum K (tCons (tVar 1) tNil)) (gTup K 2 (gCons (gName 3) (gCons (gName 4) gNil))) tYes (tMake A.cHand (sp_Hand_init K A) [] E0 (tCons (tVar 3) (tCons (tVar 4) (tCons (tOp rEq (tVar 3) (tVar 2)) tNil)))) [3, 4]) "hands")
    (tSeq (sFld K (tVar 0) (tMeth A.cHand "begin" (sp_Hand_begin K A) [] E0 (tOp (rIxL K) (tFld K (tVar 0) "hands") (tVar 2)) tNil) "row")
    (sFld K (tVar 0) (tCB (qLen K) (tCons (tFld K (tVar 0) "row") tNil)) "posted_so_far")))))
theorem rd_Net_init {K : PySem.W.Frag} {A : Ad} (O : NetOk K A) (O2 : HandOk K A) {x w a : V} {H : Hp} {Q : VK} {E : XK} (h : pr_Net_init K A x w a H Q E) : t_Net_init K A E { nx := fun _ H' => Q .non H', rt := Q } [some x, some w, some a, none, none] H := by
  rcases h with h | ⟨d, v, hd, hs, nb, hb⟩ | ⟨ws, d, hw, ok, hd, hf, q⟩
  rotate_left
  · unfold t_Net_init
    walk_at "rd"
    exact need_bad hd hs nb hb
  · unfold t_Net_init
    have hw0 := hw
    obtain ⟨p, xs, rfl, hp, hx, hl⟩ := Td.inv_ws hw0
    walk_at "rd"
    refine need_good hw ok (fun H1 s1 => ?_)
    walk_at "rd"
    refine r_lenL (SqL.of (s1 _ _ hp)) ?_
    rw [hl]
    walk_at "rd"
    exact ⟨_, d, rfl, hd.up s1, fun h => absurd h (by rw [hf]; exact Bool.false_ne_true), fun _ => q H1 s1⟩
  obtain ⟨F0, H0, F, L, xa, dx, ws, k, rfl, rfl, Z, hw, ok, hk, q⟩ := h
  have o1 := ok.pos
  have o2 := ok.most
  unfold t_Net_init
  walk_at "rd"
  refine need_good (hw.td Z (fun q hq => List.mem_cons_of_mem _ hq)) ok ?_
  intro H1 sm1
  replace Z := Z.ext sm1
  obtain ⟨pw, xs, rfl, c1, c2, c3⟩ := hw
  walk_at "rd"
  refine r_lenL (SqL.of (c1.at Z (fun q hq => List.mem_cons_of_mem _ hq))) ?_
  walk_at "rd"
  refine ⟨_, .int (k : Int), rfl, .int _, fun _ => ?_, fun h => absurd h (by rw [handD_i (by omega) (by omega)]; exact Bool.noConfusion)⟩
  walk_at "rd"
  refine r_sfldQ O.cl O.asker 0 Z rfl (by show 0 < 1000; decide) ?_
  intro H2 Z
  replace Z : Zs F0 H0 F H2 ((xa, .ins A.cNet dx [("asker", .int (k : Int))]) :: L) := Z
  walk_at "rd"
  refine lc_enmG (SqL.of (c1.at Z (fun q hq => List.mem_cons_of_mem _ hq))) Z (fun i acc M F' => ∃ rs : List HR, rs.length = i ∧ acc = rs.map (fun r => .ref r.x) ∧ M = (xa, .ins A.cNet dx [("asker", .int (k : Int))]) :: hsL A rs ((hands0 ws k).take i) L ∧ ∀ (j : Nat) (r : HR) (s : HS), rs[j]? = some r → (hands0 ws k)[j]? = some s → F' r.o = some (.lst (s.others.map V.int))) ?_ ?_ ?_ ?_
  · exact ⟨[], rfl, rfl, rfl, fun j r s h => by simp at h⟩
  · rintro i Dl acc M F' H' Z' sm ⟨rs, _, _, rfl, _⟩
    exact SqL.of ((c1.up sm (fun q hq => List.mem_cons_of_mem _ (List.mem_cons_of_mem _ (hsL_mem hq)))).at Z' (fun q hq => hq))
  · rintro i y T Dl F' H' acc M hy Z' sm hacc ⟨rs, hrl, rfl, rfl, ho⟩
    have hilt := (List.getElem?_eq_some_iff.mp hy).1
    have ewi : ws[i]? = some (ws[i]'(by omega)) := List.getElem?_eq_getElem (by omega)
    have hwi := c3 i y _ hy ewi
    generalize ws[i]'(by omega) = wt at ewi hwi
    refine r_gt2 (SqT.of (Z'.get (i := 0) rfl)) ?_
    replace Z' := Z'.drop
    dsimp only [wipe, List.set_cons_succ, List.set_cons_zero, List.foldl_cons, List.foldl_nil]
    refine ⟨rfl, ?_⟩
    refine r_yes (ifT rfl ?_)
    walk_at "rd"
    refine r_makeQ Z' ?_
    intro xh dh H3 Z3
    walk_at "rd"
    refine ⟨F0, H0, F', _, xh, dh, (i : Int), wt, _, rfl, rfl, rfl, hwi.up sm (fun q hq => List.mem_cons_of_mem _ (List.mem_cons_of_mem _ (hsL_mem hq))), Z3, ?_⟩
    rintro F4 H4 r Z4 s4 rfl e4
    refine ⟨rfl, ?_⟩
    have eh := hands0_at (k := k) ewi
    have hl2 : ((hands0 ws k).take i).length = rs.length := by rw [List.length_take, hands0_len, hrl]; omega
    refine cyG (M := (xa, .ins A.cNet dx [("asker", .int (k : Int))]) :: hsL A (rs ++ [r]) ((hands0 ws k).take (i + 1)) L) ?_ (sm.trans s4) hacc (by omega) ?_
    · rw [take_snoc eh, hsL_snoc hl2.symm]
      refine Z4.perm ?_
      refine (List.perm_append_comm_assoc (hL A r _ []) [(Dl, _), (xa, _)] _).trans ?_
      exact List.Perm.cons _ (List.Perm.cons _ hsL_end)
    · refine ⟨rs ++ [r], by rw [List.length_append, hrl] <;> rfl, by rw [List.map_append] <;> rfl, rfl, ?_⟩
      intro j r2 s2 h1 h2
      rw [List.getElem?_append] at h1
      split at h1
      · exact s4 _ _ (ho j r2 s2 h1 h2)
      · rename_i hj
        have ej : j = i := by
          have := (List.getElem?_eq_some_iff.mp h1).1
          rw [List.length_singleton] at this
          omega
        subst ej
        rw [hrl, Nat.sub_self] at h1
        cases h1
        rw [eh] at h2
        cases h2
        exact e4
  · rintro Dl F' H' acc M Z' sm ⟨rs, hrl, rfl, rfl, ho⟩
    obtain ⟨F1, Z1, s1, e1⟩ := Z'.frzAt 0 rfl
    have htk : (hands0 ws k).take xs.length = hands0 ws k := by rw [c2, ← hands0_len ws k, List.take_length]
    rw [htk] at Z1
    replace Z1 : Zs F0 H0 F1 H' ((xa, .ins A.cNet dx [("asker", .int (k : Int))]) :: hsL A rs (hands0 ws k) L) := Z1
    walk_at "rd"
    refine r_sfldQ O.cl O.hands 0 Z1 rfl (by show 1 < 1000; decide) ?_
    intro H3 Z3
    replace Z3 : Zs F0 H0 F1 H3 ((xa, .ins A.cNet dx [("asker", .int (k : Int)), ("hands", .ref Dl)]) :: hsL A rs (hands0 ws k) L) := Z3
    walk_at "rd"
    refine r_fldQ O.cl O.hands (Z3.get (i := 0) rfl) rfl ?_
    have hkr : k < rs.length := by omega
    have er : rs[k]? = some rs[k] := List.getElem?_eq_getElem hkr
    have es : (hands0 ws k)[k]? = some (handAt (hands0 ws k) k) := by
      have hlt : k < (hands0 ws k).length := by rw [hands0_len]; exact hk
      rw [handAt_of (List.getElem?_eq_getElem hlt), List.getElem?_eq_getElem hlt]
    have hoth := ho k _ _ er es
    generalize rs[k] = r at er hoth
    walk_at "rd"
    have hix : (rs.map fun r => V.ref r.x)[k]? = some (.ref r.x) := by rw [List.getElem?_map, er] <;> rfl
    refine r_ixL (SqL.of (Z3.fix e1)) (atI_nat hix) ?_
    have Z4 : Zs F0 H0 F1 H3 (hL A r (handAt (hands0 ws k) k) ((xa, .ins A.cNet dx [("asker", .int (k : Int)), ("hands", .ref Dl)]) :: hsL A (rs.eraseIdx k) ((hands0 ws k).eraseIdx k) L)) :=
      Z3.perm ((List.Perm.cons _ (hsL_out er es)).trans (List.perm_append_comm_assoc [(xa, _)] (hL A r (handAt (hands0 ws k) k) []) _))
    refine r_methQ (Z4.get (i := 0) rfl) rfl ?_
    walk_at "rd"
    have hn : (handAt (hands0 ws k) k).others.length ≤ 10000 := by
      have ewk : ws[k]? = some ws[k] := List.getElem?_eq_getElem hk
      have := hands0_at (k := k) ewk
      rw [handAt_of this]
      have hok := ok.all _ (List.mem_of_getElem? ewk)
      generalize ws[k] = wt at hok
      cases wt with
      | none => exact Nat.zero_le _
      | some p =>
        obtain ⟨b, os⟩ := p
        have h1 := nodup_bound hok.2.1 hok.2.2
        show os.length ≤ 10000
        omega
    refine ⟨F0, H0, F1, _, r, handAt (hands0 ws k) k, rfl, Z4, s1 _ _ hoth, hn, ?_⟩
    intro F5 H5 l vs Z5 s5 hv
    walk_at "rd"
    refine r_sfldQ O.cl O.row 4 Z5 rfl (by show 2 < 1000; decide) ?_
    intro H6 Z6
    walk_at "rd"
    refine r_fldQ O.cl O.row (Z6.get (i := 4) rfl) rfl ?_
    walk_at "rd"
    refine r_lenL (SqL.of (Z6.get (i := 0) rfl)) ?_
    walk_at "rd"
    refine r_sfldQ O.cl O.sent 4 Z6 rfl (by show 3 < 1000; decide) ?_
    intro H7 Z7
    have hvl := hv.len
    rw [len_dLts] at hvl
    have e8 : nI A ⟨xa, dx, Dl, l, rs⟩ (netS ws k) = .ins A.cNet dx [("asker", .int (k : Int)), ("hands", .ref Dl), ("row", .ref l), ("posted_so_far", .int (vs.length : Int))] := by rw [hvl]; rfl
    have Z8 : Zs F0 H0 F5 H7 ((l, .lst vs) :: hL A r (begin (handAt (hands0 ws k) k)).1 ((xa, nI A ⟨xa, dx, Dl, l, rs⟩ (netS ws k)) :: hsL A (rs.eraseIdx k) ((hands0 ws k).eraseIdx k) L)) := by rw [e8]; exact Z7
    refine q F5 H7 ⟨xa, dx, Dl, l, rs⟩ vs (Z8.perm ?_) ((sm.trans s1).trans s5) rfl ?_ hv
    · refine (List.Perm.cons _ (List.perm_append_comm_assoc (hL A r _ []) [(xa, _)] _)).trans ?_
      refine (List.Perm.swap _ _ _).trans ?_
      exact List.Perm.cons _ (List.Perm.cons _ (hsL_in er es))
    · refine ⟨s5 _ _ e1, ?_, ?_⟩
      · show rs.length = ((hands0 ws k).set k _).length
        rw [List.length_set, hands0_len, hrl, c2]
      · intro j r2 s2 h1 h2
        have h2' : ((hands0 ws k).set k (begin (handAt (hands0 ws k) k)).1)[j]? = some s2 := h2
        rw [List.getElem?_set] at h2'
        split at h2'
        · rename_i e
          subst e
          split at h2'
          · cases h2'
            replace h1 : rs[k]? = some r2 := h1
            rw [er] at h1
            cases h1
            have kb : (begin (handAt (hands0 ws k) k)).1.others = (handAt (hands0 ws k) k).others := by
              unfold begin
              split <;> rfl
            rw [kb]
            exact s5 _ _ (s1 _ _ hoth)
          · cases h2'
        · exact s5 _ _ (s1 _ _ (ho j r2 s2 h1 h2'))
end SB
/-! Net.bring of a place that is one. -/
namespace SB
open PySem L2
structure NBd (S : NS) : Prop where
  hands : ∀ s ∈ S.hands, s.others.length ≤ 10000 ∧ s.askers.length ≤ 10000 ∧ s.told.length ≤ 10000
  row : S.row.length ≤ 50000
/-- what bring makes of the state, what it tells -/
def bringS (S : NS) (p : Nat) (l : Lt) (s : HS) : NS := { S with hands := S.hands.set l.2.2.toNat (come s l.1 l.2.1).1, row := S.row.eraseIdx p ++ (come s l.1 l.2.1).2, sent := S.sent + ((come s l.1 l.2.1).2.length : Int) }
theorem dLts_app (a b : List Lt) : dLts (a ++ b) = dLts a ++ dLts b := by unfold dLts; rw [List.map_append]
theorem len_comeN {s : HS} {w : Str} {j : Int} {F : Hp} {r : HR} (h : HsF F r s) : (come s w j).2.length ≤ 20010 := by
  have hw : (woken s j).2.length ≤ 1 := by
    unfold woken
    split
    · exact Nat.le_refl 1
    · exact Nat.zero_le 1
  have hs2 : HsF F r (woken s j).1 := by
    unfold woken
    split
    · exact h
    · exact h.waker _
  have h1 := len_askedBy (j := j) hs2
  have h2 := len_toldBy (j := j) hs2
  have h3 : (come1 s w j).2.length ≤ 20001 := by
    unfold come1
    split
    · exact Nat.zero_le _
    · simp only []
      split
      · rw [List.length_append]; omega
      · rw [List.length_append]; omega
  have h4 : ∀ t : HS, (settle t).2.length ≤ 1 := fun t => by
    unfold settle
    split
    · split
      · exact Nat.le_refl 1
      · exact Nat.zero_le 1
    · exact Nat.zero_le 1
  have h5 := h4 (come1 s w j).1
  unfold come
  simp only []
  rw [List.length_append]
  omega
end SB
/-! Net.bring of a place that is one, or none. -/
namespace SB
open PySem L2
def pr_Net_bring (K : PySem.W.Frag) (A : Ad) : V → V → Hp → VK → XK → Prop := fun x y H Q E => (∃ (F0 H0 F : Hp) (L : List (Addr × HO)) (N : NR) (S : NS) (rv : List V) (p : Nat) (l : Lt) (i : Nat) (s : HS), x = .ref N.x ∧ y = .int (p : Int) ∧ Zs F0 H0 F H (nL A N S rv L) ∧ NFz F N S ∧ TdA F rv (dLts S.row) ∧ NBd S ∧ S.row[p]? = some l ∧ l.2.2 = (i : Int) ∧ S.hands[i]? = some s ∧
  ∀ F' H' q vs rv', Zs F0 H0 F' H' ((q, .lst vs) :: nL A N (bringS S p l s) rv' L) → Same F F' → NFz F' N (bringS S p l s) → TdA F' rv' (dLts (bringS S p l s).row) → TdA F' vs (dLts (come s l.1 l.2.1).2) → Q (.ref q) H') ∨
  ∃ (N : NR) (S : NS) (d : PyData), x = .ref N.x ∧ NetH A H N S ∧ Td H y d ∧ handD d (S.row.length : Int) = false ∧ E (.ref A.cNoLetter) none H
abbrev sp_Net_bring (K : PySem.W.Frag) (A : Ad) : Sp := sp2 (pr_Net_bring K A)
def t_Net_bring (K : PySem.W.Frag) (A : Ad) (E : XK) : TS :=
    (tSeq (tIfS (tNot (tB (tCall (sp_is_hand K A) [] E0 (tCons (tVar 1) (tCons (tCB (qLen K) (tCons (tFld K (tVar 0) "row") tNil)) tNil)))))
    (tRaise (tMkN A.cNoLetter) E)
    tNext)
    (tSeq (tAsg (tBM K "list" rPopAt (tFld K (tVar 0) "row") (tCons (tVar 1) tNil)) (gName 2))
    (tSeq (tAsg (tMeth A.cHand "come" (sp_Hand_come K A) [] E0 (tOp (rIxL K) (tFld K (tVar 0) "hands") (tOp (rIxT K) (tVar 2) (tC (.int 2)))) (tCons (tVar 2) tNil)) (gName 3))
    (tSeq (tDrop (tBM K "list" rExtend (tFld K (tVar 0) "row") (tCons (tVar 3) tNil)))
    (tSeq (sFld K (tVar 0) (tOp qAdd (tFld K (tVar 0) "posted_so_far") (tCB (qLen K) (tCons (tVar 3) tNil))) "posted_so_far")
    (tRet (tCB (qListOf K) (tCons (tVar 3) tNil))))))))
theorem rd_Net_bring {K : PySem.W.Frag} {A : Ad} (O : NetOk K A) (O2 : HandOk K A) {x y : V} {H : Hp} {Q : VK} {E : XK} (h : pr_Net_bring K A x y H Q E) : t_Net_bring K A E { nx := fun _ H' => Q .non H', rt := Q } [some x, some y, none, none] H := by
  rcases h with h | ⟨N, S, d, rfl, n, hd, hf, q⟩
  rotate_left
  · obtain ⟨rv, hrl, hrv⟩ := n.row
    have hl := hrv.len
    rw [len_dLts] at hl
    unfold t_Net_bring
    walk_at "rd"
    refine fn_row O n.x ?_
    walk_at "rd"
    refine r_lenL (SqL.of hrl) ?_
    rw [hl]
    walk_at "rd"
    refine ⟨d, _, hd, rfl, ?_⟩
    rw [hf]
    walk_at "rd"
    refine ifT rfl ?_
    exact r_raiseN q
  obtain ⟨F0, H0, F, L, N, S, rv, p, l, i, s, rfl, rfl, Z, f, hr, b, hl, li, hs, k⟩ := h
  have hplt := (List.getElem?_eq_some_iff.mp hl).1
  have hrl := hr.len
  rw [len_dLts] at hrl
  have hilt := (List.getElem?_eq_some_iff.mp hs).1
  have hilt2 : i < N.hr.length := by rw [f.len]; exact hilt
  have er : N.hr[i]? = some N.hr[i] := List.getElem?_eq_getElem hilt2
  generalize N.hr[i] = r at er
  unfold t_Net_bring
  walk_at "rd"
  refine fn_row O (Z.get (i := 0) rfl) ?_
  walk_at "rd"
  refine r_lenL (SqL.of (Z.get (i := 1) rfl)) ?_
  walk_at "rd"
  refine ⟨.int (p : Int), (rv.length : Int), .int _, rfl, ?_⟩
  have ei : handD (.int (p : Int)) (rv.length : Int) = true := by
    show (decide (0 ≤ (p : Int)) && decide ((p : Int) < (rv.length : Int))) = true
    rw [decide_eq_true (by omega), decide_eq_true (by omega)] <;> rfl
  rw [ei]
  walk_at "rd"
  refine ifF rfl ?_
  walk_at "rd"
  refine fn_row O (Z.get (i := 0) rfl) ?_
  refine ⟨ty_l (SqL.of (Z.get (i := 1) rfl)), ?_⟩
  walk_at "rd"
  have hdl : (dLts S.row)[p]? = some (dLt l) := by unfold dLts; rw [List.getElem?_map, hl] <;> rfl
  obtain ⟨y, hy, hy2⟩ := hr.get hdl
  obtain ⟨pl, rfl, hpl⟩ := hy2.inv_lt
  have hbr := b.row
  refine r_popAt 1 (j := p) Z rfl rfl (by omega) hy ?_
  intro H1 Z1
  replace Z1 : Zs F0 H0 F H1 (nL A N S (rv.eraseIdx p) L) := Z1
  walk_at "rd"
  refine fn_hands O (Z1.get (i := 0) rfl) ?_
  walk_at "rd"
  refine r_ixT (SqT.of (Z1.fix hpl)) (at_i (by decide) rfl) ?_
  rw [li]
  have hix : (N.hr.map fun r => V.ref r.x)[i]? = some (.ref r.x) := by rw [List.getElem?_map, er] <;> rfl
  refine r_ixL (SqL.of (Z1.fix f.hl)) (atI_nat hix) ?_
  have Z2 : Zs F0 H0 F H1 (hL A r s ((N.x, nI A N S) :: (N.rl, .lst (rv.eraseIdx p)) :: hsL A (N.hr.eraseIdx i) (S.hands.eraseIdx i) L)) :=
    Z1.perm ((List.Perm.cons _ (List.Perm.cons _ (hsL_out er hs))).trans (List.perm_append_comm_assoc [(N.x, nI A N S), (N.rl, HO.lst (rv.eraseIdx p))] (hL A r s []) _))
  refine r_methQ (Z2.get (i := 0) rfl) rfl ?_
  walk_at "rd"
  have hb := b.hands s (List.mem_of_getElem? hs)
  have hf : HsF F r s := ⟨f.oth i r s er hs, hb.1, hb.2.1, hb.2.2⟩
  refine ⟨F0, H0, F, _, r, s, l.1, l.2.1, l.2.2, pl, rfl, rfl, hpl, Z2, hf, ?_⟩
  have hcl := len_comeN (w := l.1) (j := l.2.1) hf
  intro F3 H3 q vs Z3 s3 hv
  have Z4 : Zs F0 H0 F3 H3 ((q, .lst vs) :: (N.x, nI A N S) :: (N.rl, .lst (rv.eraseIdx p)) :: hsL A N.hr (S.hands.set i (come s l.1 l.2.1).1) L) := by
    refine Z3.perm (List.Perm.cons _ ?_)
    refine (List.perm_append_comm_assoc (hL A r (come s l.1 l.2.1).1 []) [(N.x, nI A N S), (N.rl, HO.lst (rv.eraseIdx p))] _).trans ?_
    exact List.Perm.cons _ (List.Perm.cons _ (hsL_in er hs))
  walk_at "rd"
  refine fn_row O (Z4.get (i := 1) rfl) ?_
  refine ⟨ty_l (SqL.of (Z4.get (i := 2) rfl)), ?_⟩
  walk_at "rd"
  have hvl := hv.len
  rw [len_dLts] at hvl
  refine r_extend 2 Z4 rfl (Z4.get (i := 0) rfl) (by rw [List.length_eraseIdx_of_lt (by omega)]; omega) ?_
  intro H5 Z5
  walk_at "rd"
  refine fn_sent O (Z5.get (i := 1) rfl) ?_
  walk_at "rd"
  refine r_lenL (SqL.of (Z5.get (i := 0) rfl)) ?_
  walk_at "rd"
  refine r_sfldQ O.cl O.sent 1 Z5 rfl (by show 4 < 1000; decide) ?_
  intro H6 Z6
  have e1 : (bringS S p l s).hands = S.hands.set i (come s l.1 l.2.1).1 := by
    show S.hands.set l.2.2.toNat _ = _
    rw [li, Int.toNat_natCast]
  replace Z6 : Zs F0 H0 F3 H6 ((q, .lst vs) :: (N.x, nI A N (bringS S p l s)) :: (N.rl, .lst (rv.eraseIdx p ++ vs)) :: hsL A N.hr (S.hands.set i (come s l.1 l.2.1).1) L) := by
    have e2 : nI A N (bringS S p l s) = .ins A.cNet N.dx (putF "posted_so_far" (.int (S.sent + (vs.length : Int))) (nf S N.hl N.rl)) := by
      rw [hvl]
      rfl
    rw [e2]
    exact Z6
  rw [← e1] at Z6
  walk_at "rd"
  refine r_listL (SqL.of (Z6.get (i := 0) rfl)) Z6 ?_
  intro q2 H7 Z7
  refine k F3 H7 q2 vs (rv.eraseIdx p ++ vs) (Z7.dropAt 1) s3 ?_ ?_ hv
  · refine ⟨s3 _ _ f.hl, ?_, ?_⟩
    · rw [e1, List.length_set]; exact f.len
    · intro j r2 s2 h1 h2
      rw [e1, List.getElem?_set] at h2
      split at h2
      · rename_i e
        subst e
        cases h2
        rw [er] at h1
        cases h1
        rw [keep_come.others]
        exact s3 _ _ (f.oth i r s er hs)
      · exact s3 _ _ (f.oth j r2 s2 h1 h2)
  · show TdA F3 (rv.eraseIdx p ++ vs) (dLts (S.row.eraseIdx p ++ (come s l.1 l.2.1).2))
    rw [dLts_app]
    refine TdA.append ?_ hv
    have e3 : dLts (S.row.eraseIdx p) = (dLts S.row).eraseIdx p := by
      unfold dLts
      exact map_eraseIdx dLt _ _
    rw [e3]
    exact (hr.up s3).erase p
end SB
/-! Law k11: a deed that may be refused. -/
namespace SB
open PySem L2
structure ErrOk2 (K : PySem.W.Frag) (A : Ad) : Prop extends ErrOk K A where
  kBB : PySem.W.kitOne K (.ref A.cBadWaits) (.ref A.cBadWaits) = some true
  cH : ErrC K A.cNoHand
  kHH : PySem.W.kitOne K (.ref A.cNoHand) (.ref A.cNoHand) = some true
  kHL : PySem.W.kitOne K (.ref A.cNoHand) (.ref A.cNoLetter) = some false
  kHB : PySem.W.kitOne K (.ref A.cNoHand) (.ref A.cBadWaits) = some false
  kHV : PySem.W.kitOne K (.ref A.cNoHand) (.type "ValueError") = some true
  xHh : PySem.W.exmOne K (.ref A.cNoHand) (.ref A.cNoHand) = some true
  xHl : PySem.W.exmOne K (.ref A.cNoHand) (.ref A.cNoLetter) = some false
  xHb : PySem.W.exmOne K (.ref A.cNoHand) (.ref A.cBadWaits) = some false
  xHe : PySem.W.exmOne K (.ref A.cNoHand) (.ref A.cBellError) = some true
  cL : ErrC K A.cNoLetter
  kLH : PySem.W.kitOne K (.ref A.cNoLetter) (.ref A.cNoHand) = some false
  kLL : PySem.W.kitOne K (.ref A.cNoLetter) (.ref A.cNoLetter) = some true
  kLB : PySem.W.kitOne K (.ref A.cNoLetter) (.ref A.cBadWaits) = some false
  kLV : PySem.W.kitOne K (.ref A.cNoLetter) (.type "ValueError") = some true
  xLh : PySem.W.exmOne K (.ref A.cNoLetter) (.ref A.cNoHand) = some false
  xLl : PySem.W.exmOne K (.ref A.cNoLetter) (.ref A.cNoLetter) = some true
  xLb : PySem.W.exmOne K (.ref A.cNoLetter) (.ref A.cBadWaits) = some false
  xLe : PySem.W.exmOne K (.ref A.cNoLetter) (.ref A.cBellError) = some true
  xBh : PySem.W.exmOne K (.ref A.cBadWaits) (.ref A.cNoHand) = some false
  xBl : PySem.W.exmOne K (.ref A.cBadWaits) (.ref A.cNoLetter) = some false
/-- how a deed ends -/
inductive Res
  | ok
  | hand
  | letter
  | waits (v : V)
def vD : V → PyData
  | .int i => .int i
  | _ => .none
def resD : Res → PyData
  | .ok => .str ""
  | .hand => .str "hand"
  | .letter => .str "letter"
  | .waits v => .tuple [.str "waits", vD v]
def ResE (A : Ad) (H : Hp) (Q : VK) (E : XK) : Res → Prop
  | .ok => ∀ H', Same H H' → Q .non H'
  | .hand => ∀ H', Same H H' → E (.ref A.cNoHand) none H'
  | .letter => ∀ H', Same H H' → E (.ref A.cNoLetter) none H'
  | .waits v => BadE A H E v
def BadW (H : Hp) (w : V) (R : Res) : Prop := ∃ d v, R = .waits v ∧ Td H w d ∧ SeqAt.shaped d = true ∧ NeedBad d v
def DeedP (A : Ad) (H : Hp) (k : Nat) (w n x h : V) (R : Res) : Prop := ∃ (N : NR) (S : NS) (dx : PyData), n = .ref N.x ∧ NetH A H N S ∧ Td H x dx ∧
  ((k = 0 ∧ (BadW H w R ∨ (R = .hand ∧ ∃ ws, Td H w (dWs ws) ∧ OkWs ws ∧ handD dx (ws.length : Int) = false))) ∨
   (k = 1 ∧ (BadW H w R ∨ (R = .hand ∧ ∃ ws hs, Td H w (dWs ws) ∧ OkWs ws ∧ Td H h (.list hs) ∧ ∃ y ∈ hs, handD y (ws.length : Int) = false))) ∨
   ((k = 2 ∨ k = 3 ∨ k = 4) ∧ R = .hand ∧ handD dx (S.hands.length : Int) = false) ∨
   (k = 5 ∧ R = .letter ∧ handD dx (S.row.length : Int) = false) ∨
   ((k = 6 ∨ k = 7) ∧ (BadW H w R ∨ (R = .ok ∧ ∃ ws, Td H w (dWs ws) ∧ OkWs ws))))
def pr_deed (K : PySem.W.Frag) (A : Ad) : V → V → V → V → V → Hp → VK → XK → Prop := fun a w n x h H Q E => ∃ (k : Nat) (R : Res), a = .int (k : Int) ∧ DeedP A H k w n x h R ∧ ResE A H Q E R
abbrev sp_deed (K : PySem.W.Frag) (A : Ad) : Sp := sp5 (pr_deed K A)
section
variable {σ : St} {H : Hp} {D : Ends} {t u : TS} {k : Nat} {j : Int}
theorem cut_no (h0 : σ[0]? = some (some (.int (k : Int)))) (hne : (k : Int) ≠ j) (h : u D σ H) : Evl.tCut (tIfS (tTest (tOp rEq (tVar 0) (tC (.int j)))) t tNext) u D σ H := by
  refine r_cut (fun σ' H' => σ' = σ ∧ H' = H) ?_ ?_
  · refine r_ifS (r_test (r_op (r_var h0 (r_c (r_eqI (r_bl ?_))))))
    exact ifF (decide_eq_false hne) ⟨rfl, rfl⟩
  · rintro σ' H' ⟨rfl, rfl⟩
    exact h
theorem cut_yes (h0 : σ[0]? = some (some (.int (k : Int)))) (he : (k : Int) = j) (h : t { D with nx := u D } σ H) : Evl.tCut (tIfS (tTest (tOp rEq (tVar 0) (tC (.int j)))) t tNext) u D σ H := by
  refine r_cut (u D) ?_ (fun _ _ z => z)
  refine r_ifS (r_test (r_op (r_var h0 (r_c (r_eqI (r_bl ?_))))))
  exact ifT (decide_eq_true he) h
end
theorem same2 {H : Hp} {a b : Addr} {o u : HO} (ha : H a = none) (hb : H b = none) : Same H (upd (upd H b u) a o) := fun c v e => by
  rw [upd_ne (ne_of_none e ha), upd_ne (ne_of_none e hb)]
  exact e
theorem hand_absurd {d : PyData} {i m : Nat} {P : Prop} (e : d = .int (i : Int)) (hl : i < m) (hf : handD d (m : Int) = false) : P := by
  rw [e, handD_i (by omega) (by omega)] at hf
  cases hf
def t_deed (K : PySem.W.Frag) (A : Ad) (E : XK) : TS :=
    (Evl.tCut (tIfS (tTest (tOp rEq (tVar 0) (tC (.int 0))))
    (tDrop (tMake A.cNet (sp_Net_init K A) [] E (tCons (tVar 1) (tCons (tVar 3) tNil))))
    tNext)
    (Evl.tCut (tIfS (tTest (tOp rEq (tVar 0) (tC (.int 1))))
    (tDrop (tCall (sp_shows K A) [] E (tCons (tVar 1) (tCons (tVar 4) tNil))))
    tNext)
    (Evl.tCut (tIfS (tTest (tOp rEq (tVar 0) (tC (.int 2))))
    (tDrop (tMeth A.cNet "owed_by" (sp_Net_owed_by K A) [] E (tVar 2) (tCons (tVar 3) tNil)))
    tNext)
    (Evl.tCut (tIfS (tTest (tOp rEq (tVar 0) (tC (.int 3))))
    (tDrop (tMeth A.cNet "waker_of" (sp_Net_waker_of K A) [] E (tVar 2) (tCons (tVar 3) tNil)))
    tNext)
    (Evl.tCut (tIfS (tTest (tOp rEq (tVar 0) (tC (.int 4))))
    (tDrop (tMeth A.cNet "freed_yet" (sp_Net_freed_yet K A) [] E (tVar 2) (tCons (tVar 3) tNil)))
    tNext)
    (Evl.tCut (tIfS (tTest (tOp rEq (tVar 0) (tC (.int 5))))
    (tDrop (tMeth A.cNet "bring" (sp_Net_bring K A) [] E (tVar 2) (tCons (tVar 3) tNil)))
    tNext)
    (Evl.tCut (tIfS (tTest (tOp rEq (tVar 0) (tC (.int 6))))
    (tDrop (tCall (sp_freed K A) [] E (tCons (tVar 1) tNil)))
    tNext)
    (tIfS (tTest (tOp rEq (tVar 0) (tC (.int 7))))
    (tDrop (tCall (sp_stuck K A) [] E (tCons (tVar 1) tNil)))
    tNext))))))))
theorem rd_deed {K : PySem.W.Frag} {A : Ad} {a w n x h : V} {H : Hp} {Q : VK} {E : XK} (hh : pr_deed K A a w n x h H Q E) : t_deed K A E { nx := fun _ H' => Q .non H', rt := Q } [some a, some w, some n, some x, some h] H := by
  obtain ⟨k, R, rfl, ⟨N, S, dx, rfl, nh, hx, hc⟩, hr⟩ := hh
  unfold t_deed
  rcases hc with ⟨rfl, hb⟩ | ⟨rfl, hb⟩ | ⟨hk, rfl, hf⟩ | ⟨rfl, rfl, hf⟩ | ⟨hk, hb⟩
  · refine cut_yes rfl rfl ?_
    walk_at "rd"
    intro xa da h1 h2 h3
    have s := same2 (o := .ins A.cNet da []) (u := .own xa) h1 h2
    refine r_sp3m ?_
    rcases hb with ⟨d, v, rfl, hw, hs, nb⟩ | ⟨rfl, ws, hw, ok, hf⟩
    · exact .inr (.inl ⟨d, v, hw.up s, hs, nb, BadE.up hr s⟩)
    · exact .inr (.inr ⟨ws, dx, hw.up s, ok, hx.up s, hf, fun H' s' => hr H' (s.trans s')⟩)
  · refine cut_no rfl (by decide) ?_
    refine cut_yes rfl rfl ?_
    walk_at "rd"
    rcases hb with ⟨d, v, rfl, hw, hs, nb⟩ | ⟨rfl, ws, hs, hw, ok, hh, hbad⟩
    · exact .inl ⟨d, v, hw, hs, nb, hr⟩
    · exact .inr ⟨ws, hs, hw, ok, hh, hbad, hr⟩
  · have hn := nh.len
    rcases hk with rfl | rfl | rfl
    · refine cut_no rfl (by decide) (cut_no rfl (by decide) (cut_yes rfl rfl ?_))
      walk_at "rd"
      refine r_methQ nh.x rfl ?_
      walk_at "rd"
      exact ⟨N, S, dx, rfl, nh, hx, fun i s e es => hand_absurd e (List.getElem?_eq_some_iff.mp es).1 hf, fun _ => hr H (Same.refl _)⟩
    · refine cut_no rfl (by decide) (cut_no rfl (by decide) (cut_no rfl (by decide) (cut_yes rfl rfl ?_)))
      walk_at "rd"
      refine r_methQ nh.x rfl ?_
      walk_at "rd"
      exact ⟨N, S, dx, rfl, nh, hx, fun i s e es => hand_absurd e (List.getElem?_eq_some_iff.mp es).1 hf, fun _ => hr H (Same.refl _)⟩
    · refine cut_no rfl (by decide) (cut_no rfl (by decide) (cut_no rfl (by decide) (cut_no rfl (by decide) (cut_yes rfl rfl ?_))))
      walk_at "rd"
      refine r_methQ nh.x rfl ?_
      walk_at "rd"
      exact ⟨N, S, dx, rfl, nh, hx, fun i s e es => hand_absurd e (List.getElem?_eq_some_iff.mp es).1 hf, fun _ => hr H (Same.refl _)⟩
  · refine cut_no rfl (by decide) (cut_no rfl (by decide) (cut_no rfl (by decide) (cut_no rfl (by decide) (cut_no rfl (by decide) (cut_yes rfl rfl ?_)))))
    walk_at "rd"
    refine r_methQ nh.x rfl ?_
    walk_at "rd"
    exact .inr ⟨N, S, dx, rfl, nh, hx, hf, hr H (Same.refl _)⟩
  · rcases hk with rfl | rfl
    · refine cut_no rfl (by decide) (cut_no rfl (by decide) (cut_no rfl (by decide) (cut_no rfl (by decide) (cut_no rfl (by decide) (cut_no rfl (by decide) (cut_yes rfl rfl ?_))))))
      walk_at "rd"
      rcases hb with ⟨d, v, rfl, hw, hs, nb⟩ | ⟨rfl, ws, hw, ok⟩
      · exact .inr ⟨d, v, hw, hs, nb, hr⟩
      · refine .inl ⟨ws, hw, ok, fun H' p Z => ?_⟩
        walk_at "rd"
        refine ifF rfl ?_
        exact hr H' Z.hh
    · refine cut_no rfl (by decide) (cut_no rfl (by decide) (cut_no rfl (by decide) (cut_no rfl (by decide) (cut_no rfl (by decide) (cut_no rfl (by decide) (cut_no rfl (by decide) ?_))))))
      walk_at "rd"
      refine ifT rfl ?_
      walk_at "rd"
      rcases hb with ⟨d, v, rfl, hw, hs, nb⟩ | ⟨rfl, ws, hw, ok⟩
      · exact .inr ⟨d, v, hw, hs, nb, hr⟩
      · exact .inl ⟨ws, hw, ok, fun H' p Z => hr H' Z.hh⟩
end SB
/-! count of data in a list, in and not in over data, min of two: short names and readings. -/
namespace SB
open PySem PySem.Spec PyProof.Rows L2
theorem u65 {k : Nat} {A : Around} (r : Room k A) : A.units + 65 < cLine := by have := r.un; omega
/-- l.count(x) over data -/
def qCountD (K : PySem.W.Frag) : V → List V → Hp → VK → Prop := fun x xs H Q => ∃ (a : Addr) (y : V) (d : PyData) (ds : List PyData), x = V.ref a ∧ xs = [y] ∧ Dp K H (V.ref a) (.list ds) ∧ Dp K H y d ∧
  SeqAt.shaped (.list ds) = true ∧ SeqAt.shaped d = true ∧ Q (.int ((ds.countP fun z => PyData.eqv z d : Nat) : Int)) H
def qMin2 : List V → Hp → VK → Prop := fun xs H Q => ∃ i j, xs = [.int i, .int j] ∧ Q (.int (if j < i then j else i)) H
section
variable {X : Cx}
theorem call_min2q (hc : X.calm = true) : CallR X (.builtin "min") qMin2 := call_min2 hc
theorem mt_countDq (hu : X.A.units + 65 < cLine) : MtR X "list.count" (qCountD X.K) := by
  intro pins s σ H x xs v us Q I rx rxs h
  obtain ⟨a, y, d, ds, rfl, rfl, hl, hy, sl, sd, q⟩ := h
  cases rx
  cases rxs with
  | cons ry rt =>
    rename_i uy ut
    cases rt
    obtain ⟨bs, r1⟩ := Dp.reads I d y uy hy ry
    have hxs : PyData.canLayAll0 ds = true := SeqAt.canLay_of_shaped sl
    have hroom : X.A.units + 1 + min (PyData.depthAll ds) d.depth < cLine := room_in_shaped sd hu
    cases hl with
    | lst hs ha =>
      obtain ⟨its, rv, ⟨⟨cls, dd, data, sls⟩, n, ho, hc, hdn, hdt⟩, hlen⟩ := I.list hs
      simp only at hc hdt
      subst hc hdt
      obtain ⟨as, h4⟩ := Dp.readsAll I ds _ its ha rv
      have hmap : its.map (SeqAt.readOf s.heap) = ds := SeqAt.readsAll_map ds its as hxs h4
      have hcnt : its.toArray.toList.countP (fun u => PyData.eqv (SeqAt.readOf s.heap u) d) = ds.countP fun z => PyData.eqv z d := by
        rw [← hmap, List.countP_map] <;> rfl
      refine call_meets PySem.F.slot_list_count ⟨_, ho, rfl⟩ PySem.F.entry_list_count (PySem.F.args_list_count_2 _ _)
        (SeqAt.list_countAt a its.toArray n dd sls uy (fun u => PyData.eqv (SeqAt.readOf s.heap u) d)) ⟨ho, SeqAt.items_eqAt (vs := its.toArray) (show ReadsAll s.heap its.toArray.toList ds as from h4) r1 hxs (SeqAt.canLay_of_shaped sd) hroom, ?_⟩
      refine ⟨.int ((ds.countP fun z => PyData.eqv z d : Nat) : Int), H, I.tok _, ⟨s.toks, ?_⟩, q⟩
      rw [hcnt]
end
section
variable {K : PySem.W.Frag} {H : Hp} {Q : VK} {x y : V} {d : PyData} {ds : List PyData} {a : Addr} {i j : Int}
theorem r_countD (h1 : Td H (.ref a) (.list ds)) (h2 : Td H y d) (s1 : SeqAt.shaped (.list ds) = true) (s2 : SeqAt.shaped d = true) (k : Q (.int ((ds.countP fun z => PyData.eqv z d : Nat) : Int)) H) : qCountD K (.ref a) [y] H Q := ⟨a, y, d, ds, rfl, rfl, Td.dp _ _ h1, Td.dp _ _ h2, s1, s2, k⟩
theorem r_inD (h1 : Td H x d) (h2 : Td H y (.list ds)) (s1 : SeqAt.shaped d = true) (s2 : SeqAt.shaped (.list ds) = true) (k : Q (.bl (ds.any fun z => PyData.eqv z d)) H) : rInD K x y H Q := ⟨d, ds, Td.dp _ _ h1, Td.dp _ _ h2, s1, s2, k⟩
theorem r_notInD (h1 : Td H x d) (h2 : Td H y (.list ds)) (s1 : SeqAt.shaped d = true) (s2 : SeqAt.shaped (.list ds) = true) (k : Q (.bl (!ds.any fun z => PyData.eqv z d)) H) : rNotInD K x y H Q := ⟨d, ds, Td.dp _ _ h1, Td.dp _ _ h2, s1, s2, k⟩
theorem r_min2 (k : Q (.int (if j < i then j else i)) H) : qMin2 [.int i, .int j] H Q := ⟨i, j, rfl, k⟩
end
end SB
/-! Law k11: a refusal caught, by its own name or by its base. -/
namespace SB
open PySem L2
section
variable {K : PySem.W.Frag} {σ : St} {H : Hp} {Q : VK} {sp : Sp} {Es : St → XK} {t : TA} {a b c d e : V} {E : XK} {C p : Addr} {D : Ends}
theorem r_callT (h : t σ H fun vs H1 => sp vs H1 Q (Es σ)) : tCallS sp Es t σ H Q := h
theorem r_spS5 {f : V → V → V → V → V → Hp → VK → XK → Prop} (h : f a b c d e H Q E) : sp5 f [a, b, c, d, e] H Q E := ⟨a, b, c, d, e, rfl, h⟩
theorem r_tryM {tb : WX → TS} {l : List ClT} (h : tb (wMix K D l) D σ H) : tTryM K tb l D σ H := h
theorem r_tryB {c : Value} {i : Nat} {tb : WX → TS} {ts : Addr → Value → Option Addr → TS} (h : tb (wAs K c i ts (fun _ _ _ _ => False) D) D σ H) : tTryAs K c i tb ts D σ H := h
theorem r_atW {dd : Addr} {n : Nat} {v : V} (h1 : σ[n]? = some (some (.ref p))) (h2 : H dd = some (.xd [("at", v)])) (k : Q v H) : tXf p (.ref C) (some dd) C "at" (tVar n) σ H Q :=
  ⟨.ref p, h1, rfl, rfl, dd, [("at", v)], v, rfl, h2, rfl, k⟩
end
/-- BadWaits has a whole number, or None -/
theorem vD_td {F : Hp} {d : PyData} {v : V} (h : NeedBad d v) : Td F v (vD v) := by
  rcases h with ⟨_, rfl⟩ | ⟨i, ds, _, _, _, rfl⟩
  · exact .non
  · exact .int _
theorem deed_vD {A : Ad} {H F : Hp} {k : Nat} {w n x h : V} {v : V} (hp : DeedP A H k w n x h (.waits v)) : Td F v (vD v) := by
  obtain ⟨N, S, dx, _, _, _, hc⟩ := hp
  have key : BadW H w (.waits v) → Td F v (vD v) := by
    rintro ⟨d, v', e, _, _, nb⟩
    cases e
    exact vD_td nb
  rcases hc with ⟨_, hb | ⟨e, _⟩⟩ | ⟨_, hb | ⟨e, _⟩⟩ | ⟨_, e, _⟩ | ⟨_, e, _⟩ | ⟨_, hb | ⟨e, _⟩⟩
  · exact key hb
  · cases e
  · exact key hb
  · cases e
  · cases e
  · cases e
  · exact key hb
  · cases e
def pr_by_name (K : PySem.W.Frag) (A : Ad) : V → V → V → V → V → Hp → VK → XK → Prop := fun a w n x h H Q _ => ∃ (F : Hp) (k : Nat) (R : Res), a = .int (k : Int) ∧ Same F H ∧ DeedP A H k w n x h R ∧ Ret F H Q (resD R)
abbrev sp_by_name (K : PySem.W.Frag) (A : Ad) : Sp := sp5 (pr_by_name K A)
theorem ret_waits {F H : Hp} {Q : VK} {v : V} (hv : ∀ F, Td F v (vD v)) (sF : Same F H) (q : Ret F H Q (resD (.waits v))) (H' : Hp) (s : Same H H') : [V.str "waits", v].length ≤ sizeLine ∧ NewO (.tup [V.str "waits", v]) H' Q := by
  refine r_mk sz2 ((Zs.start sF).ext s) ?_
  intro t H6 Z6
  obtain ⟨Fb, Zb, sb, eb⟩ := Z6.frzAt 0 rfl
  exact q Fb _ _ Zb (.tup eb (.cons (.str _) (.cons (hv _) .nil)))
def t_by_name (K : PySem.W.Frag) (A : Ad) : TS :=
    (tSeq (tTryM K (fun W => (tDrop (tCallS (sp_deed K A) (WE W) (tCons (tVar 0) (tCons (tVar 1) (tCons (tVar 2) (tCons (tVar 3) (tCons (tVar 4) tNil))))))))
    [(.ref A.cNoHand, none, fun a cls d => (tRet (tC (.str "hand")))),
    (.ref A.cNoLetter, none, fun a cls d => (tRet (tC (.str "letter")))),
    (.ref A.cBadWaits, some 5, fun a cls d => (tRet (tTup (tCons (tC (.str "waits")) (tCons (tXf a cls d A.cBadWaits "at" (tVar 5)) tNil)))))])
    (tRet (tC (.str ""))))
theorem rd_by_name {K : PySem.W.Frag} {A : Ad} (O : ErrOk2 K A) {a w n x h : V} {H : Hp} {Q : VK} {E : XK} (hh : pr_by_name K A a w n x h H Q E) : t_by_name K A { nx := fun _ H' => Q .non H', rt := Q } [some a, some w, some n, some x, some h, none] H := by
  obtain ⟨F, k, R, rfl, sF, hp, q⟩ := hh
  have Z0 : Zs F H F H [] := Zs.start sF
  unfold t_by_name
  refine r_seq ?_
  refine r_tryM ?_
  walk_at "rd"
  refine r_callT ?_
  walk_at "rd"
  refine r_spS5 ?_
  refine ⟨k, R, rfl, hp, ?_⟩
  cases R with
  | ok =>
    intro H' s
    walk_at "rd"
    exact q F H' _ (Z0.ext s) (.str _)
  | hand =>
    intro H' s
    refine ⟨true, O.xHh, fun _ e he => ?_, fun z => nomatch z⟩
    walk_at "rd"
    exact q F H' _ (Z0.ext s) (.str _)
  | letter =>
    intro H' s
    refine ⟨false, O.xLh, (fun z => nomatch z), fun _ => ⟨true, O.xLl, fun _ e he => ?_, fun z => nomatch z⟩⟩
    walk_at "rd"
    exact q F H' _ (Z0.ext s) (.str _)
  | waits v =>
    intro d H' s hd hx
    refine ⟨false, O.xBh, (fun z => nomatch z), fun _ => ⟨false, O.xBl, (fun z => nomatch z), fun _ => ⟨true, O.bb, fun _ e he => ?_, fun z => nomatch z⟩⟩⟩
    walk_at "rd"
    refine r_atW rfl hx ?_
    walk_at "rd"
    exact ret_waits (fun F => deed_vD hp) sF q H' s
def pr_by_base (K : PySem.W.Frag) (A : Ad) : V → V → V → V → V → Hp → VK → XK → Prop := pr_by_name K A
abbrev sp_by_base (K : PySem.W.Frag) (A : Ad) : Sp := sp5 (pr_by_base K A)
def t_by_base (K : PySem.W.Frag) (A : Ad) : TS :=
    (tSeq (tTryAs K (.ref A.cBellError) 5 (fun W => (tDrop (tCallS (sp_deed K A) (WE W) (tCons (tVar 0) (tCons (tVar 1) (tCons (tVar 2) (tCons (tVar 3) (tCons (tVar 4) tNil))))))))
    (fun a cls d => (tSeq (tAsg (tLst (tCons (tCB (qIsE K a cls d) (tCons (tVar 5) (tCons (tC (.ref A.cNoHand)) tNil))) (tCons (tCB (qIsE K a cls d) (tCons (tVar 5) (tCons (tC (.ref A.cNoLetter)) tNil))) (tCons (tCB (qIsE K a cls d) (tCons (tVar 5) (tCons (tC (.ref A.cBadWaits)) tNil))) tNil)))) (gName 6))
    (tSeq (tIfS (tOr (tNot (tB (tCB (qIsE K a cls d) (tCons (tVar 5) (tCons (tC (.ty "ValueError")) tNil))))) (tTest (tOp rNe (tBM K "list" (qCountD K) (tVar 6) (tCons (tC (.bl true)) tNil)) (tC (.int 1)))))
    (tRet (tC (.str "several")))
    tNext)
    (tSeq (tIfS (tB (tCB (qIsE K a cls d) (tCons (tVar 5) (tCons (tC (.ref A.cBadWaits)) tNil))))
    (tRet (tTup (tCons (tC (.str "waits")) (tCons (tXf a cls d A.cBadWaits "at" (tVar 5)) tNil))))
    tNext)
    (tRet (tOp (rIxL K) (tLst (tCons (tC (.str "hand")) (tCons (tC (.str "letter")) tNil))) (tBM K "list" (rIndexD K) (tVar 6) (tCons (tC (.bl true)) tNil)))))))))
    (tRet (tC (.str ""))))
theorem r_idxB {K : PySem.W.Frag} {H : Hp} {Q : VK} {p : Addr} {bs : List Bool} {j : Nat} (h : H p = some (.lst (bs.map V.bl))) (hj : bs[j]? = some true) (hno : ∀ m, m < j → bs[m]? = some false) (k : Q (.int (j : Nat)) H) : rIndexD K (.ref p) [.bl true] H Q := by
  refine ⟨p, .bl true, .bool true, bs.map PyData.bool, j, .bool true, rfl, rfl, Td.dp _ _ (Td.bools_lst h), .bl _, shaped_bools _, rfl, by rw [List.getElem?_map, hj] <;> rfl, rfl, fun m z' hm hz => ?_, k⟩
  rw [List.getElem?_map, hno m hm] at hz
  cases hz
  rfl
theorem rd_by_base {K : PySem.W.Frag} {A : Ad} (O : ErrOk2 K A) {a w n x h : V} {H : Hp} {Q : VK} {E : XK} (hh : pr_by_base K A a w n x h H Q E) : t_by_base K A { nx := fun _ H' => Q .non H', rt := Q } [some a, some w, some n, some x, some h, none, none] H := by
  obtain ⟨F, k, R, rfl, sF, hp, q⟩ := hh
  have Z0 : Zs F H F H [] := Zs.start sF
  unfold t_by_base
  refine r_seq ?_
  refine r_tryB ?_
  walk_at "rd"
  refine r_callT ?_
  walk_at "rd"
  refine r_spS5 ?_
  refine ⟨k, R, rfl, hp, ?_⟩
  cases R with
  | ok =>
    intro H' s
    walk_at "rd"
    exact q F H' _ (Z0.ext s) (.str _)
  | hand =>
    intro H' s
    refine ⟨true, O.xHe, fun _ e he => ?_, fun z => nomatch z⟩
    have Z := Z0.ext s
    walk_at "rd"
    refine ⟨A.cNoHand, .ref A.cNoHand, _, true, rfl, O.cH, .inl rfl, rfl, fun u h => h, O.kHH, ?_⟩
    walk_at "rd"
    refine ⟨A.cNoHand, .ref A.cNoLetter, _, false, rfl, O.cH, .inl rfl, rfl, fun u h => h, O.kHL, ?_⟩
    walk_at "rd"
    refine ⟨A.cNoHand, .ref A.cBadWaits, _, false, rfl, O.cH, .inl rfl, rfl, fun u h => h, O.kHB, ?_⟩
    walk_at "rd"
    refine r_mk sz3 Z ?_
    intro p1 H1 Z1
    walk_at "rd"
    refine ⟨A.cNoHand, .ty "ValueError", _, true, rfl, O.cH, .inl rfl, rfl, fun u h => h, O.kHV, ?_⟩
    walk_at "rd"
    refine ifF rfl ?_
    walk_at "rd"
    refine ⟨ty_l (SqL.of (Z1.get (i := 0) rfl)), ?_⟩
    walk_at "rd"
    refine r_countD (ds := [.bool true, .bool false, .bool false]) (d := .bool true) (.lst (Z1.get (i := 0) rfl) (.cons (.bl _) (.cons (.bl _) (.cons (.bl _) .nil)))) (.bl _) (shaped_bools [true, false, false]) rfl ?_
    walk_at "rd"
    refine ifF rfl ?_
    walk_at "rd"
    refine ⟨A.cNoHand, .ref A.cBadWaits, _, false, rfl, O.cH, .inl rfl, rfl, fun u h => h, O.kHB, ?_⟩
    walk_at "rd"
    refine ifF rfl ?_
    walk_at "rd"
    refine r_mk sz2 Z1 ?_
    intro p2 H2 Z2
    walk_at "rd"
    refine ⟨ty_l (SqL.of (Z2.get (i := 1) rfl)), ?_⟩
    walk_at "rd"
    refine r_idxB (bs := [true, false, false]) (j := 0) (Z2.get (i := 1) rfl) rfl (fun m hm => absurd hm (Nat.not_lt_zero _)) ?_
    refine r_ixL (SqL.of (Z2.get (i := 0) rfl)) (at_i (by decide) rfl) ?_
    exact q F H2 _ Z2.nil (.str _)
  | letter =>
    intro H' s
    refine ⟨true, O.xLe, fun _ e he => ?_, fun z => nomatch z⟩
    have Z := Z0.ext s
    walk_at "rd"
    refine ⟨A.cNoLetter, .ref A.cNoHand, _, false, rfl, O.cL, .inl rfl, rfl, fun u h => h, O.kLH, ?_⟩
    walk_at "rd"
    refine ⟨A.cNoLetter, .ref A.cNoLetter, _, true, rfl, O.cL, .inl rfl, rfl, fun u h => h, O.kLL, ?_⟩
    walk_at "rd"
    refine ⟨A.cNoLetter, .ref A.cBadWaits, _, false, rfl, O.cL, .inl rfl, rfl, fun u h => h, O.kLB, ?_⟩
    walk_at "rd"
    refine r_mk sz3 Z ?_
    intro p1 H1 Z1
    walk_at "rd"
    refine ⟨A.cNoLetter, .ty "ValueError", _, true, rfl, O.cL, .inl rfl, rfl, fun u h => h, O.kLV, ?_⟩
    walk_at "rd"
    refine ifF rfl ?_
    walk_at "rd"
    refine ⟨ty_l (SqL.of (Z1.get (i := 0) rfl)), ?_⟩
    walk_at "rd"
    refine r_countD (ds := [.bool false, .bool true, .bool false]) (d := .bool true) (.lst (Z1.get (i := 0) rfl) (.cons (.bl _) (.cons (.bl _) (.cons (.bl _) .nil)))) (.bl _) (shaped_bools [false, true, false]) rfl ?_
    walk_at "rd"
    refine ifF rfl ?_
    walk_at "rd"
    refine ⟨A.cNoLetter, .ref A.cBadWaits, _, false, rfl, O.cL, .inl rfl, rfl, fun u h => h, O.kLB, ?_⟩
    walk_at "rd"
    refine ifF rfl ?_
    walk_at "rd"
    refine r_mk sz2 Z1 ?_
    intro p2 H2 Z2
    walk_at "rd"
    refine ⟨ty_l (SqL.of (Z2.get (i := 1) rfl)), ?_⟩
    walk_at "rd"
    refine r_idxB (bs := [false, true, false]) (j := 1) (Z2.get (i := 1) rfl) rfl (fun m hm => by rw [show m = 0 by omega] <;> rfl) ?_
    refine r_ixL (SqL.of (Z2.get (i := 0) rfl)) (at_i (by decide) rfl) ?_
    exact q F H2 _ Z2.nil (.str _)
  | waits v =>
    intro d H' s hd hx
    refine ⟨true, O.bl, fun _ e he => ?_, fun z => nomatch z⟩
    have Z := Z0.ext s
    walk_at "rd"
    refine ⟨A.cBadWaits, .ref A.cNoHand, _, false, rfl, O.cB, .inr ⟨d, _, rfl, hx⟩, rfl, fun u h => h, O.kBH, ?_⟩
    walk_at "rd"
    refine ⟨A.cBadWaits, .ref A.cNoLetter, _, false, rfl, O.cB, .inr ⟨d, _, rfl, hx⟩, rfl, fun u h => h, O.kBL, ?_⟩
    walk_at "rd"
    refine ⟨A.cBadWaits, .ref A.cBadWaits, _, true, rfl, O.cB, .inr ⟨d, _, rfl, hx⟩, rfl, fun u h => h, O.kBB, ?_⟩
    walk_at "rd"
    refine r_mk sz3 (Zs.start (Same.refl H')) ?_
    intro p1 H1 Z1
    have hx1 := Z1.hh _ _ hx
    walk_at "rd"
    refine ⟨A.cBadWaits, .ty "ValueError", _, true, rfl, O.cB, .inr ⟨d, _, rfl, hx1⟩, rfl, fun u h => h, O.kBV, ?_⟩
    walk_at "rd"
    refine ifF rfl ?_
    walk_at "rd"
    refine ⟨ty_l (SqL.of (Z1.get (i := 0) rfl)), ?_⟩
    walk_at "rd"
    refine r_countD (ds := [.bool false, .bool false, .bool true]) (d := .bool true) (.lst (Z1.get (i := 0) rfl) (.cons (.bl _) (.cons (.bl _) (.cons (.bl _) .nil)))) (.bl _) (shaped_bools [false, false, true]) rfl ?_
    walk_at "rd"
    refine ifF rfl ?_
    walk_at "rd"
    refine ⟨A.cBadWaits, .ref A.cBadWaits, _, true, rfl, O.cB, .inr ⟨d, _, rfl, hx1⟩, rfl, fun u h => h, O.kBB, ?_⟩
    walk_at "rd"
    refine ifT rfl ?_
    walk_at "rd"
    refine r_atW rfl hx1 ?_
    walk_at "rd"
    exact ret_waits (fun F => deed_vD hp) sF q H1 (s.trans Z1.hh)
def pr_said (K : PySem.W.Frag) (A : Ad) : V → V → V → V → V → V → Hp → VK → XK → Prop := fun y a w n x h H Q E => ∃ way : Int, y = .int way ∧ pr_by_name K A a w n x h H Q E
abbrev sp_said (K : PySem.W.Frag) (A : Ad) : Sp := sp6 (pr_said K A)
def t_said (K : PySem.W.Frag) (A : Ad) : TS :=
    (tSeq (tIfS (tTest (tOp rEq (tVar 0) (tC (.int 0))))
    (tRet (tCall (sp_by_name K A) [] E0 (tCons (tVar 1) (tCons (tVar 2) (tCons (tVar 3) (tCons (tVar 4) (tCons (tVar 5) tNil)))))))
    tNext)
    (tRet (tCall (sp_by_base K A) [] E0 (tCons (tVar 1) (tCons (tVar 2) (tCons (tVar 3) (tCons (tVar 4) (tCons (tVar 5) tNil))))))))
theorem rd_said {K : PySem.W.Frag} {A : Ad} {y a w n x h : V} {H : Hp} {Q : VK} {E : XK} (hh : pr_said K A y a w n x h H Q E) : t_said K A { nx := fun _ H' => Q .non H', rt := Q } [some y, some a, some w, some n, some x, some h] H := by
  obtain ⟨way, rfl, hp⟩ := hh
  unfold t_said
  walk_at "rd"
  refine ifd (fun _ => ?_) (fun _ => ?_)
  · walk_at "rd"
    exact r_sp5 hp
  · walk_at "rd"
    exact r_sp5 hp
end SB
/-! A net, plainly: what holds from letter to letter. -/
namespace SB
open PySem L2
/-! ### what a letter does to a hand -/
def Backs (b : List Lt) : Prop := ∀ l ∈ b, l.1 = "back"
/-- by its kind: what stands of the hand then, which letters beside the backs go out -/
inductive CC (s : HS) (w : Str) (j : Int) (t : HS) : List Lt → Prop
  | c0 : w = "back" → t.free = s.free → t.has = s.has → t.askers = s.askers → t.told = s.told → CC s w j t []
  | c1 : w = "ask" → s.free = true → t.free = true → t.has = s.has → t.askers = s.askers → t.told = s.told → CC s w j t [(("freed" : Str), s.number, j)]
  | c2 : w = "ask" → s.free = false → s.has = true → t.free = false → t.has = true → t.askers = s.askers ++ [j] → t.told = s.told → CC s w j t []
  | c3 : w = "ask" → s.free = false → s.has = false → t.free = false → t.has = true → t.askers = s.askers ++ [j] → t.told = s.told → CC s w j t (s.others.map fun o => (("ask" : Str), s.number, o))
  | c4 : w ≠ "back" → w ≠ "ask" → (s.free = true ∨ (s.word = some false ∧ s.told.length + 1 < s.others.length)) → t.free = s.free → t.has = s.has → t.askers = s.askers → t.told = s.told ++ [j] → CC s w j t []
  | c5 : w ≠ "back" → w ≠ "ask" → s.free = false → ¬ (s.word = some false ∧ s.told.length + 1 < s.others.length) → t.free = true → t.has = s.has → t.askers = s.askers → t.told = s.told ++ [j] → CC s w j t (s.askers.map fun o => (("freed" : Str), s.number, o))
/-- who wakes, ahead of what the letter says -/
def Wk1 (s : HS) (j : Int) (b1 : List Lt) (wk : Option Int) : Prop := ((s.first || s.waker.isSome) = true ∧ b1 = [(("back" : Str), s.number, j)] ∧ wk = s.waker) ∨ ((s.first || s.waker.isSome) = false ∧ b1 = [] ∧ wk = some j)
/-- and behind it -/
def Wk2 (n : Int) (wk : Option Int) (ow : Int) (b2 : List Lt) (wk' : Option Int) : Prop := (∃ k, wk = some k ∧ ow = 0 ∧ wk' = none ∧ b2 = [(("back" : Str), n, k)]) ∨ ((wk = none ∨ ow ≠ 0) ∧ wk' = wk ∧ b2 = [])
/-- all that a letter does to a hand -/
def CD (s : HS) (w : Str) (j : Int) (t : HS) (b1 m b2 : List Lt) : Prop := CC s w j t m ∧ ∃ wk, ((w = "back" ∧ b1 = [] ∧ wk = s.waker ∧ t.owed = s.owed - 1) ∨ (w ≠ "back" ∧ Wk1 s j b1 wk ∧ t.owed = s.owed + (m.length : Int))) ∧ Wk2 s.number wk t.owed b2 t.waker
theorem woken_cc (s : HS) (j : Int) : (woken s j).1.free = s.free ∧ (woken s j).1.has = s.has ∧ (woken s j).1.askers = s.askers ∧ (woken s j).1.told = s.told ∧ (woken s j).1.number = s.number ∧ (woken s j).1.word = s.word ∧ (woken s j).1.others = s.others ∧ (woken s j).1.owed = s.owed ∧ Wk1 s j (woken s j).2 (woken s j).1.waker := by
  unfold woken Wk1
  cases h : (s.first || s.waker.isSome) with
  | true => exact ⟨rfl, rfl, rfl, rfl, rfl, rfl, rfl, rfl, .inl ⟨rfl, rfl, rfl⟩⟩
  | false => exact ⟨rfl, rfl, rfl, rfl, rfl, rfl, rfl, rfl, .inr ⟨rfl, rfl, rfl⟩⟩
theorem settle_cc (s : HS) : (settle s).1.free = s.free ∧ (settle s).1.has = s.has ∧ (settle s).1.askers = s.askers ∧ (settle s).1.told = s.told ∧ (settle s).1.owed = s.owed ∧ Wk2 s.number s.waker s.owed (settle s).2 (settle s).1.waker := by
  cases h : s.waker with
  | none =>
    have es : settle s = (s, []) := by unfold settle; rw [h]
    rw [es]
    exact ⟨rfl, rfl, rfl, rfl, rfl, .inr ⟨.inl rfl, h, rfl⟩⟩
  | some k =>
    by_cases e : s.owed = 0
    · have es : settle s = ({ s with waker := none }, [(("back" : Str), s.number, k)]) := by unfold settle; rw [h]; simp only [if_pos e]
      rw [es]
      exact ⟨rfl, rfl, rfl, rfl, rfl, .inl ⟨k, rfl, e, rfl, rfl⟩⟩
    · have es : settle s = (s, []) := by unfold settle; rw [h]; simp only [if_neg e]
      rw [es]
      exact ⟨rfl, rfl, rfl, rfl, rfl, .inr ⟨.inr e, h, rfl⟩⟩
theorem come_cd (s : HS) (w : Str) (j : Int) : ∃ b1 m b2, (come s w j).2 = b1 ++ m ++ b2 ∧ CD s w j (come s w j).1 b1 m b2 := by
  obtain ⟨t1, t2, t3, t4, t5, t6⟩ := settle_cc (come1 s w j).1
  by_cases hb : w = "back"
  · have e : come1 s w j = ({ s with owed := s.owed - 1 }, []) := by unfold come1; rw [if_pos hb]
    refine ⟨[], [], (settle (come1 s w j).1).2, ?_, ?_⟩
    · unfold come
      rw [e]
      rfl
    · show CD s w j (settle (come1 s w j).1).1 [] [] _
      rw [e] at t1 t2 t3 t4 t5 t6 ⊢
      refine ⟨.c0 hb t1 t2 t3 t4, s.waker, .inl ⟨hb, rfl, rfl, t5⟩, ?_⟩
      rw [t5]
      exact t6
  · obtain ⟨w1, w2, w3, w4, w5, w6, w7, w9, w8⟩ := woken_cc s j
    generalize ew : woken s j = p at *
    by_cases ha : w = "ask"
    · have e : come1 s w j = ((askedBy p.1 j).1, p.2 ++ (askedBy p.1 j).2) := by
        unfold come1
        rw [if_neg hb, ew]
        simp only [if_pos ha]
      refine ⟨p.2, (askedBy p.1 j).2, (settle (come1 s w j).1).2, ?_, ?_⟩
      · unfold come
        rw [e]
      · show CD s w j (settle (come1 s w j).1).1 _ _ _
        rw [e] at t1 t2 t3 t4 t5 t6 ⊢
        cases hf : s.free with
        | true =>
          have e2 : askedBy p.1 j = posted p.1 "freed" [j] := by unfold askedBy; rw [if_pos (by rw [w1]; exact hf)]
          rw [e2] at t1 t2 t3 t4 t5 t6 ⊢
          have e3 : (posted p.1 "freed" [j]).2 = [(("freed" : Str), s.number, j)] := by show [(("freed" : Str), p.1.number, j)] = _; rw [w5]
          rw [e3]
          refine ⟨.c1 ha hf (t1.trans (w1.trans hf)) (t2.trans w2) (t3.trans w3) (t4.trans w4), p.1.waker, .inr ⟨hb, w8, t5.trans (by show p.1.owed + (1 : Int) = _; rw [w9]; rfl)⟩, ?_⟩
          rw [t5, ← w5]
          exact t6
        | false =>
          cases hh : s.has with
          | true =>
            have e2 : askedBy p.1 j = ({ p.1 with askers := p.1.askers ++ [j] }, []) := by unfold askedBy; rw [if_neg (by rw [w1, hf]; decide), if_pos (by rw [w2]; exact hh)]
            rw [e2] at t1 t2 t3 t4 t5 t6 ⊢
            refine ⟨.c2 ha hf hh (t1.trans (w1.trans hf)) (t2.trans (w2.trans hh)) (t3.trans (by rw [w3])) (t4.trans w4), p.1.waker, .inr ⟨hb, w8, t5.trans (by show p.1.owed = s.owed + (0 : Int); rw [w9, Int.add_zero])⟩, ?_⟩
            rw [t5, ← w5]
            exact t6
          | false =>
            have e2 : askedBy p.1 j = asking { p.1 with askers := p.1.askers ++ [j] } := by unfold askedBy; rw [if_neg (by rw [w1, hf]; decide), if_neg (by rw [w2, hh]; decide)]
            rw [e2] at t1 t2 t3 t4 t5 t6 ⊢
            have e3 : (asking { p.1 with askers := p.1.askers ++ [j] }).2 = s.others.map fun o => (("ask" : Str), s.number, o) := by
              show (p.1.others.map fun o => (("ask" : Str), p.1.number, o)) = _
              rw [w5, w7]
            rw [e3]
            refine ⟨.c3 ha hf hh (t1.trans (w1.trans hf)) t2 (t3.trans (by show p.1.askers ++ [j] = _; rw [w3])) (t4.trans w4), p.1.waker, .inr ⟨hb, w8, t5.trans (by show p.1.owed + (p.1.others.length : Int) = _; rw [w9, w7, List.length_map])⟩, ?_⟩
            rw [t5, ← w5]
            exact t6
    · have e : come1 s w j = ((toldBy p.1 j).1, p.2 ++ (toldBy p.1 j).2) := by
        unfold come1
        rw [if_neg hb, ew]
        simp only [if_neg ha]
      refine ⟨p.2, (toldBy p.1 j).2, (settle (come1 s w j).1).2, ?_, ?_⟩
      · unfold come
        rw [e]
      · show CD s w j (settle (come1 s w j).1).1 _ _ _
        rw [e] at t1 t2 t3 t4 t5 t6 ⊢
        have e0 : toldBy p.1 j = if (s.free || (decide (s.word = some false) && decide (s.told.length + 1 < s.others.length))) = true then ({ p.1 with told := p.1.told ++ [j] }, []) else posted { p.1 with told := p.1.told ++ [j], free := true } "freed" p.1.askers := by
          have ec : (p.1.free || (decide (p.1.word = some false) && decide (p.1.told.length + 1 < p.1.others.length))) = (s.free || (decide (s.word = some false) && decide (s.told.length + 1 < s.others.length))) := by rw [w1, w6, w4, w7]
          unfold toldBy
          rw [ec]
        by_cases q : s.free = true ∨ (s.word = some false ∧ s.told.length + 1 < s.others.length)
        · have e2 : toldBy p.1 j = ({ p.1 with told := p.1.told ++ [j] }, []) := by
            rw [e0, if_pos]
            rcases q with q | ⟨q1, q2⟩
            · rw [q]; rfl
            · rw [decide_eq_true q1, decide_eq_true q2, Bool.and_self, Bool.or_true]
          rw [e2] at t1 t2 t3 t4 t5 t6 ⊢
          refine ⟨.c4 hb ha q (t1.trans w1) (t2.trans w2) (t3.trans w3) (t4.trans (by rw [w4])), p.1.waker, .inr ⟨hb, w8, t5.trans (by show p.1.owed = s.owed + (0 : Int); rw [w9, Int.add_zero])⟩, ?_⟩
          rw [t5, ← w5]
          exact t6
        · have hf : s.free = false := by cases h : s.free with | true => exact absurd (.inl h) q | false => rfl
          have e2 : toldBy p.1 j = posted { p.1 with told := p.1.told ++ [j], free := true } "freed" p.1.askers := by
            rw [e0, if_neg]
            rw [hf, Bool.false_or]
            intro h
            rw [Bool.and_eq_true] at h
            exact q (.inr ⟨of_decide_eq_true h.1, of_decide_eq_true h.2⟩)
          rw [e2] at t1 t2 t3 t4 t5 t6 ⊢
          have e3 : (posted { p.1 with told := p.1.told ++ [j], free := true } "freed" p.1.askers).2 = s.askers.map fun o => (("freed" : Str), s.number, o) := by
            show (p.1.askers.map fun o => (("freed" : Str), p.1.number, o)) = _
            rw [w5, w3]
          rw [e3]
          refine ⟨.c5 hb ha hf (fun h => q (.inr h)) t1 (t2.trans w2) (t3.trans w3) (t4.trans (by show p.1.told ++ [j] = _; rw [w4])), p.1.waker, .inr ⟨hb, w8, t5.trans (by show p.1.owed + (p.1.askers.length : Int) = _; rw [w9, w3, List.length_map])⟩, ?_⟩
          rw [t5, ← w5]
          exact t6
theorem CC.mono {s t : HS} {w : Str} {j : Int} {m : List Lt} (c : CC s w j t m) : t.free = false → s.free = false := by
  intro h
  cases c with
  | c0 _ a => rw [← a]; exact h
  | c1 _ _ a => rw [a] at h; cases h
  | c2 _ a => exact a
  | c3 _ a => exact a
  | c4 _ _ _ a => rw [← a]; exact h
  | c5 _ _ a => exact a
theorem CC.to {s t : HS} {w : Str} {j : Int} {m : List Lt} (c : CC s w j t m) : ∀ l ∈ m, l.2.1 = s.number ∧ (l.2.2 = j ∨ l.2.2 ∈ s.others ∨ l.2.2 ∈ s.askers) := by
  intro l hl
  cases c with
  | c0 => cases hl
  | c1 => rw [List.mem_singleton.mp hl]; exact ⟨rfl, .inl rfl⟩
  | c2 => cases hl
  | c3 => obtain ⟨o, ho, rfl⟩ := List.mem_map.mp hl; exact ⟨rfl, .inr (.inl ho)⟩
  | c4 => cases hl
  | c5 => obtain ⟨o, ho, rfl⟩ := List.mem_map.mp hl; exact ⟨rfl, .inr (.inr ho)⟩
theorem CC.askers {s t : HS} {w : Str} {j : Int} {m : List Lt} (c : CC s w j t m) : t.askers = s.askers ∨ t.askers = s.askers ++ [j] := by
  cases c with
  | c0 _ _ _ a => exact .inl a
  | c1 _ _ _ _ a => exact .inl a
  | c2 _ _ _ _ _ a => exact .inr a
  | c3 _ _ _ _ _ a => exact .inr a
  | c4 _ _ _ _ _ a => exact .inl a
  | c5 _ _ _ _ _ _ a => exact .inl a
theorem CC.told {s t : HS} {w : Str} {j : Int} {m : List Lt} (c : CC s w j t m) : t.told = s.told ∨ t.told = s.told ++ [j] := by
  cases c with
  | c0 _ _ _ _ a => exact .inl a
  | c1 _ _ _ _ _ a => exact .inl a
  | c2 _ _ _ _ _ _ a => exact .inl a
  | c3 _ _ _ _ _ _ a => exact .inl a
  | c4 _ _ _ _ _ _ a => exact .inr a
  | c5 _ _ _ _ _ _ _ a => exact .inr a
theorem CD.b1 {s t : HS} {w : Str} {j : Int} {b1 m b2 : List Lt} (c : CD s w j t b1 m b2) : ∀ l ∈ b1, l.1 = "back" ∧ l.2.1 = s.number ∧ l.2.2 = j := by
  obtain ⟨_, wk, ⟨_, h, _⟩ | ⟨_, ⟨_, h, _⟩ | ⟨_, h, _⟩, _⟩, _⟩ := c
  · rw [h]; exact fun l hl => nomatch hl
  · rw [h]; intro l hl; rw [List.mem_singleton.mp hl]; exact ⟨rfl, rfl, rfl⟩
  · rw [h]; exact fun l hl => nomatch hl
theorem CD.b2 {s t : HS} {w : Str} {j : Int} {b1 m b2 : List Lt} (c : CD s w j t b1 m b2) : ∀ l ∈ b2, l.1 = "back" ∧ l.2.1 = s.number ∧ (l.2.2 = j ∨ s.waker = some l.2.2) := by
  obtain ⟨_, wk, h1, ⟨k, hk, _, _, hb⟩ | ⟨_, _, hb⟩⟩ := c
  · rw [hb]
    intro l hl
    rw [List.mem_singleton.mp hl]
    refine ⟨rfl, rfl, ?_⟩
    rcases h1 with ⟨_, _, h, _⟩ | ⟨_, ⟨_, _, h⟩ | ⟨_, _, h⟩, _⟩
    · exact .inr (by rw [← h]; exact hk)
    · exact .inr (by rw [← h]; exact hk)
    · rw [h] at hk; exact .inl (Option.some.inj hk).symm
  · rw [hb]; exact fun l hl => nomatch hl
theorem CD.waker {s t : HS} {w : Str} {j : Int} {b1 m b2 : List Lt} (c : CD s w j t b1 m b2) {k : Int} (h : t.waker = some k) : k = j ∨ s.waker = some k := by
  obtain ⟨_, wk, h1, ⟨k2, _, _, e, _⟩ | ⟨_, e, _⟩⟩ := c
  · rw [e] at h; cases h
  · rw [e] at h
    rcases h1 with ⟨_, _, q, _⟩ | ⟨_, ⟨_, _, q⟩ | ⟨_, _, q⟩, _⟩
    · exact .inr (by rw [← q]; exact h)
    · exact .inr (by rw [← q]; exact h)
    · rw [q] at h; exact .inl (Option.some.inj h).symm
/-! ### letters counted -/
def cnt (x : Lt) (row : List Lt) : Nat := row.countP fun l => decide (l = x)
theorem cntP_erase {P : Lt → Bool} : ∀ {row : List Lt} {p : Nat} {l : Lt}, row[p]? = some l → row.countP P = (row.eraseIdx p).countP P + if P l = true then 1 else 0
  | [], _, _, h => by simp at h
  | a :: row, 0, l, h => by
    simp at h
    subst h
    rw [List.countP_cons, List.eraseIdx_cons_zero]
  | a :: row, p + 1, l, h => by
    have ih := cntP_erase (P := P) (row := row) (p := p) (l := l) (by simpa using h)
    rw [List.countP_cons, List.eraseIdx_cons_succ, List.countP_cons, ih]
    omega
theorem cnt_app (x : Lt) (a b : List Lt) : cnt x (a ++ b) = cnt x a + cnt x b := List.countP_append
theorem cnt_erase {x l : Lt} {row : List Lt} {p : Nat} (h : row[p]? = some l) : cnt x row = cnt x (row.eraseIdx p) + if l = x then 1 else 0 := by
  have := cntP_erase (P := fun l => decide (l = x)) h
  unfold cnt
  rw [this]
  by_cases e : l = x
  · rw [if_pos e, if_pos (decide_eq_true e)]
  · rw [if_neg e, if_neg (by rw [decide_eq_false e]; decide)]
theorem cnt_back {x : Lt} {b : List Lt} (h : Backs b) (hx : x.1 ≠ "back") : cnt x b = 0 := by
  unfold cnt
  rw [List.countP_eq_zero]
  intro l hl q
  have := of_decide_eq_true q
  subst this
  exact hx (h _ hl)
theorem cnt_map {w w' : Str} {i a b : Int} : ∀ {rs : List Int}, cnt (w', a, b) (rs.map fun o => (w, i, o)) = if w = w' ∧ i = a then rs.count b else 0
  | [] => by simp [cnt]
  | o :: rs => by
    have ih := cnt_map (w := w) (w' := w') (i := i) (a := a) (b := b) (rs := rs)
    unfold cnt at ih ⊢
    rw [List.map_cons, List.countP_cons, ih]
    by_cases e : w = w' ∧ i = a
    · rw [if_pos e, if_pos e, List.count_cons]
      obtain ⟨rfl, rfl⟩ := e
      by_cases q : o = b
      · subst q
        simp
      · rw [if_neg (by rw [decide_eq_false (fun h => q (Prod.mk.inj (Prod.mk.inj h).2).2)]; decide), if_neg (by simpa using q)]
    · rw [if_neg e, if_neg e, if_neg (by
        intro q
        have := of_decide_eq_true q
        exact e ⟨(Prod.mk.inj this).1, (Prod.mk.inj (Prod.mk.inj this).2).1⟩)]
theorem cnt_mem {x : Lt} {row : List Lt} (h : x ∈ row) : 1 ≤ cnt x row := by
  unfold cnt
  exact List.countP_pos_iff.mpr ⟨x, h, decide_eq_true rfl⟩
theorem mem_cnt {x : Lt} {row : List Lt} (h : 1 ≤ cnt x row) : x ∈ row := by
  unfold cnt at h
  obtain ⟨l, hl, e⟩ := List.countP_pos_iff.mp h
  have := of_decide_eq_true e
  subst this
  exact hl
/-! ### the net -/
def hd (S : NS) (i : Int) : HS := handAt S.hands i.toNat
def inr (S : NS) (i : Int) : Prop := 0 ≤ i ∧ i < (S.hands.length : Int)
/-- an ask that was sent: on the way, or waiting for the other to be freed, or answered by a letter on the way, or told -/
def J1 (S : NS) (h j : Int) : Prop := cnt ("ask", h, j) S.row + (if (hd S j).free = true then 0 else (hd S j).askers.count h) + cnt ("freed", j, h) S.row + (hd S h).told.count j = if (hd S h).has = true ∧ j ∈ (hd S h).others then 1 else 0
structure NInv (S : NS) : Prop where
  num : ∀ i, inr S i → (hd S i).number = i
  fst : ∀ i, inr S i → (hd S i).first = decide (i = S.asker)
  oth : ∀ i, inr S i → (hd S i).others.Nodup ∧ ∀ x ∈ (hd S i).others, inr S x
  wrd : ∀ i, inr S i → (hd S i).free = false → ∃ b, (hd S i).word = some b
  row : ∀ l ∈ S.row, Wd3 l.1 ∧ inr S l.2.1 ∧ inr S l.2.2
  ask : ∀ i, inr S i → ∀ x ∈ (hd S i).askers, inr S x
  tol : ∀ i, inr S i → ∀ x ∈ (hd S i).told, inr S x
  wak : ∀ i k, inr S i → (hd S i).waker = some k → inr S k
  ask1 : inr S S.asker
  j1 : ∀ h j, inr S h → inr S j → J1 S h j
  akn : ∀ i, inr S i → (hd S i).askers.Nodup
theorem hd_of {S : NS} {i : Nat} {s : HS} (h : S.hands[i]? = some s) : hd S (i : Int) = s := by
  unfold hd
  rw [Int.toNat_natCast]
  exact handAt_of h
theorem hd_get {S : NS} {i : Int} (h : inr S i) : S.hands[i.toNat]? = some (hd S i) := by
  have hl : i.toNat < S.hands.length := by have := h.1; have := h.2; omega
  unfold hd handAt
  rw [List.getD_eq_getElem?_getD, List.getElem?_eq_getElem hl] <;> rfl
theorem inr_nat {S : NS} {i : Int} (h : inr S i) : i = (i.toNat : Int) := by have := h.1; omega
section
variable {S : NS} {p : Nat} {l : Lt}
theorem inr_bring {s : HS} {x : Int} : inr (bringS S p l s) x ↔ inr S x := by
  unfold inr
  show 0 ≤ x ∧ x < ((S.hands.set l.2.2.toNat _).length : Int) ↔ _
  rw [List.length_set]
theorem hd_bring {s : HS} {x : Int} (hi : inr S l.2.2) (hx : inr S x) : hd (bringS S p l s) x = if x = l.2.2 then (come s l.1 l.2.1).1 else hd S x := by
  unfold hd handAt
  show ((S.hands.set l.2.2.toNat (come s l.1 l.2.1).1).getD x.toNat _) = _
  have h1 := hi.1
  have h2 := hi.2
  have h3 := hx.1
  rw [List.getD_eq_getElem?_getD, List.getElem?_set]
  by_cases e : x = l.2.2
  · rw [if_pos e, if_pos (by rw [e]), if_pos (by omega)] <;> rfl
  · rw [if_neg e, if_neg (by omega), List.getD_eq_getElem?_getD]
end
theorem count_nodup : ∀ {l : List Int}, l.Nodup → ∀ x : Int, l.count x = if x ∈ l then 1 else 0
  | [], _, x => by simp
  | a :: l, h, x => by
    have h2 := List.nodup_cons.mp h
    rw [List.count_cons, count_nodup h2.2 x]
    by_cases e : a = x
    · subst e
      rw [if_neg h2.1, if_pos (beq_self_eq_true a), if_pos List.mem_cons_self]
    · rw [if_neg (show ¬ (a == x) = true by rw [beq_eq_false_iff_ne.mpr e]; decide)]
      by_cases m : x ∈ l
      · rw [if_pos m, if_pos (List.mem_cons_of_mem _ m)]
      · rw [if_neg m, if_neg (fun q => by rcases List.mem_cons.mp q with q | q; exact e q.symm; exact m q)]
end SB
/-! A net, plainly: the first state and each step keep what holds. -/
namespace SB
open PySem L2
theorem sub_lenN : ∀ {l m : List Int}, l.Nodup → (∀ x ∈ l, x ∈ m) → l.length ≤ m.length
  | [], _, _, _ => Nat.zero_le _
  | a :: l, m, nd, h => by
    have h1 := h a List.mem_cons_self
    have nd2 := (List.nodup_cons.mp nd)
    have ih := sub_lenN (l := l) (m := m.erase a) nd2.2 fun x hx => (List.mem_erase_of_ne (fun e => nd2.1 (by rw [← e]; exact hx))).mpr (h x (List.mem_cons_of_mem _ hx))
    rw [List.length_erase_of_mem h1] at ih
    have := List.length_pos_of_mem h1
    rw [List.length_cons]
    omega
theorem mem_bring {S : NS} {p : Nat} {l : Lt} {s : HS} {x : Lt} (h : x ∈ (bringS S p l s).row) : x ∈ S.row ∨ x ∈ (come s l.1 l.2.1).2 := by
  rcases List.mem_append.mp h with h | h
  · exact .inl (List.eraseIdx_subset h)
  · exact .inr h
theorem NInv.bring {S : NS} (h : NInv S) {p : Nat} {l : Lt} (hp : S.row[p]? = some l) : NInv (bringS S p l (hd S l.2.2)) := by
  obtain ⟨hwd, hj, hi⟩ := h.row l (List.mem_of_getElem? hp)
  obtain ⟨w, j, i⟩ := l
  replace hj : inr S j := hj
  replace hi : inr S i := hi
  replace hwd : Wd3 w := hwd
  show NInv (bringS S p (w, j, i) (hd S i))
  have kp := keep_come (s := hd S i) (w := w) (j := j)
  obtain ⟨b1, m, b2, els, cd⟩ := come_cd (hd S i) w j
  have hb1 := cd.b1
  have hb2 := cd.b2
  have hwk := fun k => cd.waker (k := k)
  have cc := cd.1
  have hnum := h.num i hi
  have hoth := h.oth i hi
  have hask := h.ask i hi
  have htol := h.tol i hi
  have hwak := h.wak i
  have hg : ∀ x, inr S x → hd (bringS S p (w, j, i) (hd S i)) x = if x = i then (come (hd S i) w j).1 else hd S x := fun x hx => hd_bring (l := (w, j, i)) hi hx
  have hin : ∀ x, inr (bringS S p (w, j, i) (hd S i)) x ↔ inr S x := fun x => inr_bring
  have hrow : (bringS S p (w, j, i) (hd S i)).row = S.row.eraseIdx p ++ (b1 ++ m ++ b2) := by rw [← els]; rfl
  have hw3 := come_w (s := hd S i) (w := w) (j := j)
  rw [els] at hw3
  generalize (come (hd S i) w j).1 = t at *
  have hto : ∀ x ∈ b1 ++ m ++ b2, x.2.1 = i ∧ inr S x.2.2 := by
    intro x hx
    rcases List.mem_append.mp hx with hx | hx
    · rcases List.mem_append.mp hx with hx | hx
      · obtain ⟨_, a, b⟩ := hb1 x hx
        exact ⟨a.trans hnum, by rw [b]; exact hj⟩
      · obtain ⟨a, b⟩ := cc.to x hx
        refine ⟨a.trans hnum, ?_⟩
        rcases b with b | b | b
        · rw [b]; exact hj
        · exact hoth.2 _ b
        · exact hask _ b
    · obtain ⟨_, a, b⟩ := hb2 x hx
      refine ⟨a.trans hnum, ?_⟩
      rcases b with b | b
      · rw [b]; exact hj
      · exact hwak _ hi b
  constructor
  · intro x hx
    rw [hin] at hx
    rw [hg x hx]
    split
    · rename_i e; rw [kp.number, hnum, e]
    · exact h.num x hx
  · intro x hx
    rw [hin] at hx
    rw [hg x hx]
    split
    · rename_i e; rw [kp.first, e]; exact h.fst i hi
    · exact h.fst x hx
  · intro x hx
    rw [hin] at hx
    rw [hg x hx]
    split
    · rw [kp.others]; exact ⟨hoth.1, fun y hy => (hin y).mpr (hoth.2 y hy)⟩
    · exact ⟨(h.oth x hx).1, fun y hy => (hin y).mpr ((h.oth x hx).2 y hy)⟩
  · intro x hx
    rw [hin] at hx
    rw [hg x hx]
    split
    · intro hf
      rw [kp.word]
      exact h.wrd i hi (cc.mono hf)
    · exact h.wrd x hx
  · intro x hx
    rw [hrow] at hx
    rcases List.mem_append.mp hx with hx | hx
    · obtain ⟨a, b, c⟩ := h.row x (List.eraseIdx_subset hx)
      exact ⟨a, (hin _).mpr b, (hin _).mpr c⟩
    · obtain ⟨a, b⟩ := hto x hx
      exact ⟨hw3 x hx, (hin _).mpr (by rw [a]; exact hi), (hin _).mpr b⟩
  · intro x hx y hy
    rw [hin] at hx ⊢
    rw [hg x hx] at hy
    split at hy
    · rcases cc.askers with e | e
      · rw [e] at hy; exact hask y hy
      · rw [e] at hy
        rcases List.mem_append.mp hy with hy | hy
        · exact hask y hy
        · rw [List.mem_singleton.mp hy]; exact hj
    · exact h.ask x hx y hy
  · intro x hx y hy
    rw [hin] at hx ⊢
    rw [hg x hx] at hy
    split at hy
    · rcases cc.told with e | e
      · rw [e] at hy; exact htol y hy
      · rw [e] at hy
        rcases List.mem_append.mp hy with hy | hy
        · exact htol y hy
        · rw [List.mem_singleton.mp hy]; exact hj
    · exact h.tol x hx y hy
  · intro x k hx hk
    rw [hin] at hx ⊢
    rw [hg x hx] at hk
    split at hk
    · rcases hwk k hk with e | e
      · rw [e]; exact hj
      · exact hwak k hi e
    · exact h.wak x k hx hk
  · rw [hin]; exact h.ask1
  · -- the asks that were sent
    intro x y hx hy
    rw [hin] at hx hy
    have hj1 := h.j1 x y hx hy
    unfold J1 at hj1 ⊢
    rw [hg x hx, hg y hy, hrow]
    have hB : ∀ z : Lt, z.1 ≠ "back" → cnt z (S.row.eraseIdx p ++ (b1 ++ m ++ b2)) + (if (w, j, i) = z then 1 else 0) = cnt z S.row + cnt z m := by
      intro z hz
      rw [cnt_app, cnt_app, cnt_app, cnt_back (fun l hl => (hb1 l hl).1) hz, cnt_back (fun l hl => (hb2 l hl).1) hz, cnt_erase (x := z) hp]
      omega
    have hA := hB ("ask", x, y) (by show ("ask" : Str) ≠ "back"; decide)
    have hF := hB ("freed", y, x) (by show ("freed" : Str) ≠ "back"; decide)
    have eA : ((w, j, i) = (("ask" : Str), x, y)) ↔ (w = "ask" ∧ j = x ∧ i = y) := by rw [Prod.mk.injEq, Prod.mk.injEq]
    have eF : ((w, j, i) = (("freed" : Str), y, x)) ↔ (w = "freed" ∧ j = y ∧ i = x) := by rw [Prod.mk.injEq, Prod.mk.injEq]
    simp only [eA] at hA
    simp only [eF] at hF
    generalize cnt (("ask" : Str), x, y) (S.row.eraseIdx p ++ (b1 ++ m ++ b2)) = a' at *
    generalize cnt (("freed" : Str), y, x) (S.row.eraseIdx p ++ (b1 ++ m ++ b2)) = f' at *
    have nb : ¬ ("back" : Str) = "ask" := by decide
    have nb2 : ¬ ("back" : Str) = "freed" := by decide
    have na : ¬ ("ask" : Str) = "freed" := by decide
    have nf : ¬ ("freed" : Str) = "ask" := by decide
    have zA : cnt (("ask" : Str), x, y) [] = 0 := rfl
    have zF : cnt (("freed" : Str), y, x) [] = 0 := rfl
    -- the hand's own lists
    have ct : ∀ (l : List Int) (u v : Int), (l ++ [u]).count v = l.count v + if u = v then 1 else 0 := by
      intro l u v
      rw [List.count_append, List.count_cons, List.count_nil, Nat.zero_add]
      by_cases e : u = v
      · rw [if_pos e, if_pos (by rw [e]; exact beq_self_eq_true v)]
      · rw [if_neg e, if_neg (by rw [beq_eq_false_iff_ne.mpr e]; decide)]
    cases cc with
    | c0 hw a1 a2 a3 a4 =>
      subst hw
      rw [zA, if_neg (fun q => nb q.1)] at hA
      rw [zF, if_neg (fun q => nb2 q.1)] at hF
      have e1 : (if y = i then t else hd S y).free = (hd S y).free := by split; rename_i e; rw [e, a1]; rfl
      have e2 : (if y = i then t else hd S y).askers = (hd S y).askers := by split; rename_i e; rw [e, a3]; rfl
      have e3 : (if x = i then t else hd S x).told = (hd S x).told := by split; rename_i e; rw [e, a4]; rfl
      have e4 : (if x = i then t else hd S x).has = (hd S x).has := by split; rename_i e; rw [e, a2]; rfl
      have e5 : (if x = i then t else hd S x).others = (hd S x).others := by split; rename_i e; rw [e, kp.others]; rfl
      rw [e1, e2, e3, e4, e5]
      omega
    | c1 hw hf a1 a2 a3 a4 =>
      subst hw
      rw [hnum] at hA hF
      have e1 : (if y = i then t else hd S y).free = (hd S y).free := by split; rename_i e; rw [e, a1, hf]; rfl
      have e2 : (if y = i then t else hd S y).askers = (hd S y).askers := by split; rename_i e; rw [e, a3]; rfl
      have e3 : (if x = i then t else hd S x).told = (hd S x).told := by split; rename_i e; rw [e, a4]; rfl
      have e4 : (if x = i then t else hd S x).has = (hd S x).has := by split; rename_i e; rw [e, a2]; rfl
      have e5 : (if x = i then t else hd S x).others = (hd S x).others := by split; rename_i e; rw [e, kp.others]; rfl
      rw [e1, e2, e3, e4, e5]
      have c1 : cnt (("ask" : Str), x, y) [(("freed" : Str), i, j)] = 0 := by
        have := cnt_map (w := "freed") (w' := "ask") (i := i) (a := x) (b := y) (rs := [j])
        rw [if_neg (fun q => nf q.1)] at this
        exact this
      have c2 : cnt (("freed" : Str), y, x) [(("freed" : Str), i, j)] = if j = x ∧ i = y then 1 else 0 := by
        have := cnt_map (w := "freed") (w' := "freed") (i := i) (a := y) (b := x) (rs := [j])
        rw [show [j].count x = if j = x then 1 else 0 by rw [List.count_cons, List.count_nil, Nat.zero_add]; by_cases e : j = x; rw [if_pos e, if_pos (by rw [e]; exact beq_self_eq_true x)]; rw [if_neg e, if_neg (by rw [beq_eq_false_iff_ne.mpr e]; decide)]] at this
        refine this.trans ?_
        by_cases q1 : i = y
        · by_cases q2 : j = x
          · rw [if_pos ⟨rfl, q1⟩, if_pos q2, if_pos ⟨q2, q1⟩]
          · rw [if_pos ⟨rfl, q1⟩, if_neg q2, if_neg (fun q => q2 q.1)]
        · rw [if_neg (fun q => q1 q.2), if_neg (fun q => q1 q.2)]
      rw [c1] at hA
      rw [c2, if_neg (fun q => na q.1)] at hF
      by_cases q : j = x ∧ i = y
      · rw [if_pos ⟨rfl, q⟩] at hA
        rw [if_pos q] at hF
        have ef : (hd S y).free = true := by rw [← q.2]; exact hf
        rw [ef, if_pos rfl] at hj1 ⊢
        omega
      · rw [if_neg (fun z => q z.2)] at hA
        rw [if_neg q] at hF
        omega
    | c2 hw hf hh a1 a2 a3 a4 =>
      subst hw
      rw [zA] at hA
      rw [zF, if_neg (fun q => na q.1)] at hF
      have e1 : (if y = i then t else hd S y).free = (hd S y).free := by split; rename_i e; rw [e, a1, hf]; rfl
      have e3 : (if x = i then t else hd S x).told = (hd S x).told := by split; rename_i e; rw [e, a4]; rfl
      have e4 : (if x = i then t else hd S x).has = (hd S x).has := by split; rename_i e; rw [e, a2, hh]; rfl
      have e5 : (if x = i then t else hd S x).others = (hd S x).others := by split; rename_i e; rw [e, kp.others]; rfl
      rw [e1, e3, e4, e5]
      by_cases qy : y = i
      · subst qy
        rw [if_pos rfl, a3, ct]
        rw [hf] at hj1 ⊢
        simp only [Bool.false_eq_true, if_false] at hj1 ⊢
        by_cases qx : j = x
        · rw [if_pos ⟨rfl, qx, rfl⟩] at hA
          rw [if_pos qx]
          omega
        · rw [if_neg (fun z => qx z.2.1)] at hA
          rw [if_neg qx]
          omega
      · rw [if_neg qy]
        rw [if_neg (fun z => qy z.2.2.symm)] at hA
        omega
    | c3 hw hf hh a1 a2 a3 a4 =>
      subst hw
      rw [hnum] at hA hF
      have cA := cnt_map (w := "ask") (w' := "ask") (i := i) (a := x) (b := y) (rs := (hd S i).others)
      have cF := cnt_map (w := "ask") (w' := "freed") (i := i) (a := y) (b := x) (rs := (hd S i).others)
      rw [if_neg (fun q => na q.1)] at cF
      rw [cF, if_neg (fun q => na q.1)] at hF
      have e1 : (if y = i then t else hd S y).free = (hd S y).free := by split; rename_i e; rw [e, a1, hf]; rfl
      have e3 : (if x = i then t else hd S x).told = (hd S x).told := by split; rename_i e; rw [e, a4]; rfl
      have e5 : (if x = i then t else hd S x).others = (hd S x).others := by split; rename_i e; rw [e, kp.others]; rfl
      rw [e1, e3, e5]
      -- the askers of y
      have ey : (if (hd S y).free = true then 0 else (if y = i then t else hd S y).askers.count x) = (if (hd S y).free = true then 0 else (hd S y).askers.count x) + if j = x ∧ i = y then 1 else 0 := by
        by_cases qy : y = i
        · subst qy
          rw [if_pos rfl, a3, ct, hf, if_neg Bool.false_ne_true, if_neg Bool.false_ne_true]
          by_cases qx : j = x
          · rw [if_pos qx, if_pos ⟨qx, rfl⟩]
          · rw [if_neg qx, if_neg (fun z => qx z.1)]
        · rw [if_neg qy, if_neg (show ¬ (j = x ∧ i = y) from fun z => qy z.2.symm)]
          omega
      rw [ey]
      have ejx : (if ("ask" : Str) = "ask" ∧ j = x ∧ i = y then 1 else 0) = if j = x ∧ i = y then 1 else 0 := by
        by_cases q : j = x ∧ i = y
        · rw [if_pos ⟨rfl, q⟩, if_pos q]
        · rw [if_neg (fun z => q z.2), if_neg q]
      rw [ejx] at hA
      by_cases qx : x = i
      · subst qx
        rw [if_pos ⟨rfl, rfl⟩, count_nodup hoth.1] at cA
        rw [cA] at hA
        rw [if_neg (show ¬ ((hd S x).has = true ∧ y ∈ (hd S x).others) from fun z => by rw [hh] at z; cases z.1)] at hj1
        rw [if_pos rfl, a2]
        by_cases qm : y ∈ (hd S x).others
        · rw [if_pos qm] at hA
          rw [if_pos (show true = true ∧ y ∈ (hd S x).others from ⟨rfl, qm⟩)]
          omega
        · rw [if_neg qm] at hA
          rw [if_neg (show ¬ (true = true ∧ y ∈ (hd S x).others) from fun z => qm z.2)]
          omega
      · rw [if_neg (fun z => qx z.2.symm)] at cA
        rw [cA] at hA
        rw [if_neg qx]
        omega
    | c4 hw1 hw2 hq a1 a2 a3 a4 =>
      have ew : w = "freed" := by rcases hwd with q | q | q; exact absurd q hw2; exact q; exact absurd q hw1
      subst ew
      rw [zA, if_neg (fun q => nf q.1)] at hA
      rw [zF] at hF
      have e1 : (if y = i then t else hd S y).free = (hd S y).free := by split; rename_i e; rw [e, a1]; rfl
      have e2 : (if y = i then t else hd S y).askers = (hd S y).askers := by split; rename_i e; rw [e, a3]; rfl
      have e4 : (if x = i then t else hd S x).has = (hd S x).has := by split; rename_i e; rw [e, a2]; rfl
      have e5 : (if x = i then t else hd S x).others = (hd S x).others := by split; rename_i e; rw [e, kp.others]; rfl
      rw [e1, e2, e4, e5]
      by_cases qx : x = i
      · subst qx
        rw [if_pos rfl, a4, ct]
        by_cases qy : j = y
        · rw [if_pos ⟨rfl, qy, rfl⟩] at hF
          rw [if_pos qy]
          omega
        · rw [if_neg (fun z => qy z.2.1)] at hF
          rw [if_neg qy]
          omega
      · rw [if_neg qx]
        rw [if_neg (fun z => qx z.2.2.symm)] at hF
        omega
    | c5 hw1 hw2 hf hq a1 a2 a3 a4 =>
      have ew : w = "freed" := by rcases hwd with q | q | q; exact absurd q hw2; exact q; exact absurd q hw1
      subst ew
      rw [hnum] at hA hF
      have cA := cnt_map (w := "freed") (w' := "ask") (i := i) (a := x) (b := y) (rs := (hd S i).askers)
      have cF := cnt_map (w := "freed") (w' := "freed") (i := i) (a := y) (b := x) (rs := (hd S i).askers)
      rw [if_neg (fun q => nf q.1)] at cA
      rw [cA, if_neg (fun q => nf q.1)] at hA
      have e4 : (if x = i then t else hd S x).has = (hd S x).has := by split; rename_i e; rw [e, a2]; rfl
      have e5 : (if x = i then t else hd S x).others = (hd S x).others := by split; rename_i e; rw [e, kp.others]; rfl
      rw [e4, e5]
      have ex : (if x = i then t else hd S x).told.count y = (hd S x).told.count y + if j = y ∧ i = x then 1 else 0 := by
        by_cases qx : x = i
        · subst qx
          rw [if_pos rfl, a4, ct]
          by_cases qy : j = y
          · rw [if_pos qy, if_pos ⟨qy, rfl⟩]
          · rw [if_neg qy, if_neg (fun z => qy z.1)]
        · rw [if_neg qx, if_neg (fun z => qx z.2.symm)]
          omega
      rw [ex]
      have ejx : (if ("freed" : Str) = "freed" ∧ j = y ∧ i = x then 1 else 0) = if j = y ∧ i = x then 1 else 0 := by
        by_cases q : j = y ∧ i = x
        · rw [if_pos ⟨rfl, q⟩, if_pos q]
        · rw [if_neg (fun z => q z.2), if_neg q]
      rw [ejx] at hF
      by_cases qy : y = i
      · subst qy
        rw [if_pos ⟨rfl, rfl⟩] at cF
        rw [cF] at hF
        rw [hf] at hj1
        simp only [Bool.false_eq_true, if_false] at hj1
        simp only [if_true, a1]
        omega
      · rw [if_neg (fun z => qy z.2.symm)] at cF
        rw [cF] at hF
        rw [if_neg qy]
        omega
  · intro x hx
    rw [hin] at hx
    rw [hg x hx]
    split
    · have hno : w = "ask" → (hd S i).free = false → j ∉ (hd S i).askers := fun ew ef => by
        have h1 := h.j1 j i hj hi
        unfold J1 at h1
        rw [ef, if_neg Bool.false_ne_true] at h1
        have h2 : 1 ≤ cnt (("ask" : Str), j, i) S.row := by rw [← ew]; exact cnt_mem (List.mem_of_getElem? hp)
        have h3 : (if (hd S j).has = true ∧ i ∈ (hd S j).others then 1 else 0) ≤ 1 := by split; exact Nat.le_refl 1; exact Nat.zero_le 1
        exact List.count_eq_zero.mp (by omega)
      have hsn : ∀ q : w = "ask" ∧ (hd S i).free = false, t.askers = (hd S i).askers ++ [j] → t.askers.Nodup := fun q e => by
        rw [e, List.nodup_append]
        exact ⟨h.akn i hi, List.nodup_cons.mpr ⟨List.not_mem_nil, List.nodup_nil⟩, fun a ha b hb e2 => hno q.1 q.2 (by rw [← List.mem_singleton.mp hb, ← e2]; exact ha)⟩
      cases cc with
      | c0 _ _ _ a => rw [a]; exact h.akn i hi
      | c1 _ _ _ _ a => rw [a]; exact h.akn i hi
      | c2 q1 q2 _ _ _ a => exact hsn ⟨q1, q2⟩ a
      | c3 q1 q2 _ _ _ a => exact hsn ⟨q1, q2⟩ a
      | c4 _ _ _ _ _ a => rw [a]; exact h.akn i hi
      | c5 _ _ _ _ _ _ a => rw [a]; exact h.akn i hi
    · exact h.akn x hx
/-- a freed letter that comes to a hand that waits: its sender has not told yet, and is waited for -/
theorem NInv.told {S : NS} (h : NInv S) {j i : Int} (hl : (("freed" : Str), j, i) ∈ S.row) : j ∈ (hd S i).others ∧ j ∉ (hd S i).told ∧ (hd S i).told.length + 1 ≤ (hd S i).others.length := by
  obtain ⟨_, hj, hi⟩ := h.row _ hl
  replace hj : inr S j := hj
  replace hi : inr S i := hi
  have h1 := h.j1 i j hi hj
  unfold J1 at h1
  have h2 := cnt_mem hl
  have hr : (hd S i).has = true ∧ j ∈ (hd S i).others := by
    by_cases q : (hd S i).has = true ∧ j ∈ (hd S i).others
    · exact q
    · rw [if_neg q] at h1; omega
  rw [if_pos hr] at h1
  have h3 : (hd S i).told.count j = 0 := by omega
  have hnj : j ∉ (hd S i).told := List.count_eq_zero.mp h3
  have hc : ∀ x ∈ (hd S i).told, (hd S i).told.count x = 1 ∧ x ∈ (hd S i).others := by
    intro x hx
    have h4 := h.j1 i x hi (h.tol i hi x hx)
    unfold J1 at h4
    have h5 := List.count_pos_iff.mpr hx
    by_cases q : (hd S i).has = true ∧ x ∈ (hd S i).others
    · rw [if_pos q] at h4
      exact ⟨by omega, q.2⟩
    · rw [if_neg q] at h4; omega
  have hnd : (hd S i).told.Nodup := by
    rw [List.nodup_iff_count]
    intro x
    by_cases hx : x ∈ (hd S i).told
    · rw [(hc x hx).1]; exact Nat.le_refl 1
    · rw [List.count_eq_zero.mpr hx]; exact Nat.zero_le 1
  refine ⟨hr.2, hnj, ?_⟩
  have := sub_lenN (l := j :: (hd S i).told) (m := (hd S i).others) (List.nodup_cons.mpr ⟨hnj, hnd⟩) (fun x hx => by
    rcases List.mem_cons.mp hx with rfl | hx
    · exact hr.2
    · exact (hc x hx).2)
  exact this
theorem NInv.told_nd {S : NS} (h : NInv S) {i : Int} (hi : inr S i) : (hd S i).told.Nodup := by
  rw [List.nodup_iff_count]
  intro x
  by_cases hx : x ∈ (hd S i).told
  · have h4 := h.j1 i x hi (h.tol i hi x hx)
    unfold J1 at h4
    have h3 : (if (hd S i).has = true ∧ x ∈ (hd S i).others then 1 else 0) ≤ 1 := by split; exact Nat.le_refl 1; exact Nat.zero_le 1
    omega
  · rw [List.count_eq_zero.mpr hx]; exact Nat.zero_le 1
theorem NInv.lens {S : NS} (h : NInv S) {i : Int} (hi : inr S i) : (hd S i).others.length ≤ S.hands.length ∧ (hd S i).askers.length ≤ S.hands.length ∧ (hd S i).told.length ≤ S.hands.length :=
  ⟨nodup_bound (h.oth i hi).1 (h.oth i hi).2, nodup_bound (h.akn i hi) (h.ask i hi), nodup_bound (h.told_nd hi) (h.tol i hi)⟩
theorem NInv.nbd {S : NS} (h : NInv S) (hn : S.hands.length ≤ 1000) (hr : S.row.length ≤ 50000) : NBd S := by
  refine ⟨fun s hs => ?_, hr⟩
  obtain ⟨i, hi⟩ := List.mem_iff_getElem?.mp hs
  have hlt := (List.getElem?_eq_some_iff.mp hi).1
  have hin : inr S (i : Int) := ⟨by omega, by omega⟩
  have := h.lens hin
  rw [hd_of hi] at this
  omega
theorem CC.len {s t : HS} {w : Str} {j : Int} {m : List Lt} (c : CC s w j t m) {n : Nat} (h1 : 1 ≤ n) (h2 : s.others.length ≤ n) (h3 : s.askers.length ≤ n) : m.length ≤ n := by
  cases c with
  | c0 => exact Nat.zero_le _
  | c1 => exact h1
  | c2 => exact Nat.zero_le _
  | c3 => rw [List.length_map]; exact h2
  | c4 => exact Nat.zero_le _
  | c5 => rw [List.length_map]; exact h3
theorem NInv.come_len {S : NS} (h : NInv S) {i : Int} (hi : inr S i) (w : Str) (j : Int) : (come (hd S i) w j).2.length ≤ S.hands.length + 2 := by
  obtain ⟨b1, m, b2, els, cd⟩ := come_cd (hd S i) w j
  obtain ⟨l1, l2, l3⟩ := h.lens hi
  have hpos : 1 ≤ S.hands.length := by have := hi.1; have := hi.2; omega
  have hm := cd.1.len hpos l1 l2
  have h1 : b1.length ≤ 1 := by
    obtain ⟨_, wk, ⟨_, e, _⟩ | ⟨_, ⟨_, e, _⟩ | ⟨_, e, _⟩, _⟩, _⟩ := cd
    · rw [e]; exact Nat.zero_le 1
    · rw [e]; exact Nat.le_refl 1
    · rw [e]; exact Nat.zero_le 1
  have h2 : b2.length ≤ 1 := by
    obtain ⟨_, wk, _, ⟨k, _, _, _, e⟩ | ⟨_, _, e⟩⟩ := cd
    · rw [e]; exact Nat.le_refl 1
    · rw [e]; exact Nat.zero_le 1
  rw [els, List.length_append, List.length_append]
  omega
theorem stepN {S : NS} (inv : NInv S) {p : Nat} {l : Lt} (hp : S.row[p]? = some l) : (bringS S p l (hd S l.2.2)).hands.length = S.hands.length ∧ (bringS S p l (hd S l.2.2)).row.length ≤ S.row.length + (S.hands.length + 2) ∧ (bringS S p l (hd S l.2.2)).asker = S.asker := by
  refine ⟨?_, ?_, rfl⟩
  · show (S.hands.set _ _).length = _
    rw [List.length_set]
  · obtain ⟨_, _, hi⟩ := inv.row l (List.mem_of_getElem? hp)
    have h1 := inv.come_len hi l.1 l.2.1
    show (S.row.eraseIdx p ++ _).length ≤ _
    rw [List.length_append]
    have h2 := List.length_eraseIdx_le S.row p
    omega
end SB
/-! A net, plainly: what holds at first. -/
namespace SB
open PySem L2
theorem mkH_oth {n : Nat} {i : Int} {w : Wt} {f : Bool} (h : okW n w) : (mkH i w f).others.Nodup ∧ ∀ x ∈ (mkH i w f).others, 0 ≤ x ∧ x < (n : Int) := by
  cases w with
  | none => exact ⟨List.nodup_nil, fun x hx => nomatch hx⟩
  | some p =>
    obtain ⟨b, os⟩ := p
    exact ⟨h.2.1, h.2.2⟩
theorem begin_keep (s : HS) : (begin s).1.number = s.number ∧ (begin s).1.first = s.first ∧ (begin s).1.others = s.others ∧ (begin s).1.free = s.free ∧ (begin s).1.word = s.word ∧ (begin s).1.askers = s.askers ∧ (begin s).1.told = s.told ∧ (begin s).1.waker = s.waker := by
  unfold begin
  split <;> exact ⟨rfl, rfl, rfl, rfl, rfl, rfl, rfl, rfl⟩
section
variable {ws : List Wt} {k : Nat}
theorem netS_len : (netS ws k).hands.length = ws.length := by
  show ((hands0 ws k).set k _).length = _
  rw [List.length_set, hands0_len]
theorem netS_inr {x : Int} : inr (netS ws k) x ↔ 0 ≤ x ∧ x < (ws.length : Int) := by unfold inr; rw [netS_len]
theorem hands0_hd {x : Int} (h0 : 0 ≤ x) {w : Wt} (h : ws[x.toNat]? = some w) : handAt (hands0 ws k) x.toNat = mkH x w (decide (x = (k : Int))) := by
  have h1 := hands0_at (k := k) h
  rw [handAt_of h1, show ((x.toNat : Nat) : Int) = x by omega]
theorem netS_hd {x : Int} (hx : inr (netS ws k) x) {w : Wt} (h : ws[x.toNat]? = some w) : hd (netS ws k) x = if x = (k : Int) then (begin (mkH x w true)).1 else mkH x w false := by
  have hx2 := netS_inr.mp hx
  have hlt := (List.getElem?_eq_some_iff.mp h).1
  have e0 := hands0_hd (k := k) hx2.1 h
  unfold hd
  show handAt ((hands0 ws k).set k (begin (handAt (hands0 ws k) k)).1) x.toNat = _
  by_cases e : x = (k : Int)
  · have ek : x.toNat = k := by omega
    rw [if_pos e]
    rw [ek] at e0 ⊢
    have : ((hands0 ws k).set k (begin (handAt (hands0 ws k) k)).1)[k]? = some (begin (handAt (hands0 ws k) k)).1 := List.getElem?_set_self (by rw [hands0_len]; omega)
    rw [handAt_of this, e0, decide_eq_true e]
  · rw [if_neg e]
    have : ((hands0 ws k).set k (begin (handAt (hands0 ws k) k)).1)[x.toNat]? = (hands0 ws k)[x.toNat]? := List.getElem?_set_ne (by omega)
    have e2 : ∀ l : List HS, handAt l x.toNat = (l[x.toNat]?).getD (mkH 0 none false) := fun l => by unfold handAt; exact List.getD_eq_getElem?_getD
    rw [e2, this, ← e2, e0, decide_eq_false e]
theorem at_ws {x : Int} (h0 : 0 ≤ x) (h : x < (ws.length : Int)) : ∃ w, ws[x.toNat]? = some w := ⟨ws[x.toNat]'(by omega), List.getElem?_eq_getElem (by omega)⟩
theorem NInv.start (ok : OkWs ws) (hk : k < ws.length) : NInv (netS ws k) := by
  have hki : inr (netS ws k) (k : Int) := netS_inr.mpr ⟨by omega, by omega⟩
  have key : ∀ x, inr (netS ws k) x → ∃ w, okW ws.length w ∧ hd (netS ws k) x = if x = (k : Int) then (begin (mkH x w true)).1 else mkH x w false := fun x hx => by
    have hx2 := netS_inr.mp hx
    obtain ⟨w, hw⟩ := at_ws hx2.1 hx2.2
    exact ⟨w, ok.all w (List.mem_of_getElem? hw), netS_hd hx hw⟩
  have hrow : ∃ w, okW ws.length w ∧ hd (netS ws k) (k : Int) = (begin (mkH (k : Int) w true)).1 ∧ (netS ws k).row = (begin (mkH (k : Int) w true)).2 := by
    obtain ⟨w, hw⟩ := at_ws (ws := ws) (x := (k : Int)) (by omega) (by omega)
    refine ⟨w, ok.all w (List.mem_of_getElem? hw), ?_, ?_⟩
    · have := netS_hd hki hw
      rw [if_pos rfl] at this
      exact this
    · have e := hands0_hd (k := k) (x := (k : Int)) (by omega) hw
      rw [decide_eq_true rfl] at e
      show (begin (handAt (hands0 ws k) k)).2 = _
      rw [Int.toNat_natCast] at e
      rw [e]
  constructor
  · intro x hx
    obtain ⟨w, _, e⟩ := key x hx
    rw [e]
    split
    · exact (begin_keep _).1
    · rfl
  · intro x hx
    obtain ⟨w, _, e⟩ := key x hx
    rw [e]
    show _ = decide (x = (k : Int))
    split
    · rename_i q; rw [(begin_keep _).2.1, decide_eq_true q]; rfl
    · rename_i q; rw [decide_eq_false q]; rfl
  · intro x hx
    obtain ⟨w, hw, e⟩ := key x hx
    rw [e]
    have h1 := mkH_oth (i := x) (f := true) hw
    have h2 := mkH_oth (i := x) (f := false) hw
    split
    · rw [(begin_keep _).2.2.1]
      exact ⟨h1.1, fun y hy => netS_inr.mpr (h1.2 y hy)⟩
    · exact ⟨h2.1, fun y hy => netS_inr.mpr (h2.2 y hy)⟩
  · intro x hx
    obtain ⟨w, hw, e⟩ := key x hx
    rw [e]
    have h1 : ∀ f, (mkH x w f).free = false → ∃ b, (mkH x w f).word = some b := fun f hf => by
      cases w with
      | none => cases hf
      | some p => exact ⟨p.1, rfl⟩
    split
    · rw [(begin_keep _).2.2.2.1, (begin_keep _).2.2.2.2.1]
      exact h1 true
    · exact h1 false
  · intro l hl
    obtain ⟨w, hw, _, er⟩ := hrow
    rw [er] at hl
    unfold begin at hl
    split at hl
    · cases hl
    · obtain ⟨o, ho, rfl⟩ := List.mem_map.mp hl
      have h1 := mkH_oth (i := (k : Int)) (f := true) hw
      exact ⟨.inl rfl, hki, netS_inr.mpr (h1.2 o ho)⟩
  · intro x hx y hy
    obtain ⟨w, hw, e⟩ := key x hx
    rw [e] at hy
    split at hy
    · rw [(begin_keep _).2.2.2.2.2.1] at hy; cases hy
    · cases hy
  · intro x hx y hy
    obtain ⟨w, hw, e⟩ := key x hx
    rw [e] at hy
    split at hy
    · rw [(begin_keep _).2.2.2.2.2.2.1] at hy; cases hy
    · cases hy
  · intro x y hx hy
    obtain ⟨w, hw, e⟩ := key x hx
    rw [e] at hy
    split at hy
    · rw [(begin_keep _).2.2.2.2.2.2.2] at hy; cases hy
    · cases hy
  · exact hki
  · intro x y hx hy
    unfold J1
    have e1 : (hd (netS ws k) y).askers = [] := by
      obtain ⟨w, hw, e⟩ := key y hy
      rw [e]
      split
      · rw [(begin_keep _).2.2.2.2.2.1]; rfl
      · rfl
    have e2 : (hd (netS ws k) x).told = [] := by
      obtain ⟨w, hw, e⟩ := key x hx
      rw [e]
      split
      · rw [(begin_keep _).2.2.2.2.2.2.1]; rfl
      · rfl
    rw [e1, e2]
    simp only [List.count_nil, ite_self, Nat.add_zero]
    obtain ⟨w0, hw0, eh, er⟩ := hrow
    have h1 := mkH_oth (i := (k : Int)) (f := true) hw0
    by_cases q : x = (k : Int)
    · subst q
      rw [eh, er]
      unfold begin
      cases hf : (mkH (k : Int) w0 true).free with
      | true =>
        rw [if_pos rfl]
        rw [if_neg (show ¬ ((mkH (k : Int) w0 true).has = true ∧ y ∈ (mkH (k : Int) w0 true).others) from fun z => by cases z.1)]
        rfl
      | false =>
        rw [if_neg Bool.false_ne_true]
        show cnt ("ask", (k : Int), y) ((mkH (k : Int) w0 true).others.map fun o => (("ask" : Str), (k : Int), o)) + cnt ("freed", y, (k : Int)) ((mkH (k : Int) w0 true).others.map fun o => (("ask" : Str), (k : Int), o)) = if true = true ∧ y ∈ (mkH (k : Int) w0 true).others then 1 else 0
        rw [cnt_map, cnt_map, if_pos ⟨rfl, rfl⟩, if_neg (show ¬ (("ask" : Str) = "freed" ∧ (k : Int) = y) from fun z => absurd z.1 (by decide)), count_nodup h1.1, Nat.add_zero]
        by_cases m : y ∈ (mkH (k : Int) w0 true).others
        · rw [if_pos m, if_pos ⟨rfl, m⟩]
        · rw [if_neg m, if_neg (fun z => m z.2)]
    · obtain ⟨w, hw, e⟩ := key x hx
      rw [e, if_neg q, er]
      rw [if_neg (show ¬ ((mkH x w false).has = true ∧ y ∈ (mkH x w false).others) from fun z => by cases z.1)]
      unfold begin
      split
      · rfl
      · show cnt ("ask", x, y) ((mkH (k : Int) w0 true).others.map fun o => (("ask" : Str), (k : Int), o)) + cnt ("freed", y, x) ((mkH (k : Int) w0 true).others.map fun o => (("ask" : Str), (k : Int), o)) = 0
        rw [cnt_map, cnt_map, if_neg (show ¬ (("ask" : Str) = "ask" ∧ (k : Int) = x) from fun z => q z.2.symm), if_neg (show ¬ (("ask" : Str) = "freed" ∧ (k : Int) = y) from fun z => absurd z.1 (by decide))]
  · intro x hx
    obtain ⟨w, hw, e⟩ := key x hx
    rw [e]
    split
    · rw [(begin_keep _).2.2.2.2.2.1]; exact List.nodup_nil
    · exact List.nodup_nil
end
end SB
/-! Law k11: what is seen of a net; what is no hand. -/
namespace SB
open PySem L2
section
variable {K : PySem.W.Frag} {A : Ad} {H : Hp} {Q : VK} {E : XK} {N : NR} {S : NS} {i : Nat} {s : HS}
theorem own_eq {P : HS → Prop} (hi : S.hands[i]? = some s) (k : P s) : ∀ (j : Nat) (t : HS), PyData.int (i : Int) = .int (j : Int) → S.hands[j]? = some t → P t := fun j t e es => by
  have e2 : (i : Int) = (j : Int) := by injection e
  have e3 : i = j := by omega
  subst e3
  rw [hi] at es
  cases es
  exact k
theorem owed_good (nh : NetH A H N S) (hi : S.hands[i]? = some s) (k : Q (.int s.owed) H) : pr_Net_owed_by K A (.ref N.x) (.int (i : Int)) H Q E :=
  ⟨N, S, .int (i : Int), rfl, nh, .int _, own_eq hi k, fun hf => hand_absurd rfl (List.getElem?_eq_some_iff.mp hi).1 hf⟩
theorem waker_good (nh : NetH A H N S) (hi : S.hands[i]? = some s) (k : Q (kOf s.waker) H) : pr_Net_waker_of K A (.ref N.x) (.int (i : Int)) H Q E :=
  ⟨N, S, .int (i : Int), rfl, nh, .int _, own_eq hi k, fun hf => hand_absurd rfl (List.getElem?_eq_some_iff.mp hi).1 hf⟩
end
def dKw : Option Int → PyData
  | none => .none
  | some i => .int i
theorem td_kw {F : Hp} (k : Option Int) : Td F (kOf k) (dKw k) := by
  cases k with
  | none => exact .non
  | some i => exact .int i
def bellW (s : HS) : PyData := if 0 < s.owed then .none else .bool (!s.free)
theorem td_bellW {F : Hp} (s : HS) : Td F (bellV s) (bellW s) := by
  unfold bellV bellW
  split
  · exact .non
  · exact .bl _
def owedsOf (S : NS) : List Int := (List.range S.hands.length).map fun (k : Nat) => (hd S (k : Int)).owed
def wakersOf (S : NS) : List (Option Int) := (List.range S.hands.length).map fun (k : Nat) => (hd S (k : Int)).waker
def seenD (S : NS) : PyData := .tuple [.list (dLts S.row), .int S.sent, bellW (hd S S.asker), .list ((shownTo S.hands S.hands.length).map PyData.int), .list ((owedsOf S).map PyData.int), .list ((wakersOf S).map dKw)]
theorem seen_shaped {S : NS} (h : ∀ l ∈ S.row, Wd3 l.1) : SeqAt.shaped (seenD S) = true := by
  have c1 := SeqAt.canLay_of_shaped (dLts_shaped h)
  have c2 := SeqAt.canLay_of_shaped (shaped_ints (shownTo S.hands S.hands.length))
  have c3 := SeqAt.canLay_of_shaped (shaped_ints (owedsOf S))
  have hk : ∀ k : Option Int, (dKw k).canLay0 = true ∧ (dKw k).depth ≤ 0 := fun k => by cases k <;> exact ⟨rfl, Nat.le_refl 0⟩
  have c4 : PyData.canLayAll0 ((wakersOf S).map dKw) = true := lay_map (fun k => (hk k).1) _
  have hb : (bellW (hd S S.asker)).canLay0 = true ∧ (bellW (hd S S.asker)).depth = 0 := by
    unfold bellW
    split
    · exact ⟨rfl, rfl⟩
    · exact ⟨rfl, rfl⟩
  have d1 : PyData.depthAll (dLts S.row) ≤ 1 := dep_map (f := dLt) (n := 1) (fun _ => Nat.le_refl 1) S.row
  have d2 : PyData.depthAll ((shownTo S.hands S.hands.length).map PyData.int) ≤ 0 := dep_map (f := PyData.int) (n := 0) (fun _ => Nat.le_refl 0) _
  have d3 : PyData.depthAll ((owedsOf S).map PyData.int) ≤ 0 := dep_map (f := PyData.int) (n := 0) (fun _ => Nat.le_refl 0) _
  have d4 : PyData.depthAll ((wakersOf S).map dKw) ≤ 0 := dep_map (f := dKw) (n := 0) (fun k => (hk k).2) _
  refine shaped_of ?_ ?_
  · show (PyData.canLay0 (.list (dLts S.row)) && (true && ((bellW (hd S S.asker)).canLay0 && (PyData.canLay0 (.list ((shownTo S.hands S.hands.length).map PyData.int)) && (PyData.canLay0 (.list ((owedsOf S).map PyData.int)) && (PyData.canLayAll0 ((wakersOf S).map dKw) && true)))))) = true
    rw [c1, c2, c3, c4, hb.1]
    rfl
  · show max (PyData.depthAll (dLts S.row) + 1) (max 0 (max (bellW (hd S S.asker)).depth (max (PyData.depthAll ((shownTo S.hands S.hands.length).map PyData.int) + 1) (max (PyData.depthAll ((owedsOf S).map PyData.int) + 1) (max (PyData.depthAll ((wakersOf S).map dKw) + 1) 0))))) + 1 ≤ 64
    have := hb.2
    omega
def pr_seen (K : PySem.W.Frag) (A : Ad) : V → V → Hp → VK → XK → Prop := fun x n H Q _ => ∃ (F : Hp) (N : NR) (S : NS) (rv : List V), Same F H ∧ x = .ref N.x ∧ n = .int (S.hands.length : Int) ∧ NetH A H N S ∧ H N.rl = some (.lst rv) ∧ TdA F rv (dLts S.row) ∧ S.hands.length ≤ 1000 ∧ inr S S.asker ∧ Ret F H Q (seenD S)
abbrev sp_seen (K : PySem.W.Frag) (A : Ad) : Sp := sp2 (pr_seen K A)
def t_seen (K : PySem.W.Frag) (A : Ad) : TS :=
    (tSeq (tAsg (tLc (iRng1 (tCons (tVar 1) tNil)) (gName 2) tYes (tMeth A.cNet "owed_by" (sp_Net_owed_by K A) [] E0 (tVar 0) (tCons (tVar 2) tNil)) [2]) (gName 3))
    (tRet (tTup (tCons (tMeth A.cNet "letters" (sp_Net_letters K A) [] E0 (tVar 0) tNil) (tCons (tMeth A.cNet "sent" (sp_Net_sent K A) [] E0 (tVar 0) tNil) (tCons (tMeth A.cNet "rung" (sp_Net_rung K A) [] E0 (tVar 0) tNil) (tCons (tMeth A.cNet "shown" (sp_Net_shown K A) [] E0 (tVar 0) tNil) (tCons (tVar 3) (tCons (tLc (iRng1 (tCons (tVar 1) tNil)) (gName 2) tYes (tMeth A.cNet "waker_of" (sp_Net_waker_of K A) [] E0 (tVar 0) (tCons (tVar 2) tNil)) [2]) tNil)))))))))
theorem rd_seen {K : PySem.W.Frag} {A : Ad} {x n : V} {H : Hp} {Q : VK} {E : XK} (h : pr_seen K A x n H Q E) : t_seen K A { nx := fun _ H' => Q .non H', rt := Q } [some x, some n, none, none] H := by
  obtain ⟨F, N, S, rv, sF, rfl, rfl, nh, hrl, hrv, hl, ha, q⟩ := h
  have hat : ∀ i : Nat, (i : Int) < (S.hands.length : Int) → S.hands[i]? = some (hd S (i : Int)) := fun i hi => by
    have es := hd_get (S := S) (i := (i : Int)) ⟨by omega, hi⟩
    rw [Int.toNat_natCast] at es
    exact es
  unfold t_seen
  walk_at "rd"
  refine lc_rng (by omega) (Zs.start sF) (fun i acc F' => acc = ((List.range i).map fun (k : Nat) => (hd S (k : Int)).owed).map V.int) (fun _ => rfl) rfl ?_ ?_
  · rintro i Dl F' H' acc hi Z' sm hacc rfl
    dsimp only [wipe, List.foldl_cons, List.foldl_nil, List.set_cons_succ, List.set_cons_zero]
    refine r_yes (ifT rfl ?_)
    walk_at "rd"
    have n2 := nh.up Z'.hh
    refine r_methQ n2.x rfl ?_
    walk_at "rd"
    refine owed_good n2 (hat i hi) ?_
    refine cy Z' sm hacc (by omega) ?_
    rw [List.range_succ, List.map_append, List.map_append] <;> rfl
  rintro p1 F1 H1 acc Z1 sm rfl
  rw [Int.toNat_natCast] at Z1
  replace Z1 : Zs F H F1 H1 [(p1, .lst ((owedsOf S).map V.int))] := Z1
  obtain ⟨F2, Z2, s2, e2⟩ := Z1.frzAt 0 rfl
  replace Z2 : Zs F H F2 H1 [] := Z2
  have n2 := nh.up Z2.hh
  walk_at "rd"
  refine r_methQ n2.x rfl ?_
  walk_at "rd"
  refine ⟨N, S, rfl, n2, ?_⟩
  intro H5 p5 vs5 Z5 _ h5
  rw [Z2.hh _ _ hrl] at h5
  cases h5
  obtain ⟨F6, Z6, s6, e6⟩ := (Z2.callL Z5).frzAt 0 rfl
  replace Z6 : Zs F H F6 H5 [] := Z6
  have n6 := nh.up Z6.hh
  walk_at "rd"
  refine r_methQ n6.x rfl ?_
  walk_at "rd"
  refine ⟨N, S, rfl, n6, ?_⟩
  walk_at "rd"
  refine r_methQ n6.x rfl ?_
  walk_at "rd"
  refine ⟨N, S, S.asker.toNat, hd S S.asker, rfl, n6, inr_nat ha, hd_get ha, ?_⟩
  walk_at "rd"
  refine r_methQ n6.x rfl ?_
  walk_at "rd"
  refine ⟨N, S, rfl, n6, hl, ?_⟩
  intro H7 p7 Z7
  obtain ⟨F8, Z8, s8, e8⟩ := (Z6.callL Z7).frzAt 0 rfl
  replace Z8 : Zs F H F8 H7 [] := Z8
  walk_at "rd"
  refine lc_rng (by omega) Z8 (fun i acc F' => acc = ((List.range i).map fun (k : Nat) => (hd S (k : Int)).waker).map kOf) (fun _ => rfl) rfl ?_ ?_
  · rintro i Dl F' H' acc hi Z' sm hacc rfl
    dsimp only [wipe, List.foldl_cons, List.foldl_nil, List.set_cons_succ, List.set_cons_zero]
    refine r_yes (ifT rfl ?_)
    walk_at "rd"
    have n9 := nh.up Z'.hh
    refine r_methQ n9.x rfl ?_
    walk_at "rd"
    refine waker_good n9 (hat i hi) ?_
    refine cy Z' sm hacc (by omega) ?_
    rw [List.range_succ, List.map_append, List.map_append] <;> rfl
  rintro p9 F9 H9 acc Z9 s9 rfl
  rw [Int.toNat_natCast] at Z9
  replace Z9 : Zs F H F9 H9 [(p9, .lst ((wakersOf S).map kOf))] := Z9
  walk_at "rd"
  refine r_mk (by show 6 ≤ sizeLine; decide) Z9 ?_
  intro pt H10 Z10
  obtain ⟨F11, Z11, s11, e11⟩ := Z10.frzAt 1 rfl
  obtain ⟨F12, Z12, s12, e12⟩ := Z11.frzAt 0 rfl
  have sx := s12
  refine q F12 _ _ Z12 ?_
  refine .tup e12 (.cons ?_ (.cons (.int _) (.cons (td_bellW _) (.cons ?_ (.cons ?_ (.cons ?_ .nil))))))
  · exact .lst (s12 _ _ (s11 _ _ (s9 _ _ (s8 _ _ e6)))) (hrv.up ((((((sm.trans s2).trans s6).trans s8).trans s9).trans s11).trans s12))
  · exact Td.ints_lst (s12 _ _ (s11 _ _ (s9 _ _ e8)))
  · exact Td.ints_lst (s12 _ _ (s11 _ _ (s9 _ _ (s8 _ _ (s6 _ _ e2)))))
  · exact .lst (s12 _ _ e11) (TdA.of_map td_kw _)
/-! ### what is no hand -/
def wrongD (pick size : Int) : PyData := [PyData.int size, .int (-1), .bool true, .bool false, .none, .str "0", .int ((10 : Int) ^ (30 : Int).toNat), .int (-size), .tuple [.int 0]].getD (pick % 9).toNat .none
theorem nine (x : Int) : x % 9 = 0 ∨ x % 9 = 1 ∨ x % 9 = 2 ∨ x % 9 = 3 ∨ x % 9 = 4 ∨ x % 9 = 5 ∨ x % 9 = 6 ∨ x % 9 = 7 ∨ x % 9 = 8 := by omega
theorem wrong_shaped (pick size : Int) : SeqAt.shaped (wrongD pick size) = true := by
  have h0 : SeqAt.shaped (.str "0") = true := by decide +kernel
  unfold wrongD
  rcases nine pick with e | e | e | e | e | e | e | e | e <;> rw [e] <;> first | rfl | exact h0
theorem hand_int {i m : Int} (h : i < 0 ∨ m ≤ i) : handD (.int i) m = false := by
  show (decide (0 ≤ i) && decide (i < m)) = false
  rcases h with h | h
  · rw [decide_eq_false (by omega), Bool.false_and]
  · rw [decide_eq_false (show ¬ i < m by omega), Bool.and_false]
/-- it is no hand of size many, and, but for size itself, no place of a row -/
theorem wrong_no {pick size m : Int} (h1 : 1 ≤ size) (h40 : m ≤ 100000) (h : m = size ∨ pick % 9 ≠ 0) : handD (wrongD pick size) m = false := by
  unfold wrongD
  have big : (100000 : Int) ≤ (10 : Int) ^ (30 : Int).toNat := by decide +kernel
  rcases nine pick with e | e | e | e | e | e | e | e | e <;> rw [e]
  · rcases h with h | h
    · exact hand_int (i := size) (.inr (by omega))
    · exact absurd e h
  · exact hand_int (i := -1) (.inl (by omega))
  · rfl
  · rfl
  · rfl
  · rfl
  · exact hand_int (i := (10 : Int) ^ (30 : Int).toNat) (.inr (by omega))
  · exact hand_int (i := -size) (.inl (by omega))
  · rfl
def pr_wrong (K : PySem.W.Frag) (A : Ad) : V → V → V → Hp → VK → XK → Prop := fun a b c H Q _ => ∃ (F : Hp) (pick size m : Int), Same F H ∧ a = .int pick ∧ b = .int size ∧ c = .int m ∧ Ret F H Q (wrongD pick size)
abbrev sp_wrong (K : PySem.W.Frag) (A : Ad) : Sp := sp3 (pr_wrong K A)
def t_wrong (K : PySem.W.Frag) (A : Ad) : TS :=
    (tRet (tOp (rIxL K) (tLst (tCons (tVar 1) (tCons (tUn qNeg (tC (.int 1))) (tCons (tC (.bl true)) (tCons (tC (.bl false)) (tCons (tC .non) (tCons (tC (.str "0")) (tCons (tOp qPow (tC (.int 10)) (tC (.int 30))) (tCons (tUn qNeg (tVar 1)) (tCons (tTup (tCons (tC (.int 0)) tNil)) tNil)))))))))) (tOp qMod (tVar 0) (tC (.int 9)))))
theorem rd_wrong {K : PySem.W.Frag} {A : Ad} {a b c : V} {H : Hp} {Q : VK} {E : XK} (h : pr_wrong K A a b c H Q E) : t_wrong K A { nx := fun _ H' => Q .non H', rt := Q } [some a, some b, some c] H := by
  obtain ⟨F, pick, size, m, sF, rfl, rfl, rfl, q⟩ := h
  unfold t_wrong
  walk_at "rd"
  refine r_un ?_
  refine r_c ?_
  refine r_rU ?_
  walk_at "rd"
  refine r_I ⟨by decide, by decide, by decide⟩ ?_
  walk_at "rd"
  refine r_un ?_
  walk_at "rd"
  refine r_rU ?_
  walk_at "rd"
  refine r_mk sz1 (Zs.start sF) ?_
  intro t H1 Z1
  walk_at "rd"
  refine r_mk (by show 9 ≤ sizeLine; decide) Z1 ?_
  intro p H2 Z2
  walk_at "rd"
  obtain ⟨F3, Z3, s3, e3⟩ := Z2.frzAt 1 rfl
  have hix : ∃ v, atI [V.int size, .int (-1), .bl true, .bl false, .non, .str "0", .int ((10 : Int) ^ (30 : Int).toNat), .int (-size), .ref t] (pick % 9) = some v ∧ Td F3 v (wrongD pick size) := by
    unfold wrongD
    rcases nine pick with e | e | e | e | e | e | e | e | e <;> rw [e]
    · exact ⟨_, at_i (by decide) rfl, .int _⟩
    · exact ⟨_, at_i (by decide) rfl, .int _⟩
    · exact ⟨_, at_i (by decide) rfl, .bl _⟩
    · exact ⟨_, at_i (by decide) rfl, .bl _⟩
    · exact ⟨_, at_i (by decide) rfl, .non⟩
    · exact ⟨_, at_i (by decide) rfl, .str _⟩
    · exact ⟨_, at_i (by decide) rfl, .int _⟩
    · exact ⟨_, at_i (by decide) rfl, .int _⟩
    · exact ⟨_, at_i (by decide) rfl, .tup e3 (.cons (.int _) .nil)⟩
  obtain ⟨v, hv, htd⟩ := hix
  refine r_ixL (SqL.of (Z3.get (i := 0) rfl)) hv ?_
  exact q F3 _ _ Z3.nil htd
end SB
namespace SB
open PySem L2
def pr_cell_at (K : PySem.W.Frag) (A : Ad) : V → V → Hp → VK → XK → Prop := fun a b H Q _ => ∃ p ns k, a = .ref p ∧ b = .int k ∧ SqL K H p (ns.map V.int) ∧ 0 ≤ k ∧ Q (.int (cellAt ns k)) H
abbrev sp_cell_at (K : PySem.W.Frag) (A : Ad) : Sp := sp2 (pr_cell_at K A)
def t_cell_at (K : PySem.W.Frag) (A : Ad) : TS :=
    (tSeq (tIfS (tTest (tOp qLt (tVar 1) (tCB (qLen K) (tCons (tVar 0) tNil))))
    (tRet (tOp (rIxL K) (tVar 0) (tVar 1)))
    tNext)
    (tRet (tC (.int 0))))
theorem rd_cell_at {K : PySem.W.Frag} {A : Ad} {a b : V} {H : Hp} {Q : VK} {E : XK} (h : pr_cell_at K A a b H Q E) : t_cell_at K A { nx := fun _ H' => Q .non H', rt := Q } [some a, some b] H := by
  obtain ⟨p, ns, k, rfl, rfl, hs, h0, q⟩ := h
  unfold t_cell_at
  walk_at "rd"
  refine r_lenL hs ?_
  walk_at "rd"
  refine ifd (fun h => ?_) (fun h => ?_)
  · walk_at "rd"
    refine r_ixL hs (at_i h0 (cellAt_lt h0 (by simpa using h))) ?_
    exact q
  · walk_at "rd"
    rw [← cellAt_ge (ns := ns) (k := k) (by simpa using h)]
    exact q
end SB
namespace SB
open PySem L2
/-! ### whom a hand of the law waits for -/
def moreBy (c d n m o0 k : Int) : Int := (o0 + 1 + n / (c + d * k) % m) % m
def othersBy (c d n m o0 : Int) : Nat → List Int
  | 0 => [o0]
  | i + 1 => if moreBy c d n m o0 (i : Nat) ∈ othersBy c d n m o0 i then othersBy c d n m o0 i else othersBy c d n m o0 i ++ [moreBy c d n m o0 (i : Nat)]
section
variable {c d n m o0 : Int}
theorem oth_0 : ∀ i : Nat, (othersBy c d n m o0 i)[0]? = some o0
  | 0 => rfl
  | i + 1 => by
    have ih := oth_0 i
    unfold othersBy
    split
    · exact ih
    · rw [List.getElem?_append_left (List.getElem?_eq_some_iff.mp ih).1]; exact ih
theorem oth_len : ∀ i : Nat, (othersBy c d n m o0 i).length ≤ i + 1
  | 0 => Nat.le_refl _
  | i + 1 => by
    have ih := oth_len i
    unfold othersBy
    split
    · omega
    · rw [List.length_append, List.length_singleton]; omega
theorem oth_ne (i : Nat) : othersBy c d n m o0 i ≠ [] := fun q => by
  have h := oth_0 (c := c) (d := d) (n := n) (m := m) (o0 := o0) i
  rw [q] at h
  cases h
theorem oth_nd : ∀ i : Nat, (othersBy c d n m o0 i).Nodup
  | 0 => by unfold othersBy; simp
  | i + 1 => by
    have ih := oth_nd i
    unfold othersBy
    split
    · exact ih
    · rename_i h
      rw [List.nodup_append]
      exact ⟨ih, by simp, fun a ha b hb => by
        rw [List.mem_singleton] at hb
        subst hb
        exact fun q => h (q ▸ ha)⟩
theorem more_in (hm : 0 < m) (k : Int) : 0 ≤ moreBy c d n m o0 k ∧ moreBy c d n m o0 k < m := ⟨Int.emod_nonneg _ (by omega), Int.emod_lt_of_pos _ hm⟩
theorem oth_in (hm : 0 < m) (h0 : 0 ≤ o0 ∧ o0 < m) : ∀ (i : Nat) (o : Int), o ∈ othersBy c d n m o0 i → 0 ≤ o ∧ o < m
  | 0, o, h => by
    unfold othersBy at h
    rw [List.mem_singleton] at h
    subst h
    exact h0
  | i + 1, o, h => by
    unfold othersBy at h
    split at h
    · exact oth_in hm h0 i o h
    · rcases List.mem_append.mp h with h | h
      · exact oth_in hm h0 i o h
      · rw [List.mem_singleton] at h
        subst h
        exact more_in hm _
theorem oth_ok (b : Bool) {z : Nat} (hz : m = (z : Int)) (hm : 0 < m) (h0 : 0 ≤ o0 ∧ o0 < m) (i : Nat) : okW z (some (b, othersBy c d n m o0 i)) :=
  ⟨oth_ne i, oth_nd i, fun o ho => by rw [← hz]; exact oth_in hm h0 i o ho⟩
end
/-- ["all", "any"][i] -/
theorem word_at {i : Int} (h0 : 0 ≤ i) (h1 : i < 2) : atI [V.str "all", V.str "any"] i = some (.str (wd (decide (i = 1)))) := by
  refine at_i h0 ?_
  rcases (show i = 0 ∨ i = 1 by omega) with e | e
  · subst e; rfl
  · subst e; rfl
/-- one hand waits for all hands, from any one on, backwards -/
def allBy (n w : Int) : List Int := (List.range n.toNat).map fun (k : Nat) => (n + w - (k : Int)) % n
theorem emod_inj {n c a b : Int} (ha : 0 ≤ a ∧ a < n) (hb : 0 ≤ b ∧ b < n) (h : (c - a) % n = (c - b) % n) : a = b := by
  have h1 : (b - a) % n = 0 := by
    have := Int.emod_eq_emod_iff_emod_sub_eq_zero.mp h
    rw [show c - a - (c - b) = b - a by omega] at this
    exact this
  have h2 : (a - b) % n = 0 := by
    have := Int.emod_eq_emod_iff_emod_sub_eq_zero.mp h.symm
    rw [show c - b - (c - a) = a - b by omega] at this
    exact this
  by_cases l : a ≤ b
  · rw [Int.emod_eq_of_lt (by omega) (by omega)] at h1; omega
  · rw [Int.emod_eq_of_lt (by omega) (by omega)] at h2; omega
theorem all_ok (b : Bool) {n w : Int} {z : Nat} (hz : n = (z : Int)) (hn : 0 < n) : okW z (some (b, allBy n w)) := by
  refine ⟨fun e => ?_, ?_, fun o m => ?_⟩
  · have : (allBy n w).length = n.toNat := by unfold allBy; rw [List.length_map, List.length_range]
    rw [e, List.length_nil] at this
    omega
  · unfold allBy
    rw [List.nodup_iff_pairwise_ne, List.pairwise_map]
    refine List.Pairwise.imp_of_mem (fun {a b} ha hb hne e => ?_) (List.nodup_iff_pairwise_ne.mp List.nodup_range)
    have := List.mem_range.mp ha
    have := List.mem_range.mp hb
    have := emod_inj (c := n + w) (a := (a : Int)) (b := (b : Int)) (n := n) (by omega) (by omega) e
    omega
  · unfold allBy at m
    obtain ⟨k, _, rfl⟩ := List.mem_map.mp m
    rw [← hz]
    exact ⟨Int.emod_nonneg _ (by omega), Int.emod_lt_of_pos _ hn⟩
theorem okws_set {ws : List Wt} {w : Wt} {j : Nat} (ok : OkWs ws) (h : okW ws.length w) : OkWs (ws.set j w) := by
  refine ⟨by rw [List.length_set]; exact ok.pos, by rw [List.length_set]; exact ok.most, fun x m => ?_⟩
  rw [List.length_set]
  rcases List.mem_or_eq_of_mem_set m with m | rfl
  · exact ok.all x m
  · exact h
end SB
/-! Law k11: its waits, its kinds. -/
namespace SB
open PySem L2
def sizeBy (ns : List Int) : Int := if cellAt ns 0 / 6 % 4 = 1 then 1 + cellAt ns 0 / 24 % 40 else 1 + cellAt ns 0 % 6
theorem size_in (ns : List Int) : 1 ≤ sizeBy ns ∧ sizeBy ns ≤ 40 := by unfold sizeBy; split <;> omega
def waitAt (ns : List Int) (i : Nat) : Wt := some (decide (((i : Int) + cellAt ns 0) % 2 = 1), [((i : Int) + 1) % sizeBy ns])
def waits0 (ns : List Int) : List Wt := (List.range (sizeBy ns).toNat).map (waitAt ns)
def waits1 (ns : List Int) : List Wt := if 0 < cellAt ns 1 % 3 then (waits0 ns).set (sizeBy ns - 1).toNat none else waits0 ns
theorem waits0_len (ns : List Int) : (waits0 ns).length = (sizeBy ns).toNat := by unfold waits0; rw [List.length_map, List.length_range]
theorem waits1_len (ns : List Int) : (waits1 ns).length = (sizeBy ns).toNat := by
  unfold waits1
  split
  · rw [List.length_set, waits0_len]
  · exact waits0_len ns
theorem waits0_ok (ns : List Int) : OkWs (waits0 ns) := by
  have h := size_in ns
  refine ⟨by rw [waits0_len]; omega, by rw [waits0_len]; omega, fun w hw => ?_⟩
  obtain ⟨i, _, rfl⟩ := List.mem_map.mp hw
  refine ⟨(fun z => nomatch z), List.nodup_cons.mpr ⟨List.not_mem_nil, List.nodup_nil⟩, fun o ho => ?_⟩
  rw [List.mem_singleton.mp ho, waits0_len]
  have h1 := Int.emod_nonneg ((i : Int) + 1) (show sizeBy ns ≠ 0 by omega)
  have h2 := Int.emod_lt_of_pos ((i : Int) + 1) (show 0 < sizeBy ns by omega)
  omega
theorem waits1_ok (ns : List Int) : OkWs (waits1 ns) := by
  unfold waits1
  split
  · exact okws_set (waits0_ok ns) True.intro
  · exact waits0_ok ns
/-- the hands handed to shows -/
def handsTo (more : Int) (i : Nat) : List Int := ((List.range i).filter fun (k : Nat) => decide (0 < ((k : Int) + more) % 3)).map fun (k : Nat) => (k : Int)
theorem hands_succ (more : Int) (i : Nat) : handsTo more (i + 1) = if 0 < ((i : Int) + more) % 3 then handsTo more i ++ [(i : Int)] else handsTo more i := by
  unfold handsTo
  rw [List.range_succ, List.filter_append, List.filter_cons]
  by_cases h : 0 < ((i : Int) + more) % 3
  · rw [if_pos h, if_pos (decide_eq_true h), List.map_append] <;> rfl
  · rw [if_neg h, if_neg (by rw [decide_eq_false h]; decide), List.filter_nil, List.append_nil]
theorem hands_len (more : Int) (i : Nat) : (handsTo more i).length ≤ i := by
  unfold handsTo
  rw [List.length_map]
  have := List.length_filter_le (fun (k : Nat) => decide (0 < ((k : Int) + more) % 3)) (List.range i)
  rw [List.length_range] at this
  exact this
def insW {α : Type} (row : List α) (p : Nat) (y : α) : List α := row.take p ++ [y] ++ row.drop p
theorem insW_mem {α : Type} (row : List α) (p : Nat) (y : α) : y ∈ insW row p y := by
  unfold insW
  exact List.mem_append.mpr (.inl (List.mem_append.mpr (.inr (List.mem_singleton.mpr rfl))))
theorem td_insW {F : Hp} {hs : List Int} {m : Nat} {y : V} {d : PyData} (h : Td F y d) : TdA F (insW (hs.map V.int) m y) (insW (hs.map PyData.int) m d) :=
  (((TdA.ints hs).take m).append (.cons h .nil)).append ((TdA.ints hs).drop m)
/-! ### waits that are none -/
def atOf (pick m : Int) : V := if pick = 1 ∧ m = 40 then .non else if pick = 1 then .int m else if pick = 2 then .int 0 else .non
theorem bad0 (ws : List Wt) : NeedBad (.tuple (ws.map dW)) .non := .inl ⟨fun ⟨ds, e, _⟩ => by (cases e), rfl⟩
theorem bad3 : NeedBad (.list []) .non := .inl ⟨fun ⟨ds, e, h, _⟩ => by cases e; exact absurd h (by decide), rfl⟩
theorem okW_more {n : Nat} {w : Wt} (h : okW n w) : okW (n + 1) w := by
  cases w with
  | none => exact True.intro
  | some p => exact ⟨h.1, h.2.1, fun o ho => by have := h.2.2 o ho; omega⟩
theorem bad1 {ws : List Wt} (ok : OkWs ws) : NeedBad (.list (ws.map dW ++ [.int 0])) (if ws.length = 40 then .non else .int (ws.length : Int)) := by
  have o1 := ok.pos
  have o2 := ok.most
  by_cases e : ws.length = 40
  · rw [if_pos e]
    refine .inl ⟨fun ⟨ds, e2, _, h⟩ => ?_, rfl⟩
    cases e2
    rw [List.length_append, List.length_map, List.length_singleton] at h
    omega
  · rw [if_neg e]
    have hl : (ws.map dW ++ [PyData.int 0]).length = ws.length + 1 := by rw [List.length_append, List.length_map, List.length_singleton]
    refine .inr ⟨ws.length, _, rfl, ⟨_, rfl, by omega, by omega⟩, ⟨⟨.int 0, ?_, ?_⟩, fun j y hj hy => ?_⟩, rfl⟩
    · rw [List.getElem?_append_right (by rw [List.length_map]; exact Nat.le_refl _), List.length_map, Nat.sub_self] <;> rfl
    · rintro ⟨w, e3, _⟩
      cases w with
      | none => cases e3
      | some p => cases e3
    · rw [List.getElem?_append_left (by rw [List.length_map]; exact hj), List.getElem?_map] at hy
      rw [hl]
      cases e3 : ws[j]? with
      | none => rw [e3] at hy; cases hy
      | some w =>
        rw [e3] at hy
        cases hy
        exact ⟨w, rfl, okW_more (ok.all w (List.mem_of_getElem? e3))⟩
theorem bad2 {ws : List Wt} (ok : OkWs ws) : NeedBad (.list ([PyData.tuple [.str "all", .list [.int (ws.length : Int)]]] ++ (ws.map dW).drop 1)) (.int 0) := by
  have o1 := ok.pos
  have o2 := ok.most
  have hl : ([PyData.tuple [.str "all", .list [.int (ws.length : Int)]]] ++ (ws.map dW).drop 1).length = ws.length := by
    rw [List.length_append, List.length_drop, List.length_map, List.length_singleton]
    omega
  refine .inr ⟨0, _, rfl, ⟨_, rfl, by omega, by omega⟩, ⟨⟨_, rfl, ?_⟩, fun j y hj => absurd hj (Nat.not_lt_zero _)⟩, rfl⟩
  rw [hl]
  rintro ⟨w, e, k⟩
  cases w with
  | none => cases e
  | some p =>
    obtain ⟨b, os⟩ := p
    have e2 := (tup_inj2 e).2
    have e3 : [PyData.int (ws.length : Int)] = os.map PyData.int := by injection e2
    cases os with
    | nil => cases e3
    | cons o os =>
      have e4 : PyData.int (ws.length : Int) = .int o := by injection e3
      have e5 : (ws.length : Int) = o := by injection e4
      have := k.2.2 o List.mem_cons_self
      omega
/-! ### the kinds -/
def dueS (i : Nat) : Str := if i ≤ 4 then "hand" else if i = 5 then "letter" else ""
def resOf (i : Nat) : Res := if i ≤ 4 then .hand else if i = 5 then .letter else .ok
theorem res_due (i : Nat) : resD (resOf i) = .str (dueS i) := by
  unfold resOf dueS
  split
  · rfl
  · split <;> rfl
theorem eight8 {i : Nat} (h : i < 8) : i = 0 ∨ i = 1 ∨ i = 2 ∨ i = 3 ∨ i = 4 ∨ i = 5 ∨ i = 6 ∨ i = 7 := by omega
theorem due_at {i : Nat} (h : i < 8) : atI [V.str "hand", .str "hand", .str "hand", .str "hand", .str "hand", .str "letter", .str "", .str ""] (i : Int) = some (.str (dueS i)) := by
  rcases eight8 h with rfl | rfl | rfl | rfl | rfl | rfl | rfl | rfl <;> exact atI_nat rfl
theorem due_shaped (i : Nat) : SeqAt.shaped (.str (dueS i)) = true := by
  unfold dueS
  split
  · decide +kernel
  · split <;> decide +kernel
theorem four_in {i : Nat} (h : i < 8) : inV (.int (i : Int)) [V.int 0, .int 1, .int 6, .int 7] = decide (i = 0 ∨ i = 1 ∨ i = 6 ∨ i = 7) := by
  rcases eight8 h with rfl | rfl | rfl | rfl | rfl | rfl | rfl | rfl <;> rfl
theorem deed_good {A : Ad} {H : Hp} {i : Nat} {w xv h : V} {N : NR} {S : NS} {ws : List Wt} {hsD : List PyData} {dx : PyData} (hi : i < 8) (nh : NetH A H N S) (hw : Td H w (dWs ws)) (ok : OkWs ws) (hx : Td H xv dx) (hh : Td H h (.list hsD))
    (hn : S.hands.length = ws.length) (hbad : ∃ y ∈ hsD, handD y (ws.length : Int) = false) (h1 : i ≠ 5 → handD dx (ws.length : Int) = false) (h5 : i = 5 → handD dx (S.row.length : Int) = false) : DeedP A H i w (.ref N.x) xv h (resOf i) := by
  refine ⟨N, S, dx, rfl, nh, hx, ?_⟩
  rcases eight8 hi with rfl | rfl | rfl | rfl | rfl | rfl | rfl | rfl
  · exact .inl ⟨rfl, .inr ⟨rfl, ws, hw, ok, h1 (by decide)⟩⟩
  · exact .inr (.inl ⟨rfl, .inr ⟨rfl, ws, hsD, hw, ok, hh, hbad⟩⟩)
  · exact .inr (.inr (.inl ⟨.inl rfl, rfl, by rw [hn]; exact h1 (by decide)⟩))
  · exact .inr (.inr (.inl ⟨.inr (.inl rfl), rfl, by rw [hn]; exact h1 (by decide)⟩))
  · exact .inr (.inr (.inl ⟨.inr (.inr rfl), rfl, by rw [hn]; exact h1 (by decide)⟩))
  · exact .inr (.inr (.inr (.inl ⟨rfl, rfl, h5 rfl⟩)))
  · exact .inr (.inr (.inr (.inr ⟨.inl rfl, .inr ⟨rfl, ws, hw, ok⟩⟩)))
  · exact .inr (.inr (.inr (.inr ⟨.inr rfl, .inr ⟨rfl, ws, hw, ok⟩⟩)))
theorem deed_bad {A : Ad} {H : Hp} {i : Nat} {w xv h v : V} {N : NR} {S : NS} {d dx : PyData} (hi : i = 0 ∨ i = 1 ∨ i = 6 ∨ i = 7) (nh : NetH A H N S) (hw : Td H w d) (hs : SeqAt.shaped d = true) (nb : NeedBad d v) (hx : Td H xv dx) : DeedP A H i w (.ref N.x) xv h (.waits v) := by
  refine ⟨N, S, dx, rfl, nh, hx, ?_⟩
  have b : BadW H w (.waits v) := ⟨d, v, rfl, hw, hs, nb⟩
  rcases hi with rfl | rfl | rfl | rfl
  · exact .inl ⟨rfl, .inl b⟩
  · exact .inr (.inl ⟨rfl, .inl b⟩)
  · exact .inr (.inr (.inr (.inr ⟨.inl rfl, .inl b⟩)))
  · exact .inr (.inr (.inr (.inr ⟨.inr rfl, .inl b⟩)))
theorem vD_shaped (v : V) : SeqAt.shaped (.tuple [.str "waits", vD v]) = true := by
  have h1 : (PyData.str "waits").canLay0 = true := by decide +kernel
  have h2 : (vD v).canLay0 = true ∧ (vD v).depth = 0 := by unfold vD; split <;> exact ⟨rfl, rfl⟩
  refine shaped_of ?_ ?_
  · show ((PyData.str "waits").canLay0 && ((vD v).canLay0 && true)) = true
    rw [h1, h2.1] <;> rfl
  · show max 0 (max (vD v).depth 0) + 1 ≤ 64
    have := h2.2
    omega
theorem bad_shaped (ws : List Wt) : SeqAt.shaped (.tuple (ws.map dW)) = true ∧ SeqAt.shaped (.list (ws.map dW ++ [.int 0])) = true ∧ SeqAt.shaped (.list ([PyData.tuple [.str "all", .list [.int (ws.length : Int)]]] ++ (ws.map dW).drop 1)) = true := by
  have hl : ∀ x ∈ ws.map dW, x.canLay0 = true ∧ x.depth ≤ 2 := fun x hx => by
    obtain ⟨w, _, rfl⟩ := List.mem_map.mp hx
    exact ⟨dW_lay w, dW_dep w⟩
  have hall : ∀ l : List PyData, (∀ x ∈ l, x.canLay0 = true ∧ x.depth ≤ 2) → PyData.canLayAll0 l = true ∧ PyData.depthAll l ≤ 2 := fun l => by
    induction l with
    | nil => intro _; exact ⟨rfl, Nat.zero_le _⟩
    | cons a l ih =>
      intro h
      obtain ⟨h1, h2⟩ := h a List.mem_cons_self
      obtain ⟨h3, h4⟩ := ih fun x hx => h x (List.mem_cons_of_mem _ hx)
      exact ⟨by show (a.canLay0 && PyData.canLayAll0 l) = true; rw [h1, h3] <;> rfl, by show max a.depth (PyData.depthAll l) ≤ 2; omega⟩
  have ha : (PyData.str "all").canLay0 = true := by decide +kernel
  have g1 := hall _ hl
  have g2 := hall (ws.map dW ++ [.int 0]) fun x hx => by
    rcases List.mem_append.mp hx with hx | hx
    · exact hl x hx
    · rw [List.mem_singleton.mp hx]; exact ⟨rfl, Nat.zero_le _⟩
  have g3 := hall ([PyData.tuple [.str "all", .list [.int (ws.length : Int)]]] ++ (ws.map dW).drop 1) fun x hx => by
    rcases List.mem_append.mp hx with hx | hx
    · rw [List.mem_singleton.mp hx]
      exact ⟨by show ((PyData.str "all").canLay0 && ((true && true) && true)) = true; rw [ha] <;> rfl, by show max 0 (max (max 0 0 + 1) 0) + 1 ≤ 2; omega⟩
    · exact hl x (List.drop_subset _ _ hx)
  exact ⟨shaped_of g1.1 (by show PyData.depthAll _ + 1 ≤ 64; omega), shaped_of g2.1 (by show PyData.depthAll _ + 1 ≤ 64; omega), shaped_of g3.1 (by show PyData.depthAll _ + 1 ≤ 64; omega)⟩
end SB
/-! Law k11: the law, walked. -/
namespace SB
open PySem L2
abbrev sl11 (p : Addr) (c m : Int) (pw : Addr) (mo : Int) (wv : V) (nx : Addr) (y9 y11 y12 y13 y14 y15 y16 y17 y18 y19 : Option V) : St :=
  [some (.ref p), some (.int c), some (.int m), none, some (.ref pw), some (.int mo), some wv, none, some (.ref nx), y9, none, y11, y12, y13, y14, y15, y16, y17, y18, y19]
structure LS11 (A : Ad) (H F1 F' H' : Hp) (k m : Nat) (N : NR) (S : NS) (rv : List V) : Prop where
  sm : Same F1 F'
  z : Zs H H F' H' (nL A N S rv [])
  f : NFz F' N S
  hrv : TdA F' rv (dLts S.row)
  inv : NInv S
  ak : S.asker = (k : Int)
  hn : S.hands.length = m
theorem LS11.nh {A : Ad} {H F1 F' H' : Hp} {k m : Nat} {N : NR} {S : NS} {rv : List V} (h : LS11 A H F1 F' H' k m N S rv) : NetH A H' N S := NetH.of h.z h.f h.hrv
/-- one more turn of the kinds -/
def t_kind11 (K : PySem.W.Frag) (A : Ad) : TS :=
    (tSeq (tAsg (tOp qMod (tOp qAdd (tVar 16) (tOp qDiv (tCall (sp_cell_at K A) [] E0 (tCons (tVar 0) (tCons (tC (.int 3)) tNil))) (tC (.int 4)))) (tC (.int 2))) (gName 17))
    (tSeq (tAsg (tOp (rIxL K) (tLst (tCons (tC (.str "hand")) (tCons (tC (.str "hand")) (tCons (tC (.str "hand")) (tCons (tC (.str "hand")) (tCons (tC (.str "hand")) (tCons (tC (.str "letter")) (tCons (tC (.str "")) (tCons (tC (.str "")) tNil))))))))) (tVar 16)) (gName 18))
    (tSeq (tAsg (tVar 6) (gName 19))
    (Evl.tCut (tIfS (tAnd (tTest (tOp rEq (tVar 16) (tC (.int 5)))) (tAnd (tTest (tOp (rEqD K) (tVar 6) (tVar 2))) (tNot (tB (tCB (rIsi K) (tCons (tVar 6) (tCons (tC (.ty "bool")) tNil)))))))
    (tAsg (tCB (qLen K) (tCons (tOp (rIxT K) (tVar 12) (tC (.int 0))) tNil)) (gName 19))
    tNext)
    (tSeq (tIfS (tTest (tOp (rNeD K) (tCall (sp_said K A) [] E0 (tCons (tVar 17) (tCons (tVar 16) (tCons (tLc (iList K (tVar 4)) (gName 7) tYes (tVar 7) [7]) (tCons (tVar 8) (tCons (tVar 19) (tCons (tCB (qListOf K) (tCons (tVar 11) tNil)) tNil))))))) (tVar 18)))
    (tRet (tC (.bl false)))
    tNext)
    (Evl.tCut (tIfS (tTest (tOp (rIn K false) (tVar 16) (tTup (tCons (tC (.int 0)) (tCons (tC (.int 1)) (tCons (tC (.int 6)) (tCons (tC (.int 7)) tNil)))))))
    (tIfS (tTest (tOp (rNeD K) (tCall (sp_said K A) [] E0 (tCons (tVar 17) (tCons (tVar 16) (tCons (tVar 14) (tCons (tVar 8) (tCons (tVar 6) (tCons (tCB (qListOf K) (tCons (tVar 11) tNil)) tNil))))))) (tTup (tCons (tC (.str "waits")) (tCons (tVar 15) tNil)))))
    (tRet (tC (.bl false)))
    tNext)
    tNext)
    (tIfS (tTest (tOp (rNeD K) (tCall (sp_seen K A) [] E0 (tCons (tVar 8) (tCons (tVar 2) tNil))) (tVar 12)))
    (tRet (tC (.bl false)))
    tNext)))))))
theorem rd_kind {K : PySem.W.Frag} {A : Ad} {D : Ends} {H F H' : Hp} {p pw nx ph pb : Addr} {ns hs : List Int} {ws : List Wt} {c mo : Int} {wv bv : V} {bd : PyData} {atV : V} {y9 y13 y17 y18 y19 : Option V} {i j : Nat} {k : Nat} {N : NR} {S : NS} {rv xs hv : List V} {bvs : List V}
    (hi : i < 8) (hsc : SqL K H p (ns.map V.int)) (ok : OkWs ws) (enx : nx = N.x) (L : LS11 A H F F H' k ws.length N S rv) (hrow : S.row.length ≤ 50000)
    (hw : F pw = some (.lst xs)) (hx : TdA F xs (ws.map dW)) (hwv : Td F wv (wrongD mo (ws.length : Int))) (hph : F ph = some (.lst hv)) (hhd : TdA F hv (insW (hs.map PyData.int) j (wrongD mo (ws.length : Int)))) (hhl : hv.length ≤ 1000)
    (hbv : Td F bv bd) (hbs : SeqAt.shaped bd = true) (hnb : NeedBad bd atV) (hpb : F pb = some (.tup bvs)) (hpbd : Td F (.ref pb) (seenD S))
    (hq : ∀ H2 z17 z18 z19, LS11 A H F F H2 k ws.length N S rv → D.nx (sl11 p c (ws.length : Int) pw mo wv nx y9 (some (.ref ph)) (some (.ref pb)) y13 (some bv) (some atV) (some (.int (i : Int))) z17 z18 z19) H2) :
    t_kind11 K A D (sl11 p c (ws.length : Int) pw mo wv nx y9 (some (.ref ph)) (some (.ref pb)) y13 (some bv) (some atV) (some (.int (i : Int))) y17 y18 y19) H' := by
  subst enx
  have o1 := ok.pos
  have o2 := ok.most
  have hxl : xs.length = ws.length := by rw [hx.len, List.length_map]
  have hrvl := L.hrv.len
  rw [len_dLts] at hrvl
  have hshs : SeqAt.shaped (seenD S) = true := seen_shaped fun l hl => (L.inv.row l hl).1
  unfold t_kind11
  walk_at "rd"
  refine ⟨p, ns, 3, rfl, rfl, L.z.hh.seq hsc, by decide, ?_⟩
  walk_at "rd"
  generalize ((i : Int) + cellAt ns 3 / 4) % 2 = way
  refine r_mk (by show 8 ≤ sizeLine; decide) L.z ?_
  intro p2 H2 Z2
  walk_at "rd"
  refine r_ixL (SqL.of (Z2.get (i := 0) rfl)) (due_at hi) ?_
  have L : LS11 A H F F H2 k ws.length N S rv := { L with z := Z2.drop }
  walk_at "rd"
  refine r_cut (fun σ' H3 => ∃ (pv : V) (pd : PyData), σ' = sl11 p c (ws.length : Int) pw mo wv N.x y9 (some (.ref ph)) (some (.ref pb)) y13 (some bv) (some atV) (some (.int (i : Int))) (some (.int way)) (some (.str (dueS i))) (some pv) ∧ H3 = H2 ∧ Td F pv pd ∧ (i ≠ 5 → handD pd (ws.length : Int) = false) ∧ (i = 5 → handD pd (S.row.length : Int) = false)) ?_ ?_
  · walk_at "rd"
    have hlen5 : ∀ R : Prop, R → R := fun _ r => r
    refine ifd (fun h5 => ?_) (fun h5 => ?_)
    · have h5' : i = 5 := by omega
      have hplace : ∃ (pl : Addr) (zs : List V), F pl = some (.lst zs) ∧ zs.length = S.row.length ∧ bvs[0]? = some (.ref pl) := by
        obtain ⟨a, ys, e, h1, h2⟩ := Td.inv_tup hpbd
        cases e
        rw [hpb] at h1
        cases h1
        cases h2 with
        | cons k1 k2 =>
          obtain ⟨pl, zs, rfl, g1, g2⟩ := k1.inv_lst
          exact ⟨pl, zs, g1, by rw [g2.len, len_dLts], rfl⟩
      obtain ⟨pl, zs, hpl, hzl, hb0⟩ := hplace
      walk_at "rd"
      refine r_eqD (hwv.up L.z.fh) (.int _) (wrong_shaped _ _) rfl ?_
      walk_at "rd"
      by_cases h9 : mo % 9 = 0
      · have ew : wrongD mo (ws.length : Int) = .int (ws.length : Int) := by
          unfold wrongD
          rw [h9]
          rfl
        rw [ew, eqv_refl (d := .int (ws.length : Int)) rfl]
        refine ifT rfl ?_
        walk_at "rd"
        rw [ew] at hwv
        refine r_isi (hwv.up L.z.fh) (ki_bool _) ?_
        walk_at "rd"
        refine ifT rfl ?_
        walk_at "rd"
        refine r_ixT (SqT.of (L.z.fix hpb)) (at_i (by decide) hb0) ?_
        walk_at "rd"
        refine r_lenL (SqL.of (L.z.fix hpl)) ?_
        rw [hzl]
        walk_at "rd"
        exact ⟨_, _, rfl, rfl, .int _, fun z => absurd h5' z, fun _ => hand_int (.inr (Int.le_refl _))⟩
      · have hno := wrong_no (pick := mo) (size := (ws.length : Int)) (m := (S.row.length : Int)) (by omega) (by omega) (.inr h9)
        refine ifb (fun _ => ?_) (fun _ => ?_)
        · walk_at "rd"
          refine r_isi (hwv.up L.z.fh) (ki_bool _) ?_
          walk_at "rd"
          refine ifnb (fun _ => ?_) (fun _ => ?_)
          · walk_at "rd"
            refine r_ixT (SqT.of (L.z.fix hpb)) (at_i (by decide) hb0) ?_
            walk_at "rd"
            refine r_lenL (SqL.of (L.z.fix hpl)) ?_
            rw [hzl]
            walk_at "rd"
            exact ⟨_, _, rfl, rfl, .int _, fun z => absurd h5' z, fun _ => hand_int (.inr (Int.le_refl _))⟩
          · walk_at "rd"
            exact ⟨_, _, rfl, rfl, hwv, fun z => absurd h5' z, fun _ => hno⟩
        · refine ifF rfl ?_
          walk_at "rd"
          exact ⟨_, _, rfl, rfl, hwv, fun z => absurd h5' z, fun _ => hno⟩
    · have h5' : i ≠ 5 := by omega
      refine ifF rfl ?_
      walk_at "rd"
      exact ⟨_, _, rfl, rfl, hwv, fun _ => wrong_no (by omega) (by omega) (.inl rfl), fun z => absurd z h5'⟩
  rintro σ' H3 ⟨pv, pd, rfl, rfl, hpv, hp1, hp5⟩
  walk_at "rd"
  refine lc_copy (SqL.of (L.z.fix hw)) (by omega) L.z (fun F' H' Z' sm => SqL.of (Z'.fix (sm _ _ hw))) (fun _ => rfl) (fun _ => rfl) ?_
  intro Dl H4 Z4
  walk_at "rd"
  refine r_listL (SqL.of (Z4.fix hph)) Z4 ?_
  intro lh H5 Z5
  walk_at "rd"
  refine r_sp6 ?_
  have nh5 := NetH.of Z5.drop.drop L.f L.hrv
  have hbad : ∃ y ∈ insW (hs.map PyData.int) j (wrongD mo (ws.length : Int)), handD y (ws.length : Int) = false := ⟨_, insW_mem _ _ _, wrong_no (by omega) (by omega) (.inl rfl)⟩
  refine ⟨way, rfl, F, i, resOf i, rfl, Z5.fh, deed_good hi nh5 (.lst (Z5.get (i := 1) rfl) (hx.up Z5.fh)) ok (hpv.up Z5.fh) (.lst (Z5.get (i := 0) rfl) (hhd.up Z5.fh)) L.hn hbad hp1 hp5, fun F6 H6 v6 Z6 hv6 => ?_⟩
  rw [res_due] at hv6
  have Z7 : Zs H H F H6 (nL A N S rv []) := ((Z5.call Z6).drop.drop).weak L.z.ff Z6.ff
  have L : LS11 A H F F H6 k ws.length N S rv := { L with z := Z7 }
  refine r_var rfl ?_
  refine r_neD (hv6.up Z6.fh) (.str _) (due_shaped i) (due_shaped i) ?_
  rw [eqv_refl (due_shaped i)]
  walk_at "rd"
  refine ifF rfl ?_
  walk_at "rd"
  refine r_cut (fun σ' H3 => σ' = sl11 p c (ws.length : Int) pw mo wv N.x y9 (some (.ref ph)) (some (.ref pb)) y13 (some bv) (some atV) (some (.int (i : Int))) (some (.int way)) (some (.str (dueS i))) (some pv) ∧ LS11 A H F F H3 k ws.length N S rv) ?_ ?_
  · walk_at "rd"
    refine r_mk (by show 4 ≤ sizeLine; decide) L.z ?_
    intro pt H8 Z8
    refine r_inT (SqT.of (Z8.get (i := 0) rfl)) rfl rfl ?_
    rw [if_neg Bool.false_ne_true, four_in hi]
    have L : LS11 A H F F H8 k ws.length N S rv := { L with z := Z8.drop }
    walk_at "rd"
    refine ifd (fun h4 => ?_) (fun h4 => ?_)
    · walk_at "rd"
      refine r_listL (SqL.of (L.z.fix hph)) L.z ?_
      intro lh2 H9 Z9
      walk_at "rd"
      refine r_sp6 ?_
      have nh9 := NetH.of Z9.drop L.f L.hrv
      refine ⟨way, rfl, F, i, .waits atV, rfl, Z9.fh, deed_bad h4 nh9 (hbv.up Z9.fh) hbs hnb (hwv.up Z9.fh), fun F10 H10 v10 Z10 hv10 => ?_⟩
      have Z11 : Zs H H F10 H10 (nL A N S rv []) := (Z9.call Z10).drop
      walk_at "rd"
      refine r_mk sz2 Z11 ?_
      intro pt2 H12 Z12
      have h13 : Td H12 v10 (.tuple [.str "waits", vD atV]) := hv10.up Z12.fh
      refine r_neD h13 (.tup (Z12.get (i := 0) rfl) (.cons (.str _) (.cons (vD_td hnb) .nil))) (vD_shaped atV) (vD_shaped atV) ?_
      rw [eqv_refl (vD_shaped atV)]
      walk_at "rd"
      refine ifF rfl ?_
      walk_at "rd"
      exact ⟨rfl, { L with z := Z12.drop.weak L.z.ff Z10.ff }⟩
    · walk_at "rd"
      exact ⟨rfl, L⟩
  rintro σ' H8 ⟨rfl, L⟩
  walk_at "rd"
  refine ⟨F, N, S, rv, L.z.fh, rfl, by rw [L.hn], L.nh, L.z.get (i := 1) rfl, L.hrv, by rw [L.hn]; omega, L.inv.ask1, fun F9 H9 v9 Z9 hv9 => ?_⟩
  have Z10 : Zs H H F H9 (nL A N S rv []) := (L.z.call Z9).weak L.z.ff Z9.ff
  refine r_var rfl ?_
  refine r_neD (hv9.up Z9.fh) (hpbd.up Z10.fh) hshs hshs ?_
  rw [eqv_refl hshs]
  walk_at "rd"
  refine ifF rfl ?_
  refine r_next ?_
  exact hq H9 _ _ _ { L with z := Z10 }
end SB
/-! Law k11: the law. -/
namespace SB
open PySem L2
def t_law (K : PySem.W.Frag) (A : Ad) : TS :=
    (tSeq (tAsg (tCall (sp_cell_at K A) [] E0 (tCons (tVar 0) (tCons (tC (.int 0)) tNil))) (gName 1))
    (tSeq (tAsg (tOp qAdd (tC (.int 1)) (tOp qMod (tVar 1) (tC (.int 6)))) (gName 2))
    (Evl.tCut (tIfS (tTest (tOp rEq (tOp qMod (tOp qDiv (tVar 1) (tC (.int 6))) (tC (.int 4))) (tC (.int 1))))
    (tAsg (tOp qAdd (tC (.int 1)) (tOp qMod (tOp qDiv (tVar 1) (tC (.int 24))) (tC (.int 40)))) (gName 2))
    tNext)
    (tSeq (tAsg (tLc (iRng1 (tCons (tVar 2) tNil)) (gName 3) tYes (tTup (tCons (tOp (rIxL K) (tLst (tCons (tC (.str "all")) (tCons (tC (.str "any")) tNil))) (tOp qMod (tOp qAdd (tVar 3) (tVar 1)) (tC (.int 2)))) (tCons (tLst (tCons (tOp qMod (tOp qAdd (tVar 3) (tC (.int 1))) (tVar 2)) tNil)) tNil))) [3]) (gName 4))
    (Evl.tCut (tIfS (tTest (tOp qGt (tOp qMod (tCall (sp_cell_at K A) [] E0 (tCons (tVar 0) (tCons (tC (.int 1)) tNil))) (tC (.int 3))) (tC (.int 0))))
    (tAsg (tC .non) (gSub (tVar 4) (tOp qSub (tVar 2) (tC (.int 1))) rSetL))
    tNext)
    (tSeq (tAsg (tCall (sp_cell_at K A) [] E0 (tCons (tVar 0) (tCons (tC (.int 2)) tNil))) (gName 5))
    (tSeq (tAsg (tCall (sp_wrong K A) [] E0 (tCons (tVar 5) (tCons (tVar 2) (tCons (tC (.int 1)) tNil)))) (gName 6))
    (tSeq (tAsg (tMake A.cNet (sp_Net_init K A) [] E0 (tCons (tLc (iList K (tVar 4)) (gName 7) tYes (tVar 7) [7]) (tCons (tOp qMod (tOp qDiv (tCall (sp_cell_at K A) [] E0 (tCons (tVar 0) (tCons (tC (.int 1)) tNil))) (tC (.int 3))) (tVar 2)) tNil))) (gName 8))
    (tSeq (tFor (iRng1 (tCons (tOp qMod (tOp qDiv (tVar 5) (tC (.int 9))) (tC (.int 5))) tNil)) (gName 9)
    (tIfS (tTest (tOp (rNeD K) (tMeth A.cNet "letters" (sp_Net_letters K A) [] E0 (tVar 8) tNil) (tLst tNil)))
    (tDrop (tMeth A.cNet "bring" (sp_Net_bring K A) [] E0 (tVar 8) (tCons (tC (.int 0)) tNil)))
    tNext))
    (tSeq (tAsg (tLc (iRng1 (tCons (tVar 2) tNil)) (gName 10) (tTest (tOp qGt (tOp qMod (tOp qAdd (tVar 10) (tVar 5)) (tC (.int 3))) (tC (.int 0)))) (tVar 10) [10]) (gName 11))
    (tSeq (tDrop (tBM K "list" qInsert (tVar 11) (tCons (tOp qMod (tOp qDiv (tVar 5) (tC (.int 45))) (tOp qAdd (tCB (qLen K) (tCons (tVar 11) tNil)) (tC (.int 1)))) (tCons (tVar 6) tNil))))
    (tSeq (tAsg (tCall (sp_seen K A) [] E0 (tCons (tVar 8) (tCons (tVar 2) tNil))) (gName 12))
    (tSeq (tAsg (tOp qMod (tCall (sp_cell_at K A) [] E0 (tCons (tVar 0) (tCons (tC (.int 3)) tNil))) (tC (.int 4))) (gName 13))
    (tSeq (tAsg (tOp (rIxL K) (tLst (tCons (tCB (qTupOf K) (tCons (tVar 4) tNil)) (tCons (tOp rCat (tVar 4) (tLst (tCons (tC (.int 0)) tNil))) (tCons (tOp rCat (tLst (tCons (tTup (tCons (tC (.str "all")) (tCons (tLst (tCons (tVar 2) tNil)) tNil))) tNil)) (tSl (rSlL K) (tVar 4) (tPart (tC (.int 1))) tNoPart)) (tCons (tLst tNil) tNil))))) (tVar 13)) (gName 14))
    (tSeq (tAsg (tOp (rIxL K) (tLst (tCons (tC .non) (tCons (tVar 2) (tCons (tC (.int 0)) (tCons (tC .non) tNil))))) (tVar 13)) (gName 15))
    (Evl.tCut (tIfS (tAnd (tTest (tOp rEq (tVar 13) (tC (.int 1)))) (tTest (tOp rEq (tVar 2) (tC (.int 40)))))
    (tAsg (tC .non) (gName 15))
    tNext)
    (tSeq (tFor (iRng1 (tCons (tC (.int 8)) tNil)) (gName 16)
    (tSeq (tAsg (tOp qMod (tOp qAdd (tVar 16) (tOp qDiv (tCall (sp_cell_at K A) [] E0 (tCons (tVar 0) (tCons (tC (.int 3)) tNil))) (tC (.int 4)))) (tC (.int 2))) (gName 17))
    (tSeq (tAsg (tOp (rIxL K) (tLst (tCons (tC (.str "hand")) (tCons (tC (.str "hand")) (tCons (tC (.str "hand")) (tCons (tC (.str "hand")) (tCons (tC (.str "hand")) (tCons (tC (.str "letter")) (tCons (tC (.str "")) (tCons (tC (.str "")) tNil))))))))) (tVar 16)) (gName 18))
    (tSeq (tAsg (tVar 6) (gName 19))
    (Evl.tCut (tIfS (tAnd (tTest (tOp rEq (tVar 16) (tC (.int 5)))) (tAnd (tTest (tOp (rEqD K) (tVar 6) (tVar 2))) (tNot (tB (tCB (rIsi K) (tCons (tVar 6) (tCons (tC (.ty "bool")) tNil)))))))
    (tAsg (tCB (qLen K) (tCons (tOp (rIxT K) (tVar 12) (tC (.int 0))) tNil)) (gName 19))
    tNext)
    (tSeq (tIfS (tTest (tOp (rNeD K) (tCall (sp_said K A) [] E0 (tCons (tVar 17) (tCons (tVar 16) (tCons (tLc (iList K (tVar 4)) (gName 7) tYes (tVar 7) [7]) (tCons (tVar 8) (tCons (tVar 19) (tCons (tCB (qListOf K) (tCons (tVar 11) tNil)) tNil))))))) (tVar 18)))
    (tRet (tC (.bl false)))
    tNext)
    (Evl.tCut (tIfS (tTest (tOp (rIn K false) (tVar 16) (tTup (tCons (tC (.int 0)) (tCons (tC (.int 1)) (tCons (tC (.int 6)) (tCons (tC (.int 7)) tNil)))))))
    (tIfS (tTest (tOp (rNeD K) (tCall (sp_said K A) [] E0 (tCons (tVar 17) (tCons (tVar 16) (tCons (tVar 14) (tCons (tVar 8) (tCons (tVar 6) (tCons (tCB (qListOf K) (tCons (tVar 11) tNil)) tNil))))))) (tTup (tCons (tC (.str "waits")) (tCons (tVar 15) tNil)))))
    (tRet (tC (.bl false)))
    tNext)
    tNext)
    (tIfS (tTest (tOp (rNeD K) (tCall (sp_seen K A) [] E0 (tCons (tVar 8) (tCons (tVar 2) tNil))) (tVar 12)))
    (tRet (tC (.bl false)))
    tNext))))))))
    (Evl.tCut (tIfS (tTest (tOp (rNeD K) (tOp (rIxT K) (tVar 12) (tC (.int 0))) (tLst tNil)))
    (tDrop (tMeth A.cNet "bring" (sp_Net_bring K A) [] E0 (tVar 8) (tCons (tOp qSub (tCB (qLen K) (tCons (tOp (rIxT K) (tVar 12) (tC (.int 0))) tNil)) (tC (.int 1))) tNil)))
    tNext)
    (tRet (tOp qGe (tCB (qLen K) (tCons (tMeth A.cNet "letters" (sp_Net_letters K A) [] E0 (tVar 8) tNil) tNil)) (tOp qSub (tCB (qLen K) (tCons (tOp (rIxT K) (tVar 12) (tC (.int 0))) tNil)) (tC (.int 1)))))))))))))))))))))))
theorem rd_law {K : PySem.W.Frag} {A : Ad} {a : V} {H : Hp} {Q : VK} {E : XK} (h : pr_law K a H Q E) : t_law K A { nx := fun _ H' => Q .non H', rt := Q } [some a, none, none, none, none, none, none, none, none, none, none, none, none, none, none, none, none, none, none, none] H := by
  obtain ⟨p, ns, rfl, hs, hn63, q⟩ := h
  have Z : Zs H H H H [] := Zs.start (Same.refl H)
  have hsz := size_in ns
  unfold t_law
  walk_at "rd"
  refine ⟨p, ns, 0, rfl, rfl, hs, by decide, ?_⟩
  walk_at "rd"
  refine r_cut (fun σ' H' => σ' = [some (.ref p), some (.int (cellAt ns 0)), some (.int (sizeBy ns)), none, none, none, none, none, none, none, none, none, none, none, none, none, none, none, none, none] ∧ H' = H) ?_ ?_
  · walk_at "rd"
    refine ifd (fun h => ?_) (fun h => ?_)
    · walk_at "rd"
      exact ⟨by unfold sizeBy; rw [if_pos h], rfl⟩
    · walk_at "rd"
      exact ⟨by unfold sizeBy; rw [if_neg h], rfl⟩
  rintro σ' H' ⟨rfl, rfl⟩
  walk_at "rd"
  refine lc_rng (by omega) Z (fun i acc F' => TdA F' acc (((List.range i).map (waitAt ns)).map dW)) (fun _ => rfl) .nil ?_ ?_
  · intro i Dl F' H2 acc hi Z' s hacc hP
    dsimp only [wipe, List.foldl_cons, List.foldl_nil, List.set_cons_succ, List.set_cons_zero]
    refine r_yes (ifT rfl ?_)
    walk_at "rd"
    refine r_mk sz2 Z' ?_
    intro p1 H3 Z3
    walk_at "rd"
    refine r_ixL (SqL.of (Z3.get (i := 0) rfl)) (word_at (by omega) (by omega)) ?_
    replace Z3 := Z3.drop
    walk_at "rd"
    refine r_mk sz1 Z3 ?_
    intro l H4 Z4
    walk_at "rd"
    refine r_mk sz2 Z4 ?_
    intro t H5 Z5
    obtain ⟨F6, Z6, s6, e6⟩ := Z5.frzAt 1 rfl
    obtain ⟨F7, Z7, s7, e7⟩ := Z6.frzAt 0 rfl
    refine cy Z7 ((s.trans s6).trans s7) hacc (by omega) ?_
    show TdA F7 _ _
    rw [List.range_succ, List.map_append, List.map_append]
    exact ((hP.up s6).up s7).snoc (Td.mk_w (os := [((i : Int) + 1) % sizeBy ns]) e7 (s7 _ _ e6))
  intro pw F1 H1 acc1 Z1 s1 hP1
  have hal : acc1.length = (sizeBy ns).toNat := by rw [hP1.len, List.length_map, List.length_map, List.length_range]
  walk_at "rd"
  refine r_cut (fun σ' H2 => ∃ (acc : List V), σ' = [some (.ref p), some (.int (cellAt ns 0)), some (.int (sizeBy ns)), none, some (.ref pw), none, none, none, none, none, none, none, none, none, none, none, none, none, none, none] ∧ Zs H' H' F1 H2 [(pw, .lst acc)] ∧ TdA F1 acc ((waits1 ns).map dW)) ?_ ?_
  · walk_at "rd"
    refine ⟨p, ns, 1, rfl, rfl, Z1.hh.seq hs, by decide, ?_⟩
    walk_at "rd"
    refine ifd (fun h => ?_) (fun h => ?_)
    · walk_at "rd"
      refine r_setL (j := (sizeBy ns - 1).toNat) 0 Z1 rfl (by omega) (by omega) ?_
      intro H3 Z3
      refine ⟨_, rfl, Z3, ?_⟩
      have e : waits1 ns = (waits0 ns).set (sizeBy ns - 1).toNat none := by unfold waits1; rw [if_pos h]
      rw [e, List.map_set]
      exact TdA.set _ hP1 .non
    · walk_at "rd"
      refine ⟨acc1, rfl, Z1, ?_⟩
      have e : waits1 ns = waits0 ns := by unfold waits1; rw [if_neg h]
      rw [e]
      exact hP1
  rintro σ' H2 ⟨xs, rfl, Z2, hx2⟩
  have ok := waits1_ok ns
  have hwl := waits1_len ns
  generalize waits1 ns = ws at hx2 ok hwl
  have hm : sizeBy ns = (ws.length : Int) := by omega
  rw [hm]
  have o1 := ok.pos
  have o2 := ok.most
  have hxl : xs.length = ws.length := by rw [hx2.len, List.length_map]
  obtain ⟨F3, Z3, s3, e3⟩ := Z2.frzAt 0 rfl
  replace Z3 : Zs H' H' F3 H2 [] := Z3
  have hx3 := hx2.up s3
  have hv3 : Td F3 (.ref pw) (dWs ws) := .lst e3 hx3
  walk_at "rd"
  refine ⟨p, ns, 2, rfl, rfl, Z3.hh.seq hs, by decide, ?_⟩
  walk_at "rd"
  generalize cellAt ns 2 = mo
  refine ⟨F3, mo, (ws.length : Int), 1, Z3.fh, rfl, rfl, rfl, fun F4 H4 wv Z4 hwv => ?_⟩
  have s4 := Z4.ff
  replace Z4 : Zs H' H' F4 H4 [] := Z3.call Z4
  walk_at "rd"
  refine lc_copy (SqL.of (Z4.fix (s4 _ _ e3))) (by omega) Z4 (fun F' H' Z' sm => SqL.of (Z'.fix (sm _ _ (s4 _ _ e3)))) (fun _ => rfl) (fun _ => rfl) ?_
  intro Dl H5 Z5
  obtain ⟨F5, Z5, s5, e5⟩ := Z5.frzAt 0 rfl
  replace Z5 : Zs H' H' F5 H5 [] := Z5
  have hv5 : Td F5 (.ref Dl) (dWs ws) := .lst e5 ((hx3.up s4).up s5)
  walk_at "rd"
  refine ⟨p, ns, 1, rfl, rfl, Z5.hh.seq hs, by decide, ?_⟩
  walk_at "rd"
  obtain ⟨k, ek, hk⟩ : ∃ k : Nat, cellAt ns 1 / 3 % (ws.length : Int) = (k : Int) ∧ k < ws.length := by
    have h0 := Int.emod_nonneg (cellAt ns 1 / 3) (show (ws.length : Int) ≠ 0 by omega)
    have h1 := Int.emod_lt_of_pos (cellAt ns 1 / 3) (show 0 < (ws.length : Int) by omega)
    exact ⟨(cellAt ns 1 / 3 % (ws.length : Int)).toNat, by omega, by omega⟩
  rw [ek]
  refine r_makeQ Z5 ?_
  intro xa dx H6 Z6
  walk_at "rd"
  refine .inl ⟨H', H', F5, [], xa, dx, ws, k, rfl, rfl, Z6, WsIn.of hv5, ok, hk, ?_⟩
  intro F7 H7 N rv Z7 s7 ex nfz hrv
  refine ⟨rfl, ?_⟩
  subst ex
  have hr0 : (netS ws k).row.length ≤ 50 := by
    show (begin (handAt (hands0 ws k) k)).2.length ≤ 50
    have e1 : (begin (handAt (hands0 ws k) k)).2.length ≤ (handAt (hands0 ws k) k).others.length := by
      unfold begin
      split
      · exact Nat.zero_le _
      · show ((handAt (hands0 ws k) k).others.map _).length ≤ _
        rw [List.length_map]; exact Nat.le_refl _
    have ewk : ws[k]? = some ws[k] := List.getElem?_eq_getElem hk
    have e2 := handAt_of (hands0_at (k := k) ewk)
    rw [e2] at e1
    have h3 := mkH_oth (i := (k : Int)) (f := decide ((k : Int) = (k : Int))) (ok.all _ (List.mem_of_getElem? ewk))
    have := nodup_bound h3.1 h3.2
    rw [e2]
    omega
  have L0 : LS11 A H' F7 F7 H7 k ws.length N (netS ws k) rv := ⟨Same.refl _, Z7, nfz, hrv, NInv.start ok hk, rfl, netS_len⟩
  walk_at "rd"
  refine r_rng1 (by omega) (fun i σ' H8 => ∃ (F8 : Hp) (S : NS) (rv : List V) (y9 : Option V), σ' = sl11 p (cellAt ns 0) (ws.length : Int) pw mo wv N.x y9 none none none none none none none none none ∧ LS11 A H' F7 F8 H8 k ws.length N S rv ∧ S.row.length ≤ 50 + 50 * i) ⟨F7, _, rv, _, rfl, L0, by omega⟩ ?_ ?_
  · rintro i σ' H8 hi ⟨F8, S, rv, y9, rfl, L, hrow⟩
    have hi5 : i ≤ 5 := by omega
    dsimp only [List.set_cons_succ, List.set_cons_zero]
    walk_at "rd"
    refine r_methQ L.nh.x rfl ?_
    walk_at "rd"
    refine ⟨N, S, rfl, L.nh, ?_⟩
    intro H9 p9 vs9 Z9 _ h9
    have erv : vs9 = rv := by
      have h1 := L.z.get (i := 1) rfl
      rw [h9] at h1
      cases h1
      rfl
    subst erv
    have Z10 := L.z.callL Z9
    walk_at "rd"
    refine r_mk sz0 Z10 ?_
    intro p11 H11 Z11
    refine r_neD (d := .list (dLts S.row)) (e := .list []) (.lst (Z11.get (i := 1) rfl) (L.hrv.up Z11.fh)) (.lst (Z11.get (i := 0) rfl) .nil) (dLts_shaped fun l hl => (L.inv.row l hl).1) (shaped_ints []) ?_
    rw [eqv_nil]
    have L : LS11 A H' F7 F8 H11 k ws.length N S vs9 := { L with z := Z11.drop.drop }
    walk_at "rd"
    refine ifnb (fun e => ?_) (fun e => ?_)
    · have hpos : 0 < S.row.length := by
        have h1 : dLts S.row ≠ [] := fun z => by rw [z] at e; cases e
        have h2 := List.length_pos_iff.mpr h1
        rw [len_dLts] at h2
        exact h2
      walk_at "rd"
      refine r_methQ L.nh.x rfl ?_
      walk_at "rd"
      have el : S.row[0]? = some S.row[0] := List.getElem?_eq_getElem hpos
      obtain ⟨hwd, hj, hi3⟩ := L.inv.row _ (List.getElem_mem hpos)
      have hstep := stepN L.inv el
      have hinv2 := L.inv.bring el
      generalize S.row[0] = l at *
      have ehd := hd_get hi3
      have ei := inr_nat hi3
      generalize hd S l.2.2 = s0 at *
      have hb5 := L.hn
      refine .inl ⟨H', H', F8, _, N, S, vs9, 0, l, l.2.2.toNat, s0, rfl, rfl, L.z, L.f, L.hrv, L.inv.nbd (by omega) (by omega), el, ei, ehd, ?_⟩
      intro F16 H16 pq vs16 rv16 Z16 s16 f16 hrv16 hvs16
      exact ⟨F16, bringS S 0 l s0, rv16, _, rfl, ⟨L.sm.trans s16, Z16.drop, f16, hrv16, hinv2, by rw [hstep.2.2]; exact L.ak, by rw [hstep.1]; exact hb5⟩, by omega⟩
    · walk_at "rd"
      exact ⟨F8, S, vs9, _, rfl, L, by omega⟩
  rintro σ' H8 ⟨F8, S, rv8, y9, rfl, L, hrow⟩
  replace hrow : S.row.length ≤ 300 := by omega
  have hwv8 : Td F8 wv (wrongD mo (ws.length : Int)) := ((hwv.up s5).up s7).up L.sm
  have hpw8 : F8 pw = some (.lst xs) := L.sm _ _ (s7 _ _ (s5 _ _ (s4 _ _ e3)))
  have hx8 : TdA F8 xs (ws.map dW) := (((hx3.up s4).up s5).up s7).up L.sm
  walk_at "rd"
  refine lc_rng (by omega) L.z (fun i acc F' => acc = (handsTo mo i).map V.int) (fun _ => rfl) rfl ?_ ?_
  · rintro i Dh F' H9 acc hi Z' sm hacc rfl
    dsimp only [wipe, List.foldl_cons, List.foldl_nil, List.set_cons_succ, List.set_cons_zero]
    walk_at "rd"
    refine ifd (fun e => ?_) (fun e => ?_)
    · walk_at "rd"
      refine cy Z' sm hacc (by omega) ?_
      rw [hands_succ, if_pos e, List.map_append] <;> rfl
    · refine cn Z' sm hacc ?_
      rw [hands_succ, if_neg e]
  rintro ph F9 H9 acc Z9 s9 rfl
  rw [Int.toNat_natCast] at Z9
  have hhl := hands_len mo ws.length
  generalize handsTo mo ws.length = hl0 at Z9 hhl
  replace Z9 := Z9.weak L.z.ff s9
  walk_at "rd"
  refine ⟨ty_l (SqL.of (Z9.get (i := 0) rfl)), ?_⟩
  walk_at "rd"
  refine r_lenL (SqL.of (Z9.get (i := 0) rfl)) ?_
  rw [List.length_map]
  walk_at "rd"
  obtain ⟨j, ej, hj⟩ : ∃ j : Nat, mo / 45 % ((hl0.length : Int) + 1) = (j : Int) ∧ j < 100000 := by
    have h0 := Int.emod_nonneg (mo / 45) (show ((hl0.length : Int) + 1) ≠ 0 by omega)
    have h1 := Int.emod_lt_of_pos (mo / 45) (show 0 < ((hl0.length : Int) + 1) by omega)
    exact ⟨(mo / 45 % ((hl0.length : Int) + 1)).toNat, by omega, by omega⟩
  refine r_insert 0 Z9 rfl ej (by rw [List.length_map]; omega) hj ?_
  intro H10 Z10
  replace Z10 : Zs H' H' F8 H10 ((ph, .lst (insW (hl0.map V.int) j wv)) :: nL A N S rv8 []) := Z10
  obtain ⟨F11, Z11, s11, e11⟩ := Z10.frzAt 0 rfl
  replace Z11 : Zs H' H' F11 H10 (nL A N S rv8 []) := Z11
  have hhd : TdA F11 (insW (hl0.map V.int) j wv) (insW (hl0.map PyData.int) j (wrongD mo (ws.length : Int))) := td_insW (hwv8.up s11)
  have hivl : (insW (hl0.map V.int) j wv).length ≤ 1000 := by
    unfold insW
    rw [List.length_append, List.length_append, List.length_take, List.length_drop, List.length_map, List.length_singleton]
    omega
  generalize insW (hl0.map V.int) j wv = hvl at e11 hhd hivl
  have L : LS11 A H' F7 F11 H10 k ws.length N S rv8 := ⟨L.sm.trans s11, Z11, L.f.up s11, L.hrv.up s11, L.inv, L.ak, L.hn⟩
  walk_at "rd"
  refine ⟨F11, N, S, rv8, L.z.fh, rfl, by rw [L.hn], L.nh, L.z.get (i := 1) rfl, L.hrv, by rw [L.hn]; omega, L.inv.ask1, fun F12 H12 bfv Z12 hbf => ?_⟩
  have s12 := Z12.ff
  have L : LS11 A H' F7 F12 H12 k ws.length N S rv8 := ⟨L.sm.trans s12, L.z.call Z12, L.f.up s12, L.hrv.up s12, L.inv, L.ak, L.hn⟩
  obtain ⟨pb, bvs, rfl, hpb, hpbt⟩ := Td.inv_tup hbf
  walk_at "rd"
  refine ⟨p, ns, 3, rfl, rfl, L.z.hh.seq hs, by decide, ?_⟩
  walk_at "rd"
  have hpk : 0 ≤ cellAt ns 3 % 4 ∧ cellAt ns 3 % 4 < 4 := by omega
  generalize cellAt ns 3 % 4 = pk at hpk
  have hpw12 := s12 _ _ (s11 _ _ hpw8)
  have hx12 := (hx8.up s11).up s12
  refine r_tupOfL (SqL.of (L.z.fix hpw12)) L.z ?_
  intro u1 H13 Z13
  walk_at "rd"
  refine r_mk sz1 Z13 ?_
  intro u2 H14 Z14
  refine r_cat Z14 (Z14.fix hpw12) (Z14.get (i := 0) rfl) (by rw [List.length_singleton]; omega) ?_
  intro u3 H15 Z15
  walk_at "rd"
  refine r_mk sz1 Z15 ?_
  intro u4 H16 Z16
  walk_at "rd"
  refine r_mk sz2 Z16 ?_
  intro u5 H17 Z17
  walk_at "rd"
  refine r_mk sz1 Z17 ?_
  intro u6 H18 Z18
  walk_at "rd"
  refine r_slL Z18 (SqL.of (Z18.fix hpw12)) ?_
  intro u7 H19 Z19
  rw [show (some (1 : Int)) = some ((1 : Nat) : Int) from rfl, cut_drop] at Z19
  refine r_cat Z19 (Z19.get (i := 1) rfl) (Z19.get (i := 0) rfl) (by rw [List.length_singleton, List.length_drop]; omega) ?_
  intro u8 H20 Z20
  walk_at "rd"
  refine r_mk sz0 Z20 ?_
  intro u9 H21 Z21
  walk_at "rd"
  refine r_mk (by show 4 ≤ sizeLine; decide) Z21 ?_
  intro u10 H22 Z22
  walk_at "rd"
  obtain ⟨bv, bd, F23, hix, hbv, hbs, hnb, s23, Z23⟩ : ∃ (bv : V) (bd : PyData) (F23 : Hp), atI [V.ref u1, .ref u3, .ref u8, .ref u9] pk = some bv ∧ Td F23 bv bd ∧ SeqAt.shaped bd = true ∧ NeedBad bd (if pk = 1 ∧ (ws.length : Int) = 40 then .non else if pk = 1 then .int (ws.length : Int) else if pk = 2 then .int 0 else .non) ∧ Same F12 F23 ∧ Zs H' H' F23 H22 ((u10, .lst [V.ref u1, .ref u3, .ref u8, .ref u9]) :: nL A N S rv8 []) := by
    have hsb := bad_shaped ws
    rcases (show pk = 0 ∨ pk = 1 ∨ pk = 2 ∨ pk = 3 by omega) with rfl | rfl | rfl | rfl
    · obtain ⟨Fa, Za, sa, ea⟩ := Z22.frzAt 9 rfl
      refine ⟨_, _, Fa, at_i (by decide) rfl, .tup ea (hx12.up sa), hsb.1, ?_, sa, Za.sub ?_⟩
      · rw [if_neg (fun z => absurd z.1 (by decide)), if_neg (by decide), if_neg (by decide)]
        exact bad0 ws
      · exact List.Sublist.cons_cons _ (by repeat (first | exact List.Sublist.refl _ | refine List.Sublist.cons _ ?_))
    · obtain ⟨Fa, Za, sa, ea⟩ := Z22.frzAt 7 rfl
      refine ⟨_, _, Fa, at_i (by decide) rfl, .lst ea ((hx12.up sa).append (.cons (.int _) .nil)), hsb.2.1, ?_, sa, Za.sub ?_⟩
      · have hb := bad1 ok
        by_cases e : ws.length = 40
        · rw [if_pos e] at hb
          rw [if_pos ⟨rfl, by omega⟩]
          exact hb
        · rw [if_neg e] at hb
          rw [if_neg (fun z => e (by omega)), if_pos rfl]
          exact hb
      · exact List.Sublist.cons_cons _ (by repeat (first | exact List.Sublist.refl _ | refine List.Sublist.cons _ ?_))
    · obtain ⟨Fa, Za, sa, ea⟩ := Z22.frzAt 6 rfl
      obtain ⟨Fb, Zb, sb, eb⟩ := Za.frzAt 5 rfl
      obtain ⟨Fc, Zc, sc, ec⟩ := Zb.frzAt 2 rfl
      have sabc := (sa.trans sb).trans sc
      refine ⟨_, _, Fc, at_i (by decide) rfl, .lst ec ((TdA.cons (.tup (sc _ _ eb) (.cons (.str _) (.cons (.lst (sc _ _ (sb _ _ ea)) (.cons (.int _) .nil)) .nil))) .nil).append ((hx12.up sabc).drop 1)), hsb.2.2, ?_, sabc, Zc.sub ?_⟩
      · rw [if_neg (fun z => absurd z.1 (by decide)), if_neg (by decide), if_pos rfl]
        exact bad2 ok
      · exact List.Sublist.cons_cons _ (by repeat (first | exact List.Sublist.refl _ | refine List.Sublist.cons _ ?_))
    · obtain ⟨Fa, Za, sa, ea⟩ := Z22.frzAt 1 rfl
      refine ⟨_, _, Fa, at_i (by decide) rfl, .lst ea .nil, shaped_ints [], ?_, sa, Za.sub ?_⟩
      · rw [if_neg (fun z => absurd z.1 (by decide)), if_neg (by decide), if_neg (by decide)]
        exact bad3
      · exact List.Sublist.cons_cons _ (by repeat (first | exact List.Sublist.refl _ | refine List.Sublist.cons _ ?_))
  refine r_ixL (SqL.of (Z23.get (i := 0) rfl)) hix ?_
  replace Z23 := Z23.drop
  walk_at "rd"
  refine r_mk (by show 4 ≤ sizeLine; decide) Z23 ?_
  intro u11 H24 Z24
  walk_at "rd"
  have hix2 : atI [V.non, .int (ws.length : Int), .int 0, .non] pk = some (if pk = 1 then .int (ws.length : Int) else if pk = 2 then .int 0 else .non) := by
    rcases (show pk = 0 ∨ pk = 1 ∨ pk = 2 ∨ pk = 3 by omega) with rfl | rfl | rfl | rfl <;> exact at_i (by decide) rfl
  refine r_ixL (SqL.of (Z24.get (i := 0) rfl)) hix2 ?_
  replace Z24 := Z24.drop
  generalize eatV : (if pk = 1 ∧ (ws.length : Int) = 40 then V.non else if pk = 1 then .int (ws.length : Int) else if pk = 2 then .int 0 else .non) = atV at hnb
  walk_at "rd"
  refine r_cut (fun σ' H25 => σ' = sl11 p (cellAt ns 0) (ws.length : Int) pw mo wv N.x y9 (some (.ref ph)) (some (.ref pb)) (some (.int pk)) (some bv) (some atV) none none none none ∧ H25 = H24) ?_ ?_
  · walk_at "rd"
    refine ifd (fun e1 => ?_) (fun e1 => ?_)
    · walk_at "rd"
      refine ifd (fun e2 => ?_) (fun e2 => ?_)
      · walk_at "rd"
        refine ⟨?_, rfl⟩
        rw [eatV.symm.trans (if_pos ⟨e1, e2⟩)]
      · walk_at "rd"
        refine ⟨?_, rfl⟩
        rw [eatV.symm.trans (if_neg fun z => e2 z.2)]
    · refine ifF rfl ?_
      walk_at "rd"
      refine ⟨?_, rfl⟩
      rw [eatV.symm.trans (if_neg fun z => e1 z.1)]
  rintro σ' H25 ⟨rfl, rfl⟩
  have L : LS11 A H' F23 F23 H25 k ws.length N S rv8 := ⟨Same.refl _, Z24, L.f.up s23, L.hrv.up s23, L.inv, L.ak, L.hn⟩
  have hpb23 := s23 _ _ hpb
  have hbf23 := hbf.up s23
  walk_at "rd"
  refine r_rng1 (by omega) (fun i σ' H26 => ∃ z16 z17 z18 z19, σ' = sl11 p (cellAt ns 0) (ws.length : Int) pw mo wv N.x y9 (some (.ref ph)) (some (.ref pb)) (some (.int pk)) (some bv) (some atV) z16 z17 z18 z19 ∧ LS11 A H' F23 F23 H26 k ws.length N S rv8) ⟨_, _, _, _, rfl, L⟩ ?_ ?_
  · rintro i σ' H26 hi ⟨z16, z17, z18, z19, rfl, L⟩
    dsimp only [List.set_cons_succ, List.set_cons_zero]
    refine rd_kind (hs := hl0) (j := j) (by omega) hs ok rfl L (by omega) (s23 _ _ hpw12) (hx12.up s23) (((hwv8.up s11).up s12).up s23) (s23 _ _ (s12 _ _ e11)) ((hhd.up s12).up s23) hivl hbv hbs hnb hpb23 hbf23 (fun H27 z17 z18 z19 L => ?_)
    exact ⟨_, _, _, _, rfl, L⟩
  rintro σ' H26 ⟨z16, z17, z18, z19, rfl, L⟩
  obtain ⟨pl, zs, hpl, hzl, hzd, hb0⟩ : ∃ (pl : Addr) (zs : List V), F23 pl = some (.lst zs) ∧ zs.length = S.row.length ∧ TdA F23 zs (dLts S.row) ∧ bvs[0]? = some (.ref pl) := by
    obtain ⟨a, ys, e, h1, h2⟩ := Td.inv_tup hbf23
    cases e
    rw [hpb23] at h1
    cases h1
    cases h2 with
    | cons k1 k2 =>
      obtain ⟨pl, zs, rfl, g1, g2⟩ := k1.inv_lst
      exact ⟨pl, zs, g1, by rw [g2.len, len_dLts], g2, rfl⟩
  refine r_cut (fun σ' H27 => ∃ (F27 : Hp) (S' : NS) (rv' : List V), σ' = sl11 p (cellAt ns 0) (ws.length : Int) pw mo wv N.x y9 (some (.ref ph)) (some (.ref pb)) (some (.int pk)) (some bv) (some atV) z16 z17 z18 z19 ∧ LS11 A H' F23 F27 H27 k ws.length N S' rv' ∧ S.row.length ≤ S'.row.length + 1) ?_ ?_
  · walk_at "rd"
    refine r_ixT (SqT.of (L.z.fix hpb23)) (at_i (by decide) hb0) ?_
    walk_at "rd"
    refine r_mk sz0 L.z ?_
    intro p27 H27 Z27
    refine r_neD (d := .list (dLts S.row)) (e := .list []) (.lst (Z27.fix hpl) (hzd.up Z27.fh)) (.lst (Z27.get (i := 0) rfl) .nil) (dLts_shaped fun l hl => (L.inv.row l hl).1) (shaped_ints []) ?_
    rw [eqv_nil]
    have L : LS11 A H' F23 F23 H27 k ws.length N S rv8 := { L with z := Z27.drop }
    walk_at "rd"
    refine ifnb (fun e => ?_) (fun e => ?_)
    · have hpos : 0 < S.row.length := by
        have h1 : dLts S.row ≠ [] := fun z => by rw [z] at e; cases e
        have h2 := List.length_pos_iff.mpr h1
        rw [len_dLts] at h2
        exact h2
      walk_at "rd"
      refine r_methQ L.nh.x rfl ?_
      walk_at "rd"
      refine r_ixT (SqT.of (L.z.fix hpb23)) (at_i (by decide) hb0) ?_
      walk_at "rd"
      refine r_lenL (SqL.of (L.z.fix hpl)) ?_
      rw [hzl]
      walk_at "rd"
      obtain ⟨pcx, hpc, hpcx⟩ : ∃ pcx : Nat, S.row.length - 1 = pcx ∧ pcx < S.row.length := ⟨_, rfl, by omega⟩
      have el : S.row[pcx]? = some S.row[pcx] := List.getElem?_eq_getElem hpcx
      obtain ⟨hwd, hj, hi3⟩ := L.inv.row _ (List.getElem_mem hpcx)
      have hstep := stepN L.inv el
      have hinv2 := L.inv.bring el
      generalize S.row[pcx] = l at *
      have ehd := hd_get hi3
      have ei := inr_nat hi3
      generalize hd S l.2.2 = s0 at *
      have hb5 := L.hn
      refine .inl ⟨H', H', F23, _, N, S, rv8, pcx, l, l.2.2.toNat, s0, rfl, by rw [show ((S.row.length : Int) - 1) = (pcx : Int) by omega], L.z, L.f, L.hrv, L.inv.nbd (by omega) (by omega), el, ei, ehd, ?_⟩
      intro F28 H28 pq vs28 rv28 Z28 s28 f28 hrv28 hvs28
      refine ⟨F28, bringS S pcx l s0, rv28, rfl, ⟨s28, Z28.drop, f28, hrv28, hinv2, by rw [hstep.2.2]; exact L.ak, by rw [hstep.1]; exact hb5⟩, ?_⟩
      show S.row.length ≤ (S.row.eraseIdx pcx ++ _).length + 1
      rw [List.length_append, List.length_eraseIdx_of_lt hpcx]
      omega
    · walk_at "rd"
      exact ⟨F23, S, rv8, rfl, L, by omega⟩
  rintro σ' H27 ⟨F27, S', rv', rfl, L', hle⟩
  walk_at "rd"
  refine r_methQ L'.nh.x rfl ?_
  walk_at "rd"
  refine ⟨N, S', rfl, L'.nh, ?_⟩
  intro H28 p28 vs28 Z28 hvs28 _
  have hv28 := hvs28.len
  rw [len_dLts] at hv28
  have Z29 := L'.z.callL Z28
  walk_at "rd"
  refine r_lenL (SqL.of (Z29.get (i := 0) rfl)) ?_
  rw [hv28]
  walk_at "rd"
  refine r_ixT (SqT.of (Z29.fix (L'.sm _ _ hpb23))) (at_i (by decide) hb0) ?_
  walk_at "rd"
  refine r_lenL (SqL.of (Z29.fix (L'.sm _ _ hpl))) ?_
  rw [hzl]
  walk_at "rd"
  rw [decide_eq_true (show (S.row.length : Int) - 1 ≤ (S'.row.length : Int) by omega)]
  exact q _
end SB
/-! ## the text, by places -/
namespace SB
open PySem L2
def top (i : Nat) : Stmt := PySem.Challenge.pw_stuckbell_k11_what_is_refused.main.body.getD i (.Pass ⟨0, 0, 0, 0⟩)
abbrev s_BadWaits_init : Stmt := inClass (top 2) 0
theorem sc_BadWaits_init : FnScope ["self", "at"] ["self", "at"] (defScope s_BadWaits_init) := ⟨rfl, rfl, rfl, by decide +kernel, rfl, by decide +kernel, by decide +kernel⟩
abbrev s_Hand_init : Stmt := inClass (top 6) 0
theorem sc_Hand_init : FnScope ["self", "number", "wait", "is_asker"] ["self", "number", "wait", "is_asker"] (defScope s_Hand_init) := ⟨rfl, rfl, rfl, by decide +kernel, rfl, by decide +kernel, by decide +kernel⟩
abbrev s_Hand_posted : Stmt := inClass (top 6) 1
theorem sc_Hand_posted : FnScope ["self", "word", "receivers", "one"] ["self", "word", "receivers"] (defScope s_Hand_posted) := ⟨rfl, rfl, rfl, by decide +kernel, rfl, by decide +kernel, by decide +kernel⟩
abbrev s_Hand_asking : Stmt := inClass (top 6) 2
theorem sc_Hand_asking : FnScope ["self"] ["self"] (defScope s_Hand_asking) := ⟨rfl, rfl, rfl, by decide +kernel, rfl, by decide +kernel, by decide +kernel⟩
abbrev s_Hand_begin : Stmt := inClass (top 6) 3
theorem sc_Hand_begin : FnScope ["self"] ["self"] (defScope s_Hand_begin) := ⟨rfl, rfl, rfl, by decide +kernel, rfl, by decide +kernel, by decide +kernel⟩
abbrev s_Hand_asked_by : Stmt := inClass (top 6) 4
theorem sc_Hand_asked_by : FnScope ["self", "sender"] ["self", "sender"] (defScope s_Hand_asked_by) := ⟨rfl, rfl, rfl, by decide +kernel, rfl, by decide +kernel, by decide +kernel⟩
abbrev s_Hand_told_by : Stmt := inClass (top 6) 5
theorem sc_Hand_told_by : FnScope ["self", "sender"] ["self", "sender"] (defScope s_Hand_told_by) := ⟨rfl, rfl, rfl, by decide +kernel, rfl, by decide +kernel, by decide +kernel⟩
abbrev s_Hand_come : Stmt := inClass (top 6) 6
theorem sc_Hand_come : FnScope ["self", "letter", "word", "sender", "receiver", "found"] ["self", "letter"] (defScope s_Hand_come) := ⟨rfl, rfl, rfl, by decide +kernel, rfl, by decide +kernel, by decide +kernel⟩
abbrev s_is_hand : Stmt := top 10
theorem sc_is_hand : FnScope ["thing", "many"] ["thing", "many"] (defScope s_is_hand) := ⟨rfl, rfl, rfl, by decide +kernel, rfl, by decide +kernel, by decide +kernel⟩
abbrev s_is_wait : Stmt := top 11
theorem sc_is_wait : FnScope ["wait", "many", "place", "one"] ["wait", "many"] (defScope s_is_wait) := ⟨rfl, rfl, rfl, by decide +kernel, rfl, by decide +kernel, by decide +kernel⟩
abbrev s_need : Stmt := top 12
theorem sc_need : FnScope ["waits", "at", "wait"] ["waits"] (defScope s_need) := ⟨rfl, rfl, rfl, by decide +kernel, rfl, by decide +kernel, by decide +kernel⟩
abbrev s_need_hand : Stmt := top 13
theorem sc_need_hand : FnScope ["many", "hand"] ["many", "hand"] (defScope s_need_hand) := ⟨rfl, rfl, rfl, by decide +kernel, rfl, by decide +kernel, by decide +kernel⟩
abbrev s_comes_free : Stmt := top 14
theorem sc_comes_free : FnScope ["wait", "rounds", "one", "come"] ["wait", "rounds"] (defScope s_comes_free) := ⟨rfl, rfl, rfl, by decide +kernel, rfl, by decide +kernel, by decide +kernel⟩
abbrev s_freed : Stmt := top 15
theorem sc_freed : FnScope ["waits", "rounds", "hand", "fresh", "turn", "left"] ["waits"] (defScope s_freed) := ⟨rfl, rfl, rfl, by decide +kernel, rfl, by decide +kernel, by decide +kernel⟩
abbrev s_stuck : Stmt := top 16
theorem sc_stuck : FnScope ["waits", "rounds", "hand"] ["waits"] (defScope s_stuck) := ⟨rfl, rfl, rfl, by decide +kernel, rfl, by decide +kernel, by decide +kernel⟩
abbrev s_shows : Stmt := top 17
theorem sc_shows : FnScope ["waits", "hands", "hand", "wait", "one", "within"] ["waits", "hands"] (defScope s_shows) := ⟨rfl, rfl, rfl, by decide +kernel, rfl, by decide +kernel, by decide +kernel⟩
abbrev s_Net_init : Stmt := inClass (top 19) 0
theorem sc_Net_init : FnScope ["self", "waits", "asker", "number", "wait"] ["self", "waits", "asker"] (defScope s_Net_init) := ⟨rfl, rfl, rfl, by decide +kernel, rfl, by decide +kernel, by decide +kernel⟩
abbrev s_Net_letters : Stmt := inClass (top 19) 1
theorem sc_Net_letters : FnScope ["self"] ["self"] (defScope s_Net_letters) := ⟨rfl, rfl, rfl, by decide +kernel, rfl, by decide +kernel, by decide +kernel⟩
abbrev s_Net_bring : Stmt := inClass (top 19) 2
theorem sc_Net_bring : FnScope ["self", "place", "letter", "found"] ["self", "place"] (defScope s_Net_bring) := ⟨rfl, rfl, rfl, by decide +kernel, rfl, by decide +kernel, by decide +kernel⟩
abbrev s_Net_sent : Stmt := inClass (top 19) 3
theorem sc_Net_sent : FnScope ["self"] ["self"] (defScope s_Net_sent) := ⟨rfl, rfl, rfl, by decide +kernel, rfl, by decide +kernel, by decide +kernel⟩
abbrev s_Net_hand : Stmt := inClass (top 19) 4
theorem sc_Net_hand : FnScope ["self", "number"] ["self", "number"] (defScope s_Net_hand) := ⟨rfl, rfl, rfl, by decide +kernel, rfl, by decide +kernel, by decide +kernel⟩
abbrev s_Net_rung : Stmt := inClass (top 19) 5
theorem sc_Net_rung : FnScope ["self"] ["self"] (defScope s_Net_rung) := ⟨rfl, rfl, rfl, by decide +kernel, rfl, by decide +kernel, by decide +kernel⟩
abbrev s_Net_shown : Stmt := inClass (top 19) 6
theorem sc_Net_shown : FnScope ["self", "number", "one"] ["self"] (defScope s_Net_shown) := ⟨rfl, rfl, rfl, by decide +kernel, rfl, by decide +kernel, by decide +kernel⟩
abbrev s_Net_owed_by : Stmt := inClass (top 19) 7
theorem sc_Net_owed_by : FnScope ["self", "hand"] ["self", "hand"] (defScope s_Net_owed_by) := ⟨rfl, rfl, rfl, by decide +kernel, rfl, by decide +kernel, by decide +kernel⟩
abbrev s_Net_waker_of : Stmt := inClass (top 19) 8
theorem sc_Net_waker_of : FnScope ["self", "hand"] ["self", "hand"] (defScope s_Net_waker_of) := ⟨rfl, rfl, rfl, by decide +kernel, rfl, by decide +kernel, by decide +kernel⟩
abbrev s_Net_freed_yet : Stmt := inClass (top 19) 9
theorem sc_Net_freed_yet : FnScope ["self", "hand"] ["self", "hand"] (defScope s_Net_freed_yet) := ⟨rfl, rfl, rfl, by decide +kernel, rfl, by decide +kernel, by decide +kernel⟩
abbrev s_cell_at : Stmt := top 21
theorem sc_cell_at : FnScope ["_law_script", "_law_k"] ["_law_script", "_law_k"] (defScope s_cell_at) := ⟨rfl, rfl, rfl, by decide +kernel, rfl, by decide +kernel, by decide +kernel⟩
abbrev s_deed : Stmt := top 22
theorem sc_deed : FnScope ["_law_kind", "_law_waits", "_law_net", "_law_wrong_here", "_law_hands"] ["_law_kind", "_law_waits", "_law_net", "_law_wrong_here", "_law_hands"] (defScope s_deed) := ⟨rfl, rfl, rfl, by decide +kernel, rfl, by decide +kernel, by decide +kernel⟩
abbrev s_by_name : Stmt := top 23
theorem sc_by_name : FnScope ["_law_kind", "_law_waits", "_law_net", "_law_wrong_here", "_law_hands", "error"] ["_law_kind", "_law_waits", "_law_net", "_law_wrong_here", "_law_hands"] (defScope s_by_name) := ⟨rfl, rfl, rfl, by decide +kernel, rfl, by decide +kernel, by decide +kernel⟩
abbrev s_by_base : Stmt := top 24
theorem sc_by_base : FnScope ["_law_kind", "_law_waits", "_law_net", "_law_wrong_here", "_law_hands", "error", "_law_found"] ["_law_kind", "_law_waits", "_law_net", "_law_wrong_here", "_law_hands"] (defScope s_by_base) := ⟨rfl, rfl, rfl, by decide +kernel, rfl, by decide +kernel, by decide +kernel⟩
abbrev s_said : Stmt := top 25
theorem sc_said : FnScope ["_law_way", "_law_kind", "_law_waits", "_law_net", "_law_wrong_here", "_law_hands"] ["_law_way", "_law_kind", "_law_waits", "_law_net", "_law_wrong_here", "_law_hands"] (defScope s_said) := ⟨rfl, rfl, rfl, by decide +kernel, rfl, by decide +kernel, by decide +kernel⟩
abbrev s_seen : Stmt := top 26
theorem sc_seen : FnScope ["_law_net", "_law_size", "_law_hand", "_law_owed"] ["_law_net", "_law_size"] (defScope s_seen) := ⟨rfl, rfl, rfl, by decide +kernel, rfl, by decide +kernel, by decide +kernel⟩
abbrev s_wrong : Stmt := top 27
theorem sc_wrong : FnScope ["_law_pick", "_law_size", "_law_many"] ["_law_pick", "_law_size", "_law_many"] (defScope s_wrong) := ⟨rfl, rfl, rfl, by decide +kernel, rfl, by decide +kernel, by decide +kernel⟩
abbrev s_law : Stmt := top 28
theorem sc_law : FnScope ["_law_script", "_law_cell", "_law_size", "_law_k", "_law_waits", "_law_more", "_law_wrong_here", "_law_wait", "_law_net", "_law_turn", "_law_hand", "_law_hands", "_law_before", "_law_pick", "_law_bad", "_law_at", "_law_kind", "_law_way", "_law_due", "_law_place"] ["_law_script"] (defScope s_law) := ⟨rfl, rfl, rfl, by decide +kernel, rfl, by decide +kernel, by decide +kernel⟩
/-- what the top has left -/
structure Tx (K : PySem.W.Frag) (mg : Str → Option Value) (A : Ad) where
  f_BadWaits_init : Addr
  fd_BadWaits_init : FuncData
  F_BadWaits_init : Fun K "__init__" "BadWaits.__init__" s_BadWaits_init f_BadWaits_init fd_BadWaits_init
  b_BadWaits_init : Binds K fd_BadWaits_init ["self", "at"] []
  i_BadWaits : PySem.W.findIn K (.ref A.cBadWaits) "__init__" = some (some (.ref f_BadWaits_init))
  ti_BadWaits : PySem.W.typeIn K (.ref f_BadWaits_init) = some (.type "function")
  f_Hand_init : Addr
  fd_Hand_init : FuncData
  F_Hand_init : Fun K "__init__" "Hand.__init__" s_Hand_init f_Hand_init fd_Hand_init
  b_Hand_init : Binds K fd_Hand_init ["self", "number", "wait", "is_asker"] []
  mk_Hand : Mk K A.cHand f_Hand_init
  gc_Hand : mg "Hand" = some (.ref A.cHand)
  f_Hand_posted : Addr
  fd_Hand_posted : FuncData
  F_Hand_posted : Fun K "posted" "Hand.posted" s_Hand_posted f_Hand_posted fd_Hand_posted
  b_Hand_posted : Binds K fd_Hand_posted ["self", "word", "receivers"] []
  me_Hand_posted : Meth K A.cHand "posted" f_Hand_posted
  f_Hand_asking : Addr
  fd_Hand_asking : FuncData
  F_Hand_asking : Fun K "asking" "Hand.asking" s_Hand_asking f_Hand_asking fd_Hand_asking
  b_Hand_asking : Binds K fd_Hand_asking ["self"] []
  me_Hand_asking : Meth K A.cHand "asking" f_Hand_asking
  f_Hand_begin : Addr
  fd_Hand_begin : FuncData
  F_Hand_begin : Fun K "begin" "Hand.begin" s_Hand_begin f_Hand_begin fd_Hand_begin
  b_Hand_begin : Binds K fd_Hand_begin ["self"] []
  me_Hand_begin : Meth K A.cHand "begin" f_Hand_begin
  f_Hand_asked_by : Addr
  fd_Hand_asked_by : FuncData
  F_Hand_asked_by : Fun K "asked_by" "Hand.asked_by" s_Hand_asked_by f_Hand_asked_by fd_Hand_asked_by
  b_Hand_asked_by : Binds K fd_Hand_asked_by ["self", "sender"] []
  me_Hand_asked_by : Meth K A.cHand "asked_by" f_Hand_asked_by
  f_Hand_told_by : Addr
  fd_Hand_told_by : FuncData
  F_Hand_told_by : Fun K "told_by" "Hand.told_by" s_Hand_told_by f_Hand_told_by fd_Hand_told_by
  b_Hand_told_by : Binds K fd_Hand_told_by ["self", "sender"] []
  me_Hand_told_by : Meth K A.cHand "told_by" f_Hand_told_by
  f_Hand_come : Addr
  fd_Hand_come : FuncData
  F_Hand_come : Fun K "come" "Hand.come" s_Hand_come f_Hand_come fd_Hand_come
  b_Hand_come : Binds K fd_Hand_come ["self", "letter"] []
  me_Hand_come : Meth K A.cHand "come" f_Hand_come
  f_is_hand : Addr
  fd_is_hand : FuncData
  F_is_hand : Fun K "is_hand" "is_hand" s_is_hand f_is_hand fd_is_hand
  b_is_hand : Binds K fd_is_hand ["thing", "many"] []
  m_is_hand : mg "is_hand" = some (.ref f_is_hand)
  f_is_wait : Addr
  fd_is_wait : FuncData
  F_is_wait : Fun K "is_wait" "is_wait" s_is_wait f_is_wait fd_is_wait
  b_is_wait : Binds K fd_is_wait ["wait", "many"] []
  m_is_wait : mg "is_wait" = some (.ref f_is_wait)
  f_need : Addr
  fd_need : FuncData
  F_need : Fun K "need" "need" s_need f_need fd_need
  b_need : Binds K fd_need ["waits"] []
  m_need : mg "need" = some (.ref f_need)
  f_need_hand : Addr
  fd_need_hand : FuncData
  F_need_hand : Fun K "need_hand" "need_hand" s_need_hand f_need_hand fd_need_hand
  b_need_hand : Binds K fd_need_hand ["many", "hand"] []
  m_need_hand : mg "need_hand" = some (.ref f_need_hand)
  f_comes_free : Addr
  fd_comes_free : FuncData
  F_comes_free : Fun K "comes_free" "comes_free" s_comes_free f_comes_free fd_comes_free
  b_comes_free : Binds K fd_comes_free ["wait", "rounds"] []
  m_comes_free : mg "comes_free" = some (.ref f_comes_free)
  f_freed : Addr
  fd_freed : FuncData
  F_freed : Fun K "freed" "freed" s_freed f_freed fd_freed
  b_freed : Binds K fd_freed ["waits"] []
  m_freed : mg "freed" = some (.ref f_freed)
  f_stuck : Addr
  fd_stuck : FuncData
  F_stuck : Fun K "stuck" "stuck" s_stuck f_stuck fd_stuck
  b_stuck : Binds K fd_stuck ["waits"] []
  m_stuck : mg "stuck" = some (.ref f_stuck)
  f_shows : Addr
  fd_shows : FuncData
  F_shows : Fun K "shows" "shows" s_shows f_shows fd_shows
  b_shows : Binds K fd_shows ["waits", "hands"] []
  m_shows : mg "shows" = some (.ref f_shows)
  f_Net_init : Addr
  fd_Net_init : FuncData
  F_Net_init : Fun K "__init__" "Net.__init__" s_Net_init f_Net_init fd_Net_init
  b_Net_init : Binds K fd_Net_init ["self", "waits", "asker"] []
  mk_Net : Mk K A.cNet f_Net_init
  gc_Net : mg "Net" = some (.ref A.cNet)
  f_Net_letters : Addr
  fd_Net_letters : FuncData
  F_Net_letters : Fun K "letters" "Net.letters" s_Net_letters f_Net_letters fd_Net_letters
  b_Net_letters : Binds K fd_Net_letters ["self"] []
  me_Net_letters : Meth K A.cNet "letters" f_Net_letters
  f_Net_bring : Addr
  fd_Net_bring : FuncData
  F_Net_bring : Fun K "bring" "Net.bring" s_Net_bring f_Net_bring fd_Net_bring
  b_Net_bring : Binds K fd_Net_bring ["self", "place"] []
  me_Net_bring : Meth K A.cNet "bring" f_Net_bring
  f_Net_sent : Addr
  fd_Net_sent : FuncData
  F_Net_sent : Fun K "sent" "Net.sent" s_Net_sent f_Net_sent fd_Net_sent
  b_Net_sent : Binds K fd_Net_sent ["self"] []
  me_Net_sent : Meth K A.cNet "sent" f_Net_sent
  f_Net_hand : Addr
  fd_Net_hand : FuncData
  F_Net_hand : Fun K "hand" "Net.hand" s_Net_hand f_Net_hand fd_Net_hand
  b_Net_hand : Binds K fd_Net_hand ["self", "number"] []
  me_Net_hand : Meth K A.cNet "hand" f_Net_hand
  f_Net_rung : Addr
  fd_Net_rung : FuncData
  F_Net_rung : Fun K "rung" "Net.rung" s_Net_rung f_Net_rung fd_Net_rung
  b_Net_rung : Binds K fd_Net_rung ["self"] []
  me_Net_rung : Meth K A.cNet "rung" f_Net_rung
  f_Net_shown : Addr
  fd_Net_shown : FuncData
  F_Net_shown : Fun K "shown" "Net.shown" s_Net_shown f_Net_shown fd_Net_shown
  b_Net_shown : Binds K fd_Net_shown ["self"] []
  me_Net_shown : Meth K A.cNet "shown" f_Net_shown
  f_Net_owed_by : Addr
  fd_Net_owed_by : FuncData
  F_Net_owed_by : Fun K "owed_by" "Net.owed_by" s_Net_owed_by f_Net_owed_by fd_Net_owed_by
  b_Net_owed_by : Binds K fd_Net_owed_by ["self", "hand"] []
  me_Net_owed_by : Meth K A.cNet "owed_by" f_Net_owed_by
  f_Net_waker_of : Addr
  fd_Net_waker_of : FuncData
  F_Net_waker_of : Fun K "waker_of" "Net.waker_of" s_Net_waker_of f_Net_waker_of fd_Net_waker_of
  b_Net_waker_of : Binds K fd_Net_waker_of ["self", "hand"] []
  me_Net_waker_of : Meth K A.cNet "waker_of" f_Net_waker_of
  f_Net_freed_yet : Addr
  fd_Net_freed_yet : FuncData
  F_Net_freed_yet : Fun K "freed_yet" "Net.freed_yet" s_Net_freed_yet f_Net_freed_yet fd_Net_freed_yet
  b_Net_freed_yet : Binds K fd_Net_freed_yet ["self", "hand"] []
  me_Net_freed_yet : Meth K A.cNet "freed_yet" f_Net_freed_yet
  f_cell_at : Addr
  fd_cell_at : FuncData
  F_cell_at : Fun K "_law_cell_at" "_law_cell_at" s_cell_at f_cell_at fd_cell_at
  b_cell_at : Binds K fd_cell_at ["_law_script", "_law_k"] []
  m_cell_at : mg "_law_cell_at" = some (.ref f_cell_at)
  f_deed : Addr
  fd_deed : FuncData
  F_deed : Fun K "_law_deed" "_law_deed" s_deed f_deed fd_deed
  b_deed : Binds K fd_deed ["_law_kind", "_law_waits", "_law_net", "_law_wrong_here", "_law_hands"] []
  m_deed : mg "_law_deed" = some (.ref f_deed)
  f_by_name : Addr
  fd_by_name : FuncData
  F_by_name : Fun K "_law_by_name" "_law_by_name" s_by_name f_by_name fd_by_name
  b_by_name : Binds K fd_by_name ["_law_kind", "_law_waits", "_law_net", "_law_wrong_here", "_law_hands"] []
  m_by_name : mg "_law_by_name" = some (.ref f_by_name)
  f_by_base : Addr
  fd_by_base : FuncData
  F_by_base : Fun K "_law_by_base" "_law_by_base" s_by_base f_by_base fd_by_base
  b_by_base : Binds K fd_by_base ["_law_kind", "_law_waits", "_law_net", "_law_wrong_here", "_law_hands"] []
  m_by_base : mg "_law_by_base" = some (.ref f_by_base)
  f_said : Addr
  fd_said : FuncData
  F_said : Fun K "_law_said" "_law_said" s_said f_said fd_said
  b_said : Binds K fd_said ["_law_way", "_law_kind", "_law_waits", "_law_net", "_law_wrong_here", "_law_hands"] []
  m_said : mg "_law_said" = some (.ref f_said)
  f_seen : Addr
  fd_seen : FuncData
  F_seen : Fun K "_law_seen" "_law_seen" s_seen f_seen fd_seen
  b_seen : Binds K fd_seen ["_law_net", "_law_size"] []
  m_seen : mg "_law_seen" = some (.ref f_seen)
  f_wrong : Addr
  fd_wrong : FuncData
  F_wrong : Fun K "_law_wrong" "_law_wrong" s_wrong f_wrong fd_wrong
  b_wrong : Binds K fd_wrong ["_law_pick", "_law_size", "_law_many"] []
  m_wrong : mg "_law_wrong" = some (.ref f_wrong)
  f_law : Addr
  fd_law : FuncData
  F_law : Fun K "law" "law" s_law f_law fd_law
  b_law : Binds K fd_law ["_law_script"] []
  m_law : mg "law" = some (.ref f_law)
  err : ErrOk2 K A
  gc_BellError : mg "BellError" = some (.ref A.cBellError)
  gc_BadWaits : mg "BadWaits" = some (.ref A.cBadWaits)
  gc_NoHand : mg "NoHand" = some (.ref A.cNoHand)
  gc_NoLetter : mg "NoLetter" = some (.ref A.cNoLetter)
  rd_BellError : PySem.W.readsIn K A.cBellError (.type "type") = true
  ga_BellError : PySem.W.specialIn K (.ref A.cBellError) "__getattribute__" = some (some (.builtin "type.__getattribute__"))
  v_BellError : PySem.W.findCls K (.ref A.cBellError) (.type "type") "__init__" = some (.val (.builtin "ValueError.__init__"))
  x_NoHand : PySem.W.excIn K A.cNoHand [.type "ValueError", .type "Exception", .type "BaseException", .type "object"] "ValueError.__new__" = true
  k_NoHand : PySem.W.keepIn K (.ref A.cNoHand) = true
  s_NoHand : PySem.W.subIn K (.ref A.cNoHand) (.type "BaseException") = some true
  y_NoHand : PySem.W.typeIn K (.ref A.cNoHand) = some (.type "type")
  x_NoLetter : PySem.W.excIn K A.cNoLetter [.type "ValueError", .type "Exception", .type "BaseException", .type "object"] "ValueError.__new__" = true
  k_NoLetter : PySem.W.keepIn K (.ref A.cNoLetter) = true
  s_NoLetter : PySem.W.subIn K (.ref A.cNoLetter) (.type "BaseException") = some true
  y_NoLetter : PySem.W.typeIn K (.ref A.cNoLetter) = some (.type "type")
  cl_Hand : Cls K A.cHand
  no_Hand_number : NoAttr K A.cHand "number"
  no_Hand_word : NoAttr K A.cHand "word"
  no_Hand_others : NoAttr K A.cHand "others"
  no_Hand_is_asker : NoAttr K A.cHand "is_asker"
  no_Hand_is_freed : NoAttr K A.cHand "is_freed"
  no_Hand_has_asked : NoAttr K A.cHand "has_asked"
  no_Hand_askers : NoAttr K A.cHand "askers"
  no_Hand_told_so : NoAttr K A.cHand "told_so"
  no_Hand_owed : NoAttr K A.cHand "owed"
  no_Hand_waker : NoAttr K A.cHand "waker"
  cl_Net : Cls K A.cNet
  no_Net_asker : NoAttr K A.cNet "asker"
  no_Net_hands : NoAttr K A.cNet "hands"
  no_Net_row : NoAttr K A.cNet "row"
  no_Net_posted_so_far : NoAttr K A.cNet "posted_so_far"
  t_MOST_HANDS : Tok
  co_MOST_HANDS : mg "MOST_HANDS" = some (.int 40 t_MOST_HANDS)
  co_WORDS : mg "WORDS" = some (.ref A.words)
  words : WordsOk K A
  bi_ValueError : mg "ValueError" = none
  bi_bool : mg "bool" = none
  bi_enumerate : mg "enumerate" = none
  bi_int : mg "int" = none
  bi_isinstance : mg "isinstance" = none
  bi_len : mg "len" = none
  bi_list : mg "list" = none
  bi_range : mg "range" = none
  bi_str : mg "str" = none
  bi_tuple : mg "tuple" = none
theorem Tx.handOk {K : PySem.W.Frag} {mg : Str → Option Value} {A : Ad} (T : Tx K mg A) : HandOk K A := ⟨T.cl_Hand, T.no_Hand_number, T.no_Hand_word, T.no_Hand_others, T.no_Hand_is_asker, T.no_Hand_is_freed, T.no_Hand_has_asked, T.no_Hand_askers, T.no_Hand_told_so, T.no_Hand_owed, T.no_Hand_waker⟩
theorem Tx.netOk {K : PySem.W.Frag} {mg : Str → Option Value} {A : Ad} (T : Tx K mg A) : NetOk K A := ⟨T.cl_Net, T.no_Net_asker, T.no_Net_hands, T.no_Net_row, T.no_Net_posted_so_far⟩
section
variable {P : Program} {w : World} {K : PySem.W.Frag} {mg : Str → Option Value} {base : Heap} {A : Ad}
theorem ok_BadWaits_init (T : Tx K mg A) : FnOk P w K mg base CX0 1 T.f_BadWaits_init T.fd_BadWaits_init ["self", "at"] (sp_BadWaits_init K A) := by
  refine T.F_BadWaits_init.ok sc_BadWaits_init (fun vs H Q E h => by obtain ⟨a, b, rfl, h⟩ := h; rfl) (fun cdv A0 outer s H vs Q E hr h => ?_)
  have hu := hu_of hr
  obtain ⟨a, b, rfl, h⟩ := h
  exact ⟨t_BadWaits_init K A, (pss_cons (ps_expr (pe_clinit rfl T.gc_BellError T.rd_BellError T.ga_BellError T.v_BellError (pa_cons (pv 0) (pa_cons pe_str pa_nil))))
    (pss_one (ps_ost (pv 0) (pv 1)))),
    rd_BadWaits_init h⟩
theorem ok_Hand_init (T : Tx K mg A) : FnOk P w K mg base CX0 1 T.f_Hand_init T.fd_Hand_init ["self", "number", "wait", "is_asker"] (sp_Hand_init K A) := by
  refine T.F_Hand_init.ok sc_Hand_init (fun vs H Q E h => by obtain ⟨a, b, c, d, rfl, h⟩ := h; rfl) (fun cdv A0 outer s H vs Q E hr h => ?_)
  have hu := hu_of hr
  obtain ⟨a, b, c, d, rfl, h⟩ := h
  exact ⟨t_Hand_init K A, (pss_cons (ps_fld (pv 0) (pv 1) rfl)
    (pss_cons (ps_fld (pv 0) pe_non rfl)
    (pss_cons (ps_fld (pv 0) (pe_lst pa_nil) rfl)
    (Evl.pss_cut (ps_if (pt_cmpR op_notNq (pv 2) pe_non (nomark _))
    (pss_cons (ps_fld (pv 0) (pe_ix ix_tup (pv 2) pe_int (fun _ _ => rfl)) rfl)
    (pss_one (ps_fld (pv 0) (pe_callTy call_listq (by rfl) T.bi_list (by decide +kernel) (pa_cons (pe_ix ix_tup (pv 2) pe_int (fun _ _ => rfl)) pa_nil)) rfl)))
    pss_nil)
    (pss_cons (ps_fld (pv 0) (pv 3) rfl)
    (pss_cons (ps_fld (pv 0) (pe_cmpR op_isNq (pv 2) pe_non (nomark _)) rfl)
    (pss_cons (ps_fld (pv 0) pe_bl rfl)
    (pss_cons (ps_fld (pv 0) (pe_lst pa_nil) rfl)
    (pss_cons (ps_fld (pv 0) (pe_lst pa_nil) rfl)
    (pss_cons (ps_fld (pv 0) pe_int rfl)
    (pss_one (ps_fld (pv 0) pe_non rfl)))))))))))),
    rd_Hand_init T.handOk h⟩
theorem ok_Hand_posted (T : Tx K mg A) : FnOk P w K mg base CX0 1 T.f_Hand_posted T.fd_Hand_posted ["self", "word", "receivers"] (sp_Hand_posted K A) := by
  refine T.F_Hand_posted.ok sc_Hand_posted (fun vs H Q E h => by obtain ⟨a, b, c, rfl, h⟩ := h; rfl) (fun cdv A0 outer s H vs Q E hr h => ?_)
  have hu := hu_of hr
  obtain ⟨a, b, c, rfl, h⟩ := h
  exact ⟨t_Hand_posted K A, (pss_cons (ps_fld (pv 0) (pe_op op_add (pe_fld (pv 0) rfl) (pe_callB call_lenq (by rfl) T.bi_len PySem.boot_len (pa_cons (pv 2) pa_nil))) rfl)
    (pss_one (ps_ret (pe_lc (own := [("one", 3)]) (g := (gName 3)) (tt := tYes) (te := (tTup (tCons (tVar 1) (tCons (tFld K (tVar 0) "number") (tCons (tVar 3) tNil))))) rfl sc_Hand_posted.nd (pi_list (pv 2)) (blkOk_by (own := [("one", 3)]) (N := ["self", "word", "receivers", "one"]) (sc := defScope s_Hand_posted) (by decide +kernel)) (fun _ _ _ _ _ => (pg_name (i := 3) sc_Hand_posted.nd rfl (Or.inl rfl))) (fun _ _ _ _ _ => pts_nil) (fun _ _ _ _ _ => (pe_tup (pa_cons (pv 1) (pa_cons (pe_fld (pv 0) rfl) (pa_cons (pv 3) pa_nil))))))))),
    rd_Hand_posted T.handOk h⟩
theorem ok_Hand_asking (T : Tx K mg A) : FnOk P w K mg base CX0 2 T.f_Hand_asking T.fd_Hand_asking ["self"] (sp_Hand_asking K A) := by
  refine T.F_Hand_asking.ok sc_Hand_asking (fun vs H Q E h => by obtain ⟨a, rfl, h⟩ := h; rfl) (fun cdv A0 outer s H vs Q E hr h => ?_)
  have hu := hu_of hr
  obtain ⟨a, rfl, h⟩ := h
  exact ⟨t_Hand_asking K A, (pss_cons (ps_fld (pv 0) pe_bl rfl)
    (pss_one (ps_ret (pe_meth (pv 0) T.cl_Hand T.me_Hand_posted (ok_Hand_posted T) (hr.mono (by decide)) T.b_Hand_posted .nil pass0 (pa_cons pe_str (pa_cons (pe_fld (pv 0) rfl) pa_nil)))))),
    rd_Hand_asking T.handOk h⟩
theorem ok_Hand_begin (T : Tx K mg A) : FnOk P w K mg base CX0 3 T.f_Hand_begin T.fd_Hand_begin ["self"] (sp_Hand_begin K A) := by
  refine T.F_Hand_begin.ok sc_Hand_begin (fun vs H Q E h => by obtain ⟨a, rfl, h⟩ := h; rfl) (fun cdv A0 outer s H vs Q E hr h => ?_)
  have hu := hu_of hr
  obtain ⟨a, rfl, h⟩ := h
  exact ⟨t_Hand_begin K A, (pss_cons (ps_if (pt_val (pe_fld (pv 0) rfl))
    (pss_one (ps_ret (pe_lst pa_nil)))
    pss_nil)
    (pss_one (ps_ret (pe_meth0 (pv 0) T.cl_Hand T.me_Hand_asking (ok_Hand_asking T) (hr.mono (by decide)) T.b_Hand_asking .nil pass0)))),
    rd_Hand_begin T.handOk h⟩
theorem ok_Hand_asked_by (T : Tx K mg A) : FnOk P w K mg base CX0 3 T.f_Hand_asked_by T.fd_Hand_asked_by ["self", "sender"] (sp_Hand_asked_by K A) := by
  refine T.F_Hand_asked_by.ok sc_Hand_asked_by (fun vs H Q E h => by obtain ⟨a, b, rfl, h⟩ := h; rfl) (fun cdv A0 outer s H vs Q E hr h => ?_)
  have hu := hu_of hr
  obtain ⟨a, b, rfl, h⟩ := h
  exact ⟨t_Hand_asked_by K A, (pss_cons (ps_if (pt_val (pe_fld (pv 0) rfl))
    (pss_one (ps_ret (pe_meth (pv 0) T.cl_Hand T.me_Hand_posted (ok_Hand_posted T) (hr.mono (by decide)) T.b_Hand_posted .nil pass0 (pa_cons pe_str (pa_cons (pe_lst (pa_cons (pv 1) pa_nil)) pa_nil)))))
    pss_nil)
    (pss_cons (ps_expr (pe_bm PySem.F.plainAttrs_list PySem.F.slot_list_append PySem.F.type_list_append mt_append (pe_fld (pv 0) rfl) (pa_cons (pv 1) pa_nil)))
    (pss_cons (ps_if (pt_val (pe_fld (pv 0) rfl))
    (pss_one (ps_ret (pe_lst pa_nil)))
    pss_nil)
    (pss_one (ps_ret (pe_meth0 (pv 0) T.cl_Hand T.me_Hand_asking (ok_Hand_asking T) (hr.mono (by decide)) T.b_Hand_asking .nil pass0)))))),
    rd_Hand_asked_by T.handOk h⟩
theorem ok_Hand_told_by (T : Tx K mg A) : FnOk P w K mg base CX0 2 T.f_Hand_told_by T.fd_Hand_told_by ["self", "sender"] (sp_Hand_told_by K A) := by
  refine T.F_Hand_told_by.ok sc_Hand_told_by (fun vs H Q E h => by obtain ⟨a, b, rfl, h⟩ := h; rfl) (fun cdv A0 outer s H vs Q E hr h => ?_)
  have hu := hu_of hr
  obtain ⟨a, b, rfl, h⟩ := h
  exact ⟨t_Hand_told_by K A, (pss_cons (ps_expr (pe_bm PySem.F.plainAttrs_list PySem.F.slot_list_append PySem.F.type_list_append mt_append (pe_fld (pv 0) rfl) (pa_cons (pv 1) pa_nil)))
    (pss_cons (ps_if (PW.pt (pw_or (pt_val (pe_fld (pv 0) rfl)) (pw_or1 (PW.pt (pw_and (pt_cmpR op_eq (pe_fld (pv 0) rfl) pe_str (nomark _)) (pw_and1 (pt_cmpR op_lt (pe_callB call_lenq (by rfl) T.bi_len PySem.boot_len (pa_cons (pe_fld (pv 0) rfl) pa_nil)) (pe_callB call_lenq (by rfl) T.bi_len PySem.boot_len (pa_cons (pe_fld (pv 0) rfl) pa_nil)) (nomark _))))))))
    (pss_one (ps_ret (pe_lst pa_nil)))
    pss_nil)
    (pss_cons (ps_fld (pv 0) pe_bl rfl)
    (pss_one (ps_ret (pe_meth (pv 0) T.cl_Hand T.me_Hand_posted (ok_Hand_posted T) (hr.mono (by decide)) T.b_Hand_posted .nil pass0 (pa_cons pe_str (pa_cons (pe_fld (pv 0) rfl) pa_nil)))))))),
    rd_Hand_told_by T.handOk h⟩
theorem ok_Hand_come (T : Tx K mg A) : FnOk P w K mg base CX0 4 T.f_Hand_come T.fd_Hand_come ["self", "letter"] (sp_Hand_come K A) := by
  refine T.F_Hand_come.ok sc_Hand_come (fun vs H Q E h => by obtain ⟨a, b, rfl, h⟩ := h; rfl) (fun cdv A0 outer s H vs Q E hr h => ?_)
  have hu := hu_of hr
  obtain ⟨a, b, rfl, h⟩ := h
  exact ⟨t_Hand_come K A, (pss_cons (ps_asg (pv 1) (pg_tup (by rfl) (pgs_cons (pg_name (i := 2) sc_Hand_come.nd rfl (Or.inl rfl)) (pgs_cons (pg_name (i := 3) sc_Hand_come.nd rfl (Or.inl rfl)) (pgs_cons (pg_name (i := 4) sc_Hand_come.nd rfl (Or.inl rfl)) pgs_nil)))))
    (pss_cons (ps_set (i := 5) sc_Hand_come.nd rfl (Or.inl rfl) (pe_lst pa_nil))
    (Evl.pss_cut (ps_if (pt_cmpR op_eq (pv 2) pe_str (nomark _))
    (pss_one (ps_fld (pv 0) (pe_op op_sub (pe_fld (pv 0) rfl) pe_int) rfl))
    (Evl.pss_cut (ps_if (PW.pt (pw_or (pt_val (pe_fld (pv 0) rfl)) (pw_or1 (pt_cmpR op_notNq (pe_fld (pv 0) rfl) pe_non (nomark _)))))
    (pss_one (ps_expr (pe_bm PySem.F.plainAttrs_list PySem.F.slot_list_append PySem.F.type_list_append mt_append (pv 5) (pa_cons (pe_tup (pa_cons pe_str (pa_cons (pe_fld (pv 0) rfl) (pa_cons (pv 3) pa_nil)))) pa_nil))))
    (pss_one (ps_fld (pv 0) (pv 3) rfl)))
    (pss_one (ps_if (pt_cmpR op_eq (pv 2) pe_str (nomark _))
    (pss_one (ps_expr (pe_bm PySem.F.plainAttrs_list PySem.F.slot_list_extend PySem.F.type_list_extend mt_extend (pv 5) (pa_cons (pe_meth (pv 0) T.cl_Hand T.me_Hand_asked_by (ok_Hand_asked_by T) (hr.mono (by decide)) T.b_Hand_asked_by .nil pass0 (pa_cons (pv 3) pa_nil)) pa_nil))))
    (pss_one (ps_expr (pe_bm PySem.F.plainAttrs_list PySem.F.slot_list_extend PySem.F.type_list_extend mt_extend (pv 5) (pa_cons (pe_meth (pv 0) T.cl_Hand T.me_Hand_told_by (ok_Hand_told_by T) (hr.mono (by decide)) T.b_Hand_told_by .nil pass0 (pa_cons (pv 3) pa_nil)) pa_nil))))))))
    (Evl.pss_cut (ps_if (PW.pt (pw_and (pt_cmpR op_eq (pe_fld (pv 0) rfl) pe_int (nomark _)) (pw_and1 (pt_cmpR op_notNq (pe_fld (pv 0) rfl) pe_non (nomark _)))))
    (pss_cons (ps_expr (pe_bm PySem.F.plainAttrs_list PySem.F.slot_list_append PySem.F.type_list_append mt_append (pv 5) (pa_cons (pe_tup (pa_cons pe_str (pa_cons (pe_fld (pv 0) rfl) (pa_cons (pe_fld (pv 0) rfl) pa_nil)))) pa_nil)))
    (pss_one (ps_fld (pv 0) pe_non rfl)))
    pss_nil)
    (pss_one (ps_ret (pv 5))))))),
    rd_Hand_come T.handOk h⟩
theorem ok_is_hand (T : Tx K mg A) : FnOk P w K mg base CX0 1 T.f_is_hand T.fd_is_hand ["thing", "many"] (sp_is_hand K A) := by
  refine T.F_is_hand.ok sc_is_hand (fun vs H Q E h => by obtain ⟨a, b, rfl, h⟩ := h; rfl) (fun cdv A0 outer s H vs Q E hr h => ?_)
  have hu := hu_of hr
  obtain ⟨a, b, rfl, h⟩ := h
  exact ⟨t_is_hand K A, (pss_one (ps_ret (pe_and (pe_callB call_isi (by rfl) T.bi_isinstance (by decide +kernel) (pa_cons (pv 0) (pa_cons (pe_bltn (by rfl) T.bi_int (by decide +kernel) rfl) pa_nil))) (pe_and (pe_not (pe_callB call_isi (by rfl) T.bi_isinstance (by decide +kernel) (pa_cons (pv 0) (pa_cons (pe_bltn (by rfl) T.bi_bool (by decide +kernel) rfl) pa_nil)))) (pe_one (pe_chain op_le op_lt pe_int (pv 0) (pv 1))))))),
    rd_is_hand h⟩
theorem ok_is_wait (T : Tx K mg A) : FnOk P w K mg base CX0 2 T.f_is_wait T.fd_is_wait ["wait", "many"] (sp_is_wait K A) := by
  refine T.F_is_wait.ok sc_is_wait (fun vs H Q E h => by obtain ⟨a, b, rfl, h⟩ := h; rfl) (fun cdv A0 outer s H vs Q E hr h => ?_)
  have hu := hu_of hr
  obtain ⟨a, b, rfl, h⟩ := h
  exact ⟨t_is_wait K A, (pss_cons (ps_if (pt_cmpR op_isNq (pv 0) pe_non (nomark _))
    (pss_one (ps_ret pe_bl))
    pss_nil)
    (pss_cons (ps_if (PW.pt (pw_or (pt_not (pt_val (pe_callB call_isi (by rfl) T.bi_isinstance (by decide +kernel) (pa_cons (pv 0) (pa_cons (pe_bltn (by rfl) T.bi_tuple (by decide +kernel) rfl) pa_nil))))) (pw_or (pt_cmpR op_ne (pe_callB call_lenq (by rfl) T.bi_len PySem.boot_len (pa_cons (pv 0) pa_nil)) pe_int (nomark _)) (pw_or (pt_not (pt_val (pe_callB call_isi (by rfl) T.bi_isinstance (by decide +kernel) (pa_cons (pe_ix ix_tup (pv 0) pe_int (fun _ _ => rfl)) (pa_cons (pe_bltn (by rfl) T.bi_str (by decide +kernel) rfl) pa_nil))))) (pw_or1 (pt_cmpR op_notIn_seq (pe_ix ix_tup (pv 0) pe_int (fun _ _ => rfl)) (pe_glob rfl T.co_WORDS rfl) rfl))))))
    (pss_one (ps_ret pe_bl))
    pss_nil)
    (pss_cons (ps_if (PW.pt (pw_or (pt_not (pt_val (pe_callB call_isi (by rfl) T.bi_isinstance (by decide +kernel) (pa_cons (pe_ix ix_tup (pv 0) pe_int (fun _ _ => rfl)) (pa_cons (pe_bltn (by rfl) T.bi_list (by decide +kernel) rfl) pa_nil))))) (pw_or1 (pt_cmpR (op_eqD hr.units) (pe_ix ix_tup (pv 0) pe_int (fun _ _ => rfl)) (pe_lst pa_nil) (nomark _)))))
    (pss_one (ps_ret pe_bl))
    pss_nil)
    (pss_cons (ps_for PassesOwn.never rfl (pi_enum (by rfl) T.bi_enumerate (pa_cons (pe_ix ix_tup (pv 0) pe_int (fun _ _ => rfl)) pa_nil)) (pg_tup (by rfl) (pgs_cons (pg_name (i := 2) sc_is_wait.nd rfl (Or.inl rfl)) (pgs_cons (pg_name (i := 3) sc_is_wait.nd rfl (Or.inl rfl)) pgs_nil)))
    (pss_one (ps_if (PW.pt (pw_or (pt_not (pt_val (pe_call (ok_is_hand T) (hr.mono (by decide)) rfl T.m_is_hand T.F_is_hand.kp T.b_is_hand .nil pass0 (pa_cons (pv 3) (pa_cons (pv 1) pa_nil))))) (pw_or1 (pt_cmpR op_in_seq (pv 3) (pe_slice sl_list (pe_ix ix_tup (pv 0) pe_int (fun _ _ => rfl)) po_none (po_some (pv 2))) rfl))))
    (pss_one (ps_ret pe_bl))
    pss_nil)))
    (pss_one (ps_ret pe_bl)))))),
    rd_is_wait T.words h⟩
theorem ok_need (T : Tx K mg A) : FnOk P w K mg base (L2.CX P w) 3 T.f_need T.fd_need ["waits"] (sp_need K A) := by
  refine T.F_need.okX sc_need (fun vs H Q E h => by obtain ⟨a, rfl, h⟩ := h; rfl) (fun cdv A0 outer s H vs Q E hr h => ?_)
  have hu := hu_of hr
  obtain ⟨a, rfl, h⟩ := h
  exact ⟨t_need K A E, (pss_cons (ps_if (PW.pt (pw_or (pt_not (pt_val (pe_callB call_isi (by rfl) T.bi_isinstance (by decide +kernel) (pa_cons (pv 0) (pa_cons (pe_bltn (by rfl) T.bi_list (by decide +kernel) rfl) pa_nil))))) (pw_or1 (pt_not (pt_chain op_le op_le pe_int (pe_callB call_lenq (by rfl) T.bi_len PySem.boot_len (pa_cons (pv 0) pa_nil)) (pe_glob rfl T.co_MOST_HANDS ⟨_, rfl⟩))))))
    (pss_one (ps_raiseX rfl (takes_of rfl rfl rfl rfl) (pmk_oex T.err.ox T.i_BadWaits T.ti_BadWaits (ok_BadWaits_init T) (hr.mono (by decide)) T.b_BadWaits_init .nil pass0 rfl T.gc_BadWaits (pa_cons pe_non pa_nil))))
    pss_nil)
    (pss_cons (ps_for (passes_of rfl) rfl (pi_enum (by rfl) T.bi_enumerate (pa_cons (pv 0) pa_nil)) (pg_tup (by rfl) (pgs_cons (pg_name (i := 1) sc_need.nd rfl (Or.inl rfl)) (pgs_cons (pg_name (i := 2) sc_need.nd rfl (Or.inl rfl)) pgs_nil)))
    (pss_one (ps_if (pt_not (pt_val (pe_call (ok_is_wait T) (hr.mono (by decide)) rfl T.m_is_wait T.F_is_wait.kp T.b_is_wait .nil pass0 (pa_cons (pv 2) (pa_cons (pe_callB call_lenq (by rfl) T.bi_len PySem.boot_len (pa_cons (pv 0) pa_nil)) pa_nil)))))
    (pss_one (ps_raiseX rfl (takes_of rfl rfl rfl rfl) (pmk_oex T.err.ox T.i_BadWaits T.ti_BadWaits (ok_BadWaits_init T) (hr.mono (by decide)) T.b_BadWaits_init .nil pass0 rfl T.gc_BadWaits (pa_cons (pv 1) pa_nil))))
    pss_nil)))
    (pss_one (ps_ret pe_bl)))),
    rd_need T.err.toErrOk h⟩
theorem ok_need_hand (T : Tx K mg A) : FnOk P w K mg base (L2.CX P w) 2 T.f_need_hand T.fd_need_hand ["many", "hand"] (sp_need_hand K A) := by
  refine T.F_need_hand.okX sc_need_hand (fun vs H Q E h => by obtain ⟨a, b, rfl, h⟩ := h; rfl) (fun cdv A0 outer s H vs Q E hr h => ?_)
  have hu := hu_of hr
  obtain ⟨a, b, rfl, h⟩ := h
  exact ⟨t_need_hand K A E, (pss_cons (ps_if (pt_not (pt_val (pe_call (ok_is_hand T) (hr.mono (by decide)) rfl T.m_is_hand T.F_is_hand.kp T.b_is_hand .nil pass0 (pa_cons (pv 1) (pa_cons (pv 0) pa_nil)))))
    (pss_one (ps_raiseX rfl (takes_of rfl rfl rfl rfl) (pmk_own PySem.F.excBase_ValueError T.x_NoHand T.gc_NoHand T.k_NoHand (raises_own T.s_NoHand T.y_NoHand) rfl)))
    pss_nil)
    (pss_one (ps_ret (pv 1)))),
    rd_need_hand h⟩
theorem ok_comes_free (T : Tx K mg A) : FnOk P w K mg base CX0 1 T.f_comes_free T.fd_comes_free ["wait", "rounds"] (sp_comes_free K A) := by
  refine T.F_comes_free.ok sc_comes_free (fun vs H Q E h => by obtain ⟨a, b, rfl, h⟩ := h; rfl) (fun cdv A0 outer s H vs Q E hr h => ?_)
  have hu := hu_of hr
  obtain ⟨a, b, rfl, h⟩ := h
  exact ⟨t_comes_free K A, (pss_cons (ps_setLc (i := 3) (own := [("one", 2)]) (g := (gName 2)) (tt := (tTest (tOp qNotN (tOp (rIxL K) (tVar 1) (tVar 2)) (tC .non)))) (te := (tVar 2)) rfl sc_comes_free.nd rfl rfl (sw_true rfl rfl rfl (by decide +kernel)) (pi_list (pe_ix ix_tup (pv 0) pe_int (fun _ _ => rfl))) (blkOk_by (own := [("one", 2)]) (N := ["wait", "rounds", "one", "come"]) (sc := defScope s_comes_free) (by decide +kernel)) (fun _ _ _ _ _ => (pg_name (i := 2) sc_comes_free.nd rfl (Or.inl rfl))) (fun _ _ _ _ _ => (pts_one (pt_cmpR op_notNq (pe_ix ix_list (pv 1) (pv 2) (fun _ _ => rfl)) pe_non (nomark _)))) (fun _ _ _ _ _ => (pv 2)))
    (pss_cons (ps_if (pt_cmpR op_eq (pe_ix ix_tup (pv 0) pe_int (fun _ _ => rfl)) pe_str (nomark _))
    (pss_one (ps_ret (pe_cmpR (op_neD hr.units) (pv 3) (pe_lst pa_nil) (nomark _))))
    pss_nil)
    (pss_one (ps_ret (pe_cmpR op_eq (pe_callB call_lenq (by rfl) T.bi_len PySem.boot_len (pa_cons (pv 3) pa_nil)) (pe_callB call_lenq (by rfl) T.bi_len PySem.boot_len (pa_cons (pe_ix ix_tup (pv 0) pe_int (fun _ _ => rfl)) pa_nil)) (nomark _)))))),
    rd_comes_free h⟩
theorem ok_freed (T : Tx K mg A) : FnOk P w K mg base (L2.CX P w) 4 T.f_freed T.fd_freed ["waits"] (sp_freed K A) := by
  refine T.F_freed.okX sc_freed (fun vs H Q E h => by obtain ⟨a, rfl, h⟩ := h; rfl) (fun cdv A0 outer s H vs Q E hr h => ?_)
  have hu := hu_of hr
  obtain ⟨a, rfl, h⟩ := h
  exact ⟨t_freed K A E, (pss_cons (ps_expr (pe_call (ok_need T) (hr.mono (by decide)) rfl T.m_need T.F_need.kp T.b_need .nil (passes_call (takes_of rfl rfl rfl rfl) (fun _ _ _ _ h => h)) (pa_cons (pv 0) pa_nil)))
    (pss_cons (ps_set (i := 1) sc_freed.nd rfl (Or.inr rfl) (pe_op op_rep (pe_lst (pa_cons pe_non pa_nil)) (pe_callB call_lenq (by rfl) T.bi_len PySem.boot_len (pa_cons (pv 0) pa_nil))))
    (pss_cons (ps_setLc (i := 3) (own := [("hand", 2)]) (g := (gName 2)) (tt := (tTest (tOp qIsN (tOp (rIxL K) (tVar 0) (tVar 2)) (tC .non)))) (te := (tVar 2)) rfl sc_freed.nd rfl rfl (sw_true rfl rfl rfl (by decide +kernel)) (pi_range1 rfl T.bi_range (pa_cons (pe_callB call_lenq (by rfl) T.bi_len PySem.boot_len (pa_cons (pv 0) pa_nil)) pa_nil)) (blkOk_by (own := [("hand", 2)]) (N := ["waits", "rounds", "hand", "fresh", "turn", "left"]) (sc := defScope s_freed) (by decide +kernel)) (fun _ _ _ _ _ => (pg_name (i := 2) sc_freed.nd rfl (Or.inl rfl))) (fun _ _ _ _ _ => (pts_one (pt_cmpR op_isNq (pe_ix ix_list (pv 0) (pv 2) (fun _ _ => rfl)) pe_non (nomark _)))) (fun _ _ _ _ _ => (pv 2)))
    (pss_cons (ps_set (i := 4) sc_freed.nd rfl (Or.inl rfl) pe_int)
    (pss_cons (ps_while (passes_of rfl) (pt_cmpR (op_neD hr.units) (pv 3) (pe_lst pa_nil) (nomark _))
    (pss_cons (ps_for (passes_of rfl) rfl (pi_list (pv 3)) (pg_name (i := 2) sc_freed.nd rfl (Or.inl rfl))
    (pss_one (ps_asg (pv 4) (pg_sub (pv 1) (pv 2) set_list))))
    (pss_cons (ps_set (i := 4) sc_freed.nd rfl (Or.inl rfl) (pe_op op_add (pv 4) pe_int))
    (pss_cons (ps_setLc (i := 5) (own := [("hand", 2)]) (g := (gName 2)) (tt := (tTest (tOp qIsN (tOp (rIxL K) (tVar 1) (tVar 2)) (tC .non)))) (te := (tVar 2)) rfl sc_freed.nd rfl rfl (sw_true rfl rfl rfl (by decide +kernel)) (pi_range1 rfl T.bi_range (pa_cons (pe_callB call_lenq (by rfl) T.bi_len PySem.boot_len (pa_cons (pv 0) pa_nil)) pa_nil)) (blkOk_by (own := [("hand", 2)]) (N := ["waits", "rounds", "hand", "fresh", "turn", "left"]) (sc := defScope s_freed) (by decide +kernel)) (fun _ _ _ _ _ => (pg_name (i := 2) sc_freed.nd rfl (Or.inl rfl))) (fun _ _ _ _ _ => (pts_one (pt_cmpR op_isNq (pe_ix ix_list (pv 1) (pv 2) (fun _ _ => rfl)) pe_non (nomark _)))) (fun _ _ _ _ _ => (pv 2)))
    (pss_one (ps_setLc (i := 3) (own := [("hand", 2)]) (g := (gName 2)) (tt := (tB (tCall (sp_comes_free K A) [] E0 (tCons (tOp (rIxL K) (tVar 0) (tVar 2)) (tCons (tVar 1) tNil))))) (te := (tVar 2)) rfl sc_freed.nd rfl rfl (sw_true rfl rfl rfl (by decide +kernel)) (pi_list (pv 5)) (blkOk_by (own := [("hand", 2)]) (N := ["waits", "rounds", "hand", "fresh", "turn", "left"]) (sc := defScope s_freed) (by decide +kernel)) (fun _ _ _ _ _ => (pg_name (i := 2) sc_freed.nd rfl (Or.inl rfl))) (fun _ _ _ _ _ => (pts_one (pt_val (pe_call (ok_comes_free T) (hr.mono (by decide)) rfl T.m_comes_free T.F_comes_free.kp T.b_comes_free .nil pass0 (pa_cons (pe_ix ix_list (pv 0) (pv 2) (fun _ _ => rfl)) (pa_cons (pv 1) pa_nil)))))) (fun _ _ _ _ _ => (pv 2))))))))
    (pss_one (ps_ret (pv 1)))))))),
    rd_freed h⟩
theorem ok_stuck (T : Tx K mg A) : FnOk P w K mg base (L2.CX P w) 5 T.f_stuck T.fd_stuck ["waits"] (sp_stuck K A) := by
  refine T.F_stuck.okX sc_stuck (fun vs H Q E h => by obtain ⟨a, rfl, h⟩ := h; rfl) (fun cdv A0 outer s H vs Q E hr h => ?_)
  have hu := hu_of hr
  obtain ⟨a, rfl, h⟩ := h
  exact ⟨t_stuck K A E, (pss_cons (ps_set (i := 1) sc_stuck.nd rfl (Or.inr rfl) (pe_call (ok_freed T) (hr.mono (by decide)) rfl T.m_freed T.F_freed.kp T.b_freed .nil (passes_call (takes_of rfl rfl rfl rfl) (fun _ _ _ _ h => h)) (pa_cons (pv 0) pa_nil)))
    (pss_one (ps_ret (pe_lc (own := [("hand", 2)]) (g := (gName 2)) (tt := (tTest (tOp qIsN (tOp (rIxL K) (tVar 1) (tVar 2)) (tC .non)))) (te := (tVar 2)) rfl sc_stuck.nd (pi_range1 rfl T.bi_range (pa_cons (pe_callB call_lenq (by rfl) T.bi_len PySem.boot_len (pa_cons (pv 0) pa_nil)) pa_nil)) (blkOk_by (own := [("hand", 2)]) (N := ["waits", "rounds", "hand"]) (sc := defScope s_stuck) (by decide +kernel)) (fun _ _ _ _ _ => (pg_name (i := 2) sc_stuck.nd rfl (Or.inl rfl))) (fun _ _ _ _ _ => (pts_one (pt_cmpR op_isNq (pe_ix ix_list (pv 1) (pv 2) (fun _ _ => rfl)) pe_non (nomark _)))) (fun _ _ _ _ _ => (pv 2)))))),
    rd_stuck h⟩
theorem ok_shows (T : Tx K mg A) : FnOk P w K mg base (L2.CX P w) 4 T.f_shows T.fd_shows ["waits", "hands"] (sp_shows K A) := by
  refine T.F_shows.okX sc_shows (fun vs H Q E h => by obtain ⟨a, b, rfl, h⟩ := h; rfl) (fun cdv A0 outer s H vs Q E hr h => ?_)
  have hu := hu_of hr
  obtain ⟨a, b, rfl, h⟩ := h
  exact ⟨t_shows K A E, (pss_cons (ps_expr (pe_call (ok_need T) (hr.mono (by decide)) rfl T.m_need T.F_need.kp T.b_need .nil (passes_call (takes_of rfl rfl rfl rfl) (fun _ _ _ _ h => h)) (pa_cons (pv 0) pa_nil)))
    (pss_cons (ps_for (passes_of rfl) rfl (pi_list (pv 1)) (pg_name (i := 2) sc_shows.nd rfl (Or.inl rfl))
    (pss_one (ps_expr (pe_call (ok_need_hand T) (hr.mono (by decide)) rfl T.m_need_hand T.F_need_hand.kp T.b_need_hand .nil (passes_call (takes_of rfl rfl rfl rfl) (fun _ _ _ _ h => h)) (pa_cons (pe_callB call_lenq (by rfl) T.bi_len PySem.boot_len (pa_cons (pv 0) pa_nil)) (pa_cons (pv 2) pa_nil))))))
    (pss_cons (ps_for (passes_of rfl) rfl (pi_list (pv 1)) (pg_name (i := 2) sc_shows.nd rfl (Or.inl rfl))
    (pss_cons (ps_set (i := 3) sc_shows.nd rfl (Or.inl rfl) (pe_ix ix_list (pv 0) (pv 2) (fun _ _ => rfl)))
    (pss_cons (ps_if (pt_cmpR op_isNq (pv 3) pe_non (nomark _))
    (pss_one (ps_ret pe_bl))
    pss_nil)
    (pss_cons (ps_setLc (i := 5) (own := [("one", 4)]) (g := (gName 4)) (tt := (tTest (tOp (rIn K false) (tVar 4) (tVar 1)))) (te := (tVar 4)) rfl sc_shows.nd rfl rfl (sw_true rfl rfl rfl (by decide +kernel)) (pi_list (pe_ix ix_tup (pv 3) pe_int (fun _ _ => rfl))) (blkOk_by (own := [("one", 4)]) (N := ["waits", "hands", "hand", "wait", "one", "within"]) (sc := defScope s_shows) (by decide +kernel)) (fun _ _ _ _ _ => (pg_name (i := 4) sc_shows.nd rfl (Or.inl rfl))) (fun _ _ _ _ _ => (pts_one (pt_cmpR op_in_seq (pv 4) (pv 1) rfl))) (fun _ _ _ _ _ => (pv 4)))
    (pss_one (ps_if (PW.pt (pw_or (pt_cmpR (op_eqD hr.units) (pv 5) (pe_lst pa_nil) (nomark _)) (pw_or1 (PW.pt (pw_and (pt_cmpR op_eq (pe_ix ix_tup (pv 3) pe_int (fun _ _ => rfl)) pe_str (nomark _)) (pw_and1 (pt_cmpR op_lt (pe_callB call_lenq (by rfl) T.bi_len PySem.boot_len (pa_cons (pv 5) pa_nil)) (pe_callB call_lenq (by rfl) T.bi_len PySem.boot_len (pa_cons (pe_ix ix_tup (pv 3) pe_int (fun _ _ => rfl)) pa_nil)) (nomark _))))))))
    (pss_one (ps_ret pe_bl))
    pss_nil))))))
    (pss_one (ps_ret pe_bl))))),
    rd_shows h⟩
theorem ok_Net_init (T : Tx K mg A) : FnOk P w K mg base (L2.CX P w) 4 T.f_Net_init T.fd_Net_init ["self", "waits", "asker"] (sp_Net_init K A) := by
  refine T.F_Net_init.okX sc_Net_init (fun vs H Q E h => by obtain ⟨a, b, c, rfl, h⟩ := h; rfl) (fun cdv A0 outer s H vs Q E hr h => ?_)
  have hu := hu_of hr
  obtain ⟨a, b, c, rfl, h⟩ := h
  exact ⟨t_Net_init K A E, (pss_cons (ps_expr (pe_call (ok_need T) (hr.mono (by decide)) rfl T.m_need T.F_need.kp T.b_need .nil (passes_call (takes_of rfl rfl rfl rfl) (fun _ _ _ _ h => h)) (pa_cons (pv 1) pa_nil)))
    (pss_cons (ps_fld (pv 0) (pe_call (ok_need_hand T) (hr.mono (by decide)) rfl T.m_need_hand T.F_need_hand.kp T.b_need_hand .nil (passes_call (takes_of rfl rfl rfl rfl) (fun _ _ _ _ h => h)) (pa_cons (pe_callB call_lenq (by rfl) T.bi_len PySem.boot_len (pa_cons (pv 1) pa_nil)) (pa_cons (pv 2) pa_nil))) rfl)
    (pss_cons (ps_fld (pv 0) (pe_lc (own := [("number", 3), ("wait", 4)]) (g := (gTup K 2 (gCons (gName 3) (gCons (gName 4) gNil)))) (tt := tYes) (te := (tMake A.cHand (sp_Hand_init K A) [] E0 (tCons (tVar 3) (tCons (tVar 4) (tCons (tOp rEq (tVar 3) (tVar 2)) tNil))))) rfl sc_Net_init.nd (pi_enum (by rfl) T.bi_enumerate (pa_cons (pv 1) pa_nil)) (blkOk_by (own := [("number", 3), ("wait", 4)]) (N := ["self", "waits", "asker", "number", "wait"]) (sc := defScope s_Net_init) (by decide +kernel)) (fun _ _ _ _ _ => (pg_tup (by rfl) (pgs_cons (pg_name (i := 3) sc_Net_init.nd rfl (Or.inl rfl)) (pgs_cons (pg_name (i := 4) sc_Net_init.nd rfl (Or.inl rfl)) pgs_nil)))) (fun _ _ _ _ _ => pts_nil) (fun _ _ _ _ _ => (pe_make T.mk_Hand (ok_Hand_init T) (hr.mono (by decide)) rfl T.gc_Hand T.b_Hand_init .nil pass0 (pa_cons (pv 3) (pa_cons (pv 4) (pa_cons (pe_cmpR op_eq (pv 3) (pv 2) (nomark _)) pa_nil)))))) rfl)
    (pss_cons (ps_fld (pv 0) (pe_meth0 (pe_ix ix_list (pe_fld (pv 0) rfl) (pv 2) (fun _ _ => rfl)) T.cl_Hand T.me_Hand_begin (ok_Hand_begin T) (hr.mono (by decide)) T.b_Hand_begin .nil pass0) rfl)
    (pss_one (ps_fld (pv 0) (pe_callB call_lenq (by rfl) T.bi_len PySem.boot_len (pa_cons (pe_fld (pv 0) rfl) pa_nil)) rfl)))))),
    rd_Net_init T.netOk T.handOk h⟩
theorem ok_Net_letters (T : Tx K mg A) : FnOk P w K mg base CX0 1 T.f_Net_letters T.fd_Net_letters ["self"] (sp_Net_letters K A) := by
  refine T.F_Net_letters.ok sc_Net_letters (fun vs H Q E h => by obtain ⟨a, rfl, h⟩ := h; rfl) (fun cdv A0 outer s H vs Q E hr h => ?_)
  have hu := hu_of hr
  obtain ⟨a, rfl, h⟩ := h
  exact ⟨t_Net_letters K A, (pss_one (ps_ret (pe_callTy call_listq (by rfl) T.bi_list (by decide +kernel) (pa_cons (pe_fld (pv 0) rfl) pa_nil)))),
    rd_Net_letters T.netOk h⟩
theorem ok_Net_bring (T : Tx K mg A) : FnOk P w K mg base (L2.CX P w) 5 T.f_Net_bring T.fd_Net_bring ["self", "place"] (sp_Net_bring K A) := by
  refine T.F_Net_bring.okX sc_Net_bring (fun vs H Q E h => by obtain ⟨a, b, rfl, h⟩ := h; rfl) (fun cdv A0 outer s H vs Q E hr h => ?_)
  have hu := hu_of hr
  obtain ⟨a, b, rfl, h⟩ := h
  exact ⟨t_Net_bring K A E, (pss_cons (ps_if (pt_not (pt_val (pe_call (ok_is_hand T) (hr.mono (by decide)) rfl T.m_is_hand T.F_is_hand.kp T.b_is_hand .nil pass0 (pa_cons (pv 1) (pa_cons (pe_callB call_lenq (by rfl) T.bi_len PySem.boot_len (pa_cons (pe_fld (pv 0) rfl) pa_nil)) pa_nil)))))
    (pss_one (ps_raiseX rfl (takes_of rfl rfl rfl rfl) (pmk_own PySem.F.excBase_ValueError T.x_NoLetter T.gc_NoLetter T.k_NoLetter (raises_own T.s_NoLetter T.y_NoLetter) rfl)))
    pss_nil)
    (pss_cons (ps_set (i := 2) sc_Net_bring.nd rfl (Or.inl rfl) (pe_bm PySem.F.plainAttrs_list PySem.F.slot_list_pop PySem.F.type_list_pop mt_popAt (pe_fld (pv 0) rfl) (pa_cons (pv 1) pa_nil)))
    (pss_cons (ps_set (i := 3) sc_Net_bring.nd rfl (Or.inl rfl) (pe_meth (pe_ix ix_list (pe_fld (pv 0) rfl) (pe_ix ix_tup (pv 2) pe_int (fun _ _ => rfl)) (fun _ _ => rfl)) T.cl_Hand T.me_Hand_come (ok_Hand_come T) (hr.mono (by decide)) T.b_Hand_come .nil pass0 (pa_cons (pv 2) pa_nil)))
    (pss_cons (ps_expr (pe_bm PySem.F.plainAttrs_list PySem.F.slot_list_extend PySem.F.type_list_extend mt_extend (pe_fld (pv 0) rfl) (pa_cons (pv 3) pa_nil)))
    (pss_cons (ps_fld (pv 0) (pe_op op_add (pe_fld (pv 0) rfl) (pe_callB call_lenq (by rfl) T.bi_len PySem.boot_len (pa_cons (pv 3) pa_nil))) rfl)
    (pss_one (ps_ret (pe_callTy call_listq (by rfl) T.bi_list (by decide +kernel) (pa_cons (pv 3) pa_nil))))))))),
    rd_Net_bring T.netOk T.handOk h⟩
theorem ok_Net_sent (T : Tx K mg A) : FnOk P w K mg base CX0 1 T.f_Net_sent T.fd_Net_sent ["self"] (sp_Net_sent K A) := by
  refine T.F_Net_sent.ok sc_Net_sent (fun vs H Q E h => by obtain ⟨a, rfl, h⟩ := h; rfl) (fun cdv A0 outer s H vs Q E hr h => ?_)
  have hu := hu_of hr
  obtain ⟨a, rfl, h⟩ := h
  exact ⟨t_Net_sent K A, (pss_one (ps_ret (pe_fld (pv 0) rfl))),
    rd_Net_sent T.netOk h⟩
theorem ok_Net_hand (T : Tx K mg A) : FnOk P w K mg base (L2.CX P w) 3 T.f_Net_hand T.fd_Net_hand ["self", "number"] (sp_Net_hand K A) := by
  refine T.F_Net_hand.okX sc_Net_hand (fun vs H Q E h => by obtain ⟨a, b, rfl, h⟩ := h; rfl) (fun cdv A0 outer s H vs Q E hr h => ?_)
  have hu := hu_of hr
  obtain ⟨a, b, rfl, h⟩ := h
  exact ⟨t_Net_hand K A E, (pss_one (ps_ret (pe_ix ix_list (pe_fld (pv 0) rfl) (pe_call (ok_need_hand T) (hr.mono (by decide)) rfl T.m_need_hand T.F_need_hand.kp T.b_need_hand .nil (passes_call (takes_of rfl rfl rfl rfl) (fun _ _ _ _ h => h)) (pa_cons (pe_callB call_lenq (by rfl) T.bi_len PySem.boot_len (pa_cons (pe_fld (pv 0) rfl) pa_nil)) (pa_cons (pv 1) pa_nil))) (fun _ _ => rfl)))),
    rd_Net_hand T.netOk h⟩
theorem ok_Net_rung (T : Tx K mg A) : FnOk P w K mg base CX0 1 T.f_Net_rung T.fd_Net_rung ["self"] (sp_Net_rung K A) := by
  refine T.F_Net_rung.ok sc_Net_rung (fun vs H Q E h => by obtain ⟨a, rfl, h⟩ := h; rfl) (fun cdv A0 outer s H vs Q E hr h => ?_)
  have hu := hu_of hr
  obtain ⟨a, rfl, h⟩ := h
  exact ⟨t_Net_rung K A, (pss_cons (ps_if (pt_cmpR op_gt (pe_fld (pe_ix ix_list (pe_fld (pv 0) rfl) (pe_fld (pv 0) rfl) (fun _ _ => rfl)) rfl) pe_int (nomark _))
    (pss_one (ps_ret pe_non))
    pss_nil)
    (pss_one (ps_ret (pe_not (pe_fld (pe_ix ix_list (pe_fld (pv 0) rfl) (pe_fld (pv 0) rfl) (fun _ _ => rfl)) rfl))))),
    rd_Net_rung T.netOk T.handOk h⟩
theorem ok_Net_shown (T : Tx K mg A) : FnOk P w K mg base CX0 1 T.f_Net_shown T.fd_Net_shown ["self"] (sp_Net_shown K A) := by
  refine T.F_Net_shown.ok sc_Net_shown (fun vs H Q E h => by obtain ⟨a, rfl, h⟩ := h; rfl) (fun cdv A0 outer s H vs Q E hr h => ?_)
  have hu := hu_of hr
  obtain ⟨a, rfl, h⟩ := h
  exact ⟨t_Net_shown K A, (pss_one (ps_ret (pe_lc (own := [("number", 1), ("one", 2)]) (g := (gTup K 2 (gCons (gName 1) (gCons (gName 2) gNil)))) (tt := (tAnd (tB (tFld K (tVar 2) "has_asked")) (tNot (tB (tFld K (tVar 2) "is_freed"))))) (te := (tVar 1)) rfl sc_Net_shown.nd (pi_enum (by rfl) T.bi_enumerate (pa_cons (pe_fld (pv 0) rfl) pa_nil)) (blkOk_by (own := [("number", 1), ("one", 2)]) (N := ["self", "number", "one"]) (sc := defScope s_Net_shown) (by decide +kernel)) (fun _ _ _ _ _ => (pg_tup (by rfl) (pgs_cons (pg_name (i := 1) sc_Net_shown.nd rfl (Or.inl rfl)) (pgs_cons (pg_name (i := 2) sc_Net_shown.nd rfl (Or.inl rfl)) pgs_nil)))) (fun _ _ _ _ _ => (pts_one (PW.pt (pw_and (pt_val (pe_fld (pv 2) rfl)) (pw_and1 (pt_not (pt_val (pe_fld (pv 2) rfl)))))))) (fun _ _ _ _ _ => (pv 1))))),
    rd_Net_shown T.netOk T.handOk h⟩
theorem ok_Net_owed_by (T : Tx K mg A) : FnOk P w K mg base (L2.CX P w) 4 T.f_Net_owed_by T.fd_Net_owed_by ["self", "hand"] (sp_Net_owed_by K A) := by
  refine T.F_Net_owed_by.okX sc_Net_owed_by (fun vs H Q E h => by obtain ⟨a, b, rfl, h⟩ := h; rfl) (fun cdv A0 outer s H vs Q E hr h => ?_)
  have hu := hu_of hr
  obtain ⟨a, b, rfl, h⟩ := h
  exact ⟨t_Net_owed_by K A E, (pss_one (ps_ret (pe_fld (pe_meth (pv 0) T.cl_Net T.me_Net_hand (ok_Net_hand T) (hr.mono (by decide)) T.b_Net_hand .nil (passes_call (takes_of rfl rfl rfl rfl) (fun _ _ _ _ h => h)) (pa_cons (pv 1) pa_nil)) rfl))),
    rd_Net_owed_by T.netOk T.handOk h⟩
theorem ok_Net_waker_of (T : Tx K mg A) : FnOk P w K mg base (L2.CX P w) 4 T.f_Net_waker_of T.fd_Net_waker_of ["self", "hand"] (sp_Net_waker_of K A) := by
  refine T.F_Net_waker_of.okX sc_Net_waker_of (fun vs H Q E h => by obtain ⟨a, b, rfl, h⟩ := h; rfl) (fun cdv A0 outer s H vs Q E hr h => ?_)
  have hu := hu_of hr
  obtain ⟨a, b, rfl, h⟩ := h
  exact ⟨t_Net_waker_of K A E, (pss_one (ps_ret (pe_fld (pe_meth (pv 0) T.cl_Net T.me_Net_hand (ok_Net_hand T) (hr.mono (by decide)) T.b_Net_hand .nil (passes_call (takes_of rfl rfl rfl rfl) (fun _ _ _ _ h => h)) (pa_cons (pv 1) pa_nil)) rfl))),
    rd_Net_waker_of T.netOk T.handOk h⟩
theorem ok_Net_freed_yet (T : Tx K mg A) : FnOk P w K mg base (L2.CX P w) 4 T.f_Net_freed_yet T.fd_Net_freed_yet ["self", "hand"] (sp_Net_freed_yet K A) := by
  refine T.F_Net_freed_yet.okX sc_Net_freed_yet (fun vs H Q E h => by obtain ⟨a, b, rfl, h⟩ := h; rfl) (fun cdv A0 outer s H vs Q E hr h => ?_)
  have hu := hu_of hr
  obtain ⟨a, b, rfl, h⟩ := h
  exact ⟨t_Net_freed_yet K A E, (pss_one (ps_ret (pe_fld (pe_meth (pv 0) T.cl_Net T.me_Net_hand (ok_Net_hand T) (hr.mono (by decide)) T.b_Net_hand .nil (passes_call (takes_of rfl rfl rfl rfl) (fun _ _ _ _ h => h)) (pa_cons (pv 1) pa_nil)) rfl))),
    rd_Net_freed_yet T.netOk T.handOk h⟩
theorem ok_cell_at (T : Tx K mg A) : FnOk P w K mg base CX0 1 T.f_cell_at T.fd_cell_at ["_law_script", "_law_k"] (sp_cell_at K A) := by
  refine T.F_cell_at.ok sc_cell_at (fun vs H Q E h => by obtain ⟨a, b, rfl, h⟩ := h; rfl) (fun cdv A0 outer s H vs Q E hr h => ?_)
  have hu := hu_of hr
  obtain ⟨a, b, rfl, h⟩ := h
  exact ⟨t_cell_at K A, (pss_cons (ps_if (pt_cmpR op_lt (pv 1) (pe_callB call_lenq (by rfl) T.bi_len PySem.boot_len (pa_cons (pv 0) pa_nil)) (nomark _))
    (pss_one (ps_ret (pe_ix ix_list (pv 0) (pv 1) (fun _ _ => rfl))))
    pss_nil)
    (pss_one (ps_ret pe_int))),
    rd_cell_at h⟩
theorem ok_deed (T : Tx K mg A) : FnOk P w K mg base (L2.CX P w) 6 T.f_deed T.fd_deed ["_law_kind", "_law_waits", "_law_net", "_law_wrong_here", "_law_hands"] (sp_deed K A) := by
  refine T.F_deed.okX sc_deed (fun vs H Q E h => by obtain ⟨a, b, c, d, e, rfl, h⟩ := h; rfl) (fun cdv A0 outer s H vs Q E hr h => ?_)
  have hu := hu_of hr
  obtain ⟨a, b, c, d, e, rfl, h⟩ := h
  exact ⟨t_deed K A E, (Evl.pss_cut (ps_if (pt_cmpR op_eq (pv 0) pe_int (nomark _))
    (pss_one (ps_expr (pe_make T.mk_Net (ok_Net_init T) (hr.mono (by decide)) rfl T.gc_Net T.b_Net_init .nil (passes_call (takes_of rfl rfl rfl rfl) (fun _ _ _ _ h => h)) (pa_cons (pv 1) (pa_cons (pv 3) pa_nil)))))
    pss_nil)
    (Evl.pss_cut (ps_if (pt_cmpR op_eq (pv 0) pe_int (nomark _))
    (pss_one (ps_expr (pe_call (ok_shows T) (hr.mono (by decide)) rfl T.m_shows T.F_shows.kp T.b_shows .nil (passes_call (takes_of rfl rfl rfl rfl) (fun _ _ _ _ h => h)) (pa_cons (pv 1) (pa_cons (pv 4) pa_nil)))))
    pss_nil)
    (Evl.pss_cut (ps_if (pt_cmpR op_eq (pv 0) pe_int (nomark _))
    (pss_one (ps_expr (pe_meth (pv 2) T.cl_Net T.me_Net_owed_by (ok_Net_owed_by T) (hr.mono (by decide)) T.b_Net_owed_by .nil (passes_call (takes_of rfl rfl rfl rfl) (fun _ _ _ _ h => h)) (pa_cons (pv 3) pa_nil))))
    pss_nil)
    (Evl.pss_cut (ps_if (pt_cmpR op_eq (pv 0) pe_int (nomark _))
    (pss_one (ps_expr (pe_meth (pv 2) T.cl_Net T.me_Net_waker_of (ok_Net_waker_of T) (hr.mono (by decide)) T.b_Net_waker_of .nil (passes_call (takes_of rfl rfl rfl rfl) (fun _ _ _ _ h => h)) (pa_cons (pv 3) pa_nil))))
    pss_nil)
    (Evl.pss_cut (ps_if (pt_cmpR op_eq (pv 0) pe_int (nomark _))
    (pss_one (ps_expr (pe_meth (pv 2) T.cl_Net T.me_Net_freed_yet (ok_Net_freed_yet T) (hr.mono (by decide)) T.b_Net_freed_yet .nil (passes_call (takes_of rfl rfl rfl rfl) (fun _ _ _ _ h => h)) (pa_cons (pv 3) pa_nil))))
    pss_nil)
    (Evl.pss_cut (ps_if (pt_cmpR op_eq (pv 0) pe_int (nomark _))
    (pss_one (ps_expr (pe_meth (pv 2) T.cl_Net T.me_Net_bring (ok_Net_bring T) (hr.mono (by decide)) T.b_Net_bring .nil (passes_call (takes_of rfl rfl rfl rfl) (fun _ _ _ _ h => h)) (pa_cons (pv 3) pa_nil))))
    pss_nil)
    (Evl.pss_cut (ps_if (pt_cmpR op_eq (pv 0) pe_int (nomark _))
    (pss_one (ps_expr (pe_call (ok_freed T) (hr.mono (by decide)) rfl T.m_freed T.F_freed.kp T.b_freed .nil (passes_call (takes_of rfl rfl rfl rfl) (fun _ _ _ _ h => h)) (pa_cons (pv 1) pa_nil))))
    pss_nil)
    (pss_one (ps_if (pt_cmpR op_eq (pv 0) pe_int (nomark _))
    (pss_one (ps_expr (pe_call (ok_stuck T) (hr.mono (by decide)) rfl T.m_stuck T.F_stuck.kp T.b_stuck .nil (passes_call (takes_of rfl rfl rfl rfl) (fun _ _ _ _ h => h)) (pa_cons (pv 1) pa_nil))))
    pss_nil))))))))),
    rd_deed h⟩
theorem ok_by_name (T : Tx K mg A) : FnOk P w K mg base CX0 7 T.f_by_name T.fd_by_name ["_law_kind", "_law_waits", "_law_net", "_law_wrong_here", "_law_hands"] (sp_by_name K A) := by
  refine T.F_by_name.ok sc_by_name (fun vs H Q E h => by obtain ⟨a, b, c, d, e, rfl, h⟩ := h; rfl) (fun cdv A0 outer s H vs Q E hr h => ?_)
  have hu := hu_of hr
  obtain ⟨a, b, c, d, e, rfl, h⟩ := h
  exact ⟨t_by_name K A, (pss_cons (ps_tryM (tb := fun W => (tDrop (tCallS (sp_deed K A) (WE W) (tCons (tVar 0) (tCons (tVar 1) (tCons (tVar 2) (tCons (tVar 3) (tCons (tVar 4) tNil)))))))) rfl rfl takes0
    (fun W pn xe tk _ => (pss_one (ps_expr (by exact (pe_callS (ok_deed T) (hr.mono (by decide)) rfl T.m_deed T.F_deed.kp T.b_deed (fun σ => passAt tk σ) (by exact (pa_cons (pv 0) (pa_cons (pv 1) (pa_cons (pv 2) (pa_cons (pv 3) (pa_cons (pv 4) pa_nil)))))))))))
    (.cons0 (ts := fun a cls d => (tRet (tC (.str "hand")))) ⟨rfl, by decide, Or.inl T.gc_NoHand⟩ (fun a oe cls d pn hz hf => (pss_one (ps_ret pe_str))) (.cons0 (ts := fun a cls d => (tRet (tC (.str "letter")))) ⟨rfl, by decide, Or.inl T.gc_NoLetter⟩ (fun a oe cls d pn hz hf => (pss_one (ps_ret pe_str))) (.consA (i := 5) (ts := fun a cls d => (tRet (tTup (tCons (tC (.str "waits")) (tCons (tXf a cls d A.cBadWaits "at" (tVar 5)) tNil))))) sc_by_name.nd rfl rfl ⟨rfl, by decide, Or.inl T.gc_BadWaits⟩ (fun a oe cls d pn hz hf => (pss_one (ps_ret (pe_tup (pa_cons pe_str (pa_cons (pe_xf T.err.xf T.err.noAt hz hf (pv 5)) pa_nil)))))) .nil))))
    (pss_one (ps_ret pe_str))),
    rd_by_name T.err h⟩
theorem ok_by_base (T : Tx K mg A) : FnOk P w K mg base CX0 7 T.f_by_base T.fd_by_base ["_law_kind", "_law_waits", "_law_net", "_law_wrong_here", "_law_hands"] (sp_by_base K A) := by
  refine T.F_by_base.ok sc_by_base (fun vs H Q E h => by obtain ⟨a, b, c, d, e, rfl, h⟩ := h; rfl) (fun cdv A0 outer s H vs Q E hr h => ?_)
  have hu := hu_of hr
  obtain ⟨a, b, c, d, e, rfl, h⟩ := h
  exact ⟨t_by_base K A, (pss_cons (ps_tryA (i := 5) (tb := fun W => (tDrop (tCallS (sp_deed K A) (WE W) (tCons (tVar 0) (tCons (tVar 1) (tCons (tVar 2) (tCons (tVar 3) (tCons (tVar 4) tNil)))))))) (ts := fun a cls d => (tSeq (tAsg (tLst (tCons (tCB (qIsE K a cls d) (tCons (tVar 5) (tCons (tC (.ref A.cNoHand)) tNil))) (tCons (tCB (qIsE K a cls d) (tCons (tVar 5) (tCons (tC (.ref A.cNoLetter)) tNil))) (tCons (tCB (qIsE K a cls d) (tCons (tVar 5) (tCons (tC (.ref A.cBadWaits)) tNil))) tNil)))) (gName 6))
    (tSeq (tIfS (tOr (tNot (tB (tCB (qIsE K a cls d) (tCons (tVar 5) (tCons (tC (.ty "ValueError")) tNil))))) (tTest (tOp rNe (tBM K "list" (qCountD K) (tVar 6) (tCons (tC (.bl true)) tNil)) (tC (.int 1)))))
    (tRet (tC (.str "several")))
    tNext)
    (tSeq (tIfS (tB (tCB (qIsE K a cls d) (tCons (tVar 5) (tCons (tC (.ref A.cBadWaits)) tNil))))
    (tRet (tTup (tCons (tC (.str "waits")) (tCons (tXf a cls d A.cBadWaits "at" (tVar 5)) tNil))))
    tNext)
    (tRet (tOp (rIxL K) (tLst (tCons (tC (.str "hand")) (tCons (tC (.str "letter")) tNil))) (tBM K "list" (rIndexD K) (tVar 6) (tCons (tC (.bl true)) tNil)))))))) rfl rfl sc_by_base.nd rfl rfl ⟨rfl, by decide, Or.inl T.gc_BellError⟩ takes0
    (fun W pn xe tk _ => (pss_one (ps_expr (by exact (pe_callS (ok_deed T) (hr.mono (by decide)) rfl T.m_deed T.F_deed.kp T.b_deed (fun σ => passAt tk σ) (by exact (pa_cons (pv 0) (pa_cons (pv 1) (pa_cons (pv 2) (pa_cons (pv 3) (pa_cons (pv 4) pa_nil)))))))))))
    (fun a oe cls d pn hz hf => (pss_cons (ps_set (i := 6) sc_by_base.nd rfl (Or.inl rfl) (pe_lst (pa_cons (pe_callB (call_isEq T.err.g hz hf) (by rfl) T.bi_isinstance (by decide +kernel) (pa_cons (pv 5) (pa_cons (pe_glob rfl T.gc_NoHand rfl) pa_nil))) (pa_cons (pe_callB (call_isEq T.err.g hz hf) (by rfl) T.bi_isinstance (by decide +kernel) (pa_cons (pv 5) (pa_cons (pe_glob rfl T.gc_NoLetter rfl) pa_nil))) (pa_cons (pe_callB (call_isEq T.err.g hz hf) (by rfl) T.bi_isinstance (by decide +kernel) (pa_cons (pv 5) (pa_cons (pe_glob rfl T.gc_BadWaits rfl) pa_nil))) pa_nil)))))
    (pss_cons (ps_if (PW.pt (pw_or (pt_not (pt_val (pe_callB (call_isEq T.err.g hz hf) (by rfl) T.bi_isinstance (by decide +kernel) (pa_cons (pv 5) (pa_cons (pe_bltn (by rfl) T.bi_ValueError (by decide +kernel) rfl) pa_nil))))) (pw_or1 (pt_cmpR op_ne (pe_bm PySem.F.plainAttrs_list PySem.F.slot_list_count PySem.F.type_list_count (mt_countDq (u65 hr :)) (pv 6) (pa_cons pe_bl pa_nil)) pe_int (nomark _)))))
    (pss_one (ps_ret pe_str))
    pss_nil)
    (pss_cons (ps_if (pt_val (pe_callB (call_isEq T.err.g hz hf) (by rfl) T.bi_isinstance (by decide +kernel) (pa_cons (pv 5) (pa_cons (pe_glob rfl T.gc_BadWaits rfl) pa_nil))))
    (pss_one (ps_ret (pe_tup (pa_cons pe_str (pa_cons (pe_xf T.err.xf T.err.noAt hz hf (pv 5)) pa_nil)))))
    pss_nil)
    (pss_one (ps_ret (pe_ix ix_list (pe_lst (pa_cons pe_str (pa_cons pe_str pa_nil))) (pe_bm PySem.F.plainAttrs_list PySem.F.slot_list_index PySem.F.type_list_index (mt_indexD (u65 hr :)) (pv 6) (pa_cons pe_bl pa_nil)) (fun _ _ => rfl)))))))))
    (pss_one (ps_ret pe_str))),
    rd_by_base T.err h⟩
theorem ok_said (T : Tx K mg A) : FnOk P w K mg base CX0 8 T.f_said T.fd_said ["_law_way", "_law_kind", "_law_waits", "_law_net", "_law_wrong_here", "_law_hands"] (sp_said K A) := by
  refine T.F_said.ok sc_said (fun vs H Q E h => by obtain ⟨a, b, c, d, e, f, rfl, h⟩ := h; rfl) (fun cdv A0 outer s H vs Q E hr h => ?_)
  have hu := hu_of hr
  obtain ⟨a, b, c, d, e, f, rfl, h⟩ := h
  exact ⟨t_said K A, (pss_cons (ps_if (pt_cmpR op_eq (pv 0) pe_int (nomark _))
    (pss_one (ps_ret (pe_call (ok_by_name T) (hr.mono (by decide)) rfl T.m_by_name T.F_by_name.kp T.b_by_name .nil pass0 (pa_cons (pv 1) (pa_cons (pv 2) (pa_cons (pv 3) (pa_cons (pv 4) (pa_cons (pv 5) pa_nil))))))))
    pss_nil)
    (pss_one (ps_ret (pe_call (ok_by_base T) (hr.mono (by decide)) rfl T.m_by_base T.F_by_base.kp T.b_by_base .nil pass0 (pa_cons (pv 1) (pa_cons (pv 2) (pa_cons (pv 3) (pa_cons (pv 4) (pa_cons (pv 5) pa_nil))))))))),
    rd_said h⟩
theorem ok_seen (T : Tx K mg A) : FnOk P w K mg base CX0 5 T.f_seen T.fd_seen ["_law_net", "_law_size"] (sp_seen K A) := by
  refine T.F_seen.ok sc_seen (fun vs H Q E h => by obtain ⟨a, b, rfl, h⟩ := h; rfl) (fun cdv A0 outer s H vs Q E hr h => ?_)
  have hu := hu_of hr
  obtain ⟨a, b, rfl, h⟩ := h
  exact ⟨t_seen K A, (pss_cons (ps_setLc (i := 3) (own := [("_law_hand", 2)]) (g := (gName 2)) (tt := tYes) (te := (tMeth A.cNet "owed_by" (sp_Net_owed_by K A) [] E0 (tVar 0) (tCons (tVar 2) tNil))) rfl sc_seen.nd rfl rfl (sw_true rfl rfl rfl (by decide +kernel)) (pi_range1 rfl T.bi_range (pa_cons (pv 1) pa_nil)) (blkOk_by (own := [("_law_hand", 2)]) (N := ["_law_net", "_law_size", "_law_hand", "_law_owed"]) (sc := defScope s_seen) (by decide +kernel)) (fun _ _ _ _ _ => (pg_name (i := 2) sc_seen.nd rfl (Or.inl rfl))) (fun _ _ _ _ _ => pts_nil) (fun _ _ _ _ _ => (pe_meth (pv 0) T.cl_Net T.me_Net_owed_by (ok_Net_owed_by T) (hr.mono (by decide)) T.b_Net_owed_by .nil passL (pa_cons (pv 2) pa_nil))))
    (pss_one (ps_ret (pe_tup (pa_cons (pe_meth0 (pv 0) T.cl_Net T.me_Net_letters (ok_Net_letters T) (hr.mono (by decide)) T.b_Net_letters .nil pass0) (pa_cons (pe_meth0 (pv 0) T.cl_Net T.me_Net_sent (ok_Net_sent T) (hr.mono (by decide)) T.b_Net_sent .nil pass0) (pa_cons (pe_meth0 (pv 0) T.cl_Net T.me_Net_rung (ok_Net_rung T) (hr.mono (by decide)) T.b_Net_rung .nil pass0) (pa_cons (pe_meth0 (pv 0) T.cl_Net T.me_Net_shown (ok_Net_shown T) (hr.mono (by decide)) T.b_Net_shown .nil pass0) (pa_cons (pv 3) (pa_cons (pe_lc (own := [("_law_hand", 2)]) (g := (gName 2)) (tt := tYes) (te := (tMeth A.cNet "waker_of" (sp_Net_waker_of K A) [] E0 (tVar 0) (tCons (tVar 2) tNil))) rfl sc_seen.nd (pi_range1 rfl T.bi_range (pa_cons (pv 1) pa_nil)) (blkOk_by (own := [("_law_hand", 2)]) (N := ["_law_net", "_law_size", "_law_hand", "_law_owed"]) (sc := defScope s_seen) (by decide +kernel)) (fun _ _ _ _ _ => (pg_name (i := 2) sc_seen.nd rfl (Or.inl rfl))) (fun _ _ _ _ _ => pts_nil) (fun _ _ _ _ _ => (pe_meth (pv 0) T.cl_Net T.me_Net_waker_of (ok_Net_waker_of T) (hr.mono (by decide)) T.b_Net_waker_of .nil passL (pa_cons (pv 2) pa_nil)))) pa_nil)))))))))),
    rd_seen h⟩
theorem ok_wrong (T : Tx K mg A) : FnOk P w K mg base CX0 1 T.f_wrong T.fd_wrong ["_law_pick", "_law_size", "_law_many"] (sp_wrong K A) := by
  refine T.F_wrong.ok sc_wrong (fun vs H Q E h => by obtain ⟨a, b, c, rfl, h⟩ := h; rfl) (fun cdv A0 outer s H vs Q E hr h => ?_)
  have hu := hu_of hr
  obtain ⟨a, b, c, rfl, h⟩ := h
  exact ⟨t_wrong K A, (pss_one (ps_ret (pe_ix ix_list (pe_lst (pa_cons (pv 1) (pa_cons (pe_un un_neg pe_int) (pa_cons pe_bl (pa_cons pe_bl (pa_cons pe_non (pa_cons pe_str (pa_cons (pe_op op_pow pe_int pe_int) (pa_cons (pe_un un_neg (pv 1)) (pa_cons (pe_tup (pa_cons pe_int pa_nil)) pa_nil)))))))))) (pe_op op_mod (pv 0) pe_int) (fun _ _ => rfl)))),
    rd_wrong h⟩
theorem ok_law (T : Tx K mg A) : FnOk P w K mg base CX0 9 T.f_law T.fd_law ["_law_script"] (sp_law K A) := by
  refine T.F_law.ok sc_law (fun vs H Q E h => by obtain ⟨a, rfl, h⟩ := h; rfl) (fun cdv A0 outer s H vs Q E hr h => ?_)
  have hu := hu_of hr
  obtain ⟨a, rfl, h⟩ := h
  exact ⟨t_law K A, (pss_cons (ps_set (i := 1) sc_law.nd rfl (Or.inr rfl) (pe_call (ok_cell_at T) (hr.mono (by decide)) rfl T.m_cell_at T.F_cell_at.kp T.b_cell_at .nil pass0 (pa_cons (pv 0) (pa_cons pe_int pa_nil))))
    (pss_cons (ps_set (i := 2) sc_law.nd rfl (Or.inr rfl) (pe_op op_add pe_int (pe_op op_mod (pv 1) pe_int)))
    (Evl.pss_cut (ps_if (pt_cmpR op_eq (pe_op op_mod (pe_op op_fdiv (pv 1) pe_int) pe_int) pe_int (nomark _))
    (pss_one (ps_set (i := 2) sc_law.nd rfl (Or.inr rfl) (pe_op op_add pe_int (pe_op op_mod (pe_op op_fdiv (pv 1) pe_int) pe_int))))
    pss_nil)
    (pss_cons (ps_setLc (i := 4) (own := [("_law_k", 3)]) (g := (gName 3)) (tt := tYes) (te := (tTup (tCons (tOp (rIxL K) (tLst (tCons (tC (.str "all")) (tCons (tC (.str "any")) tNil))) (tOp qMod (tOp qAdd (tVar 3) (tVar 1)) (tC (.int 2)))) (tCons (tLst (tCons (tOp qMod (tOp qAdd (tVar 3) (tC (.int 1))) (tVar 2)) tNil)) tNil)))) rfl sc_law.nd rfl rfl (sw_true rfl rfl rfl (by decide +kernel)) (pi_range1 rfl T.bi_range (pa_cons (pv 2) pa_nil)) (blkOk_by (own := [("_law_k", 3)]) (N := ["_law_script", "_law_cell", "_law_size", "_law_k", "_law_waits", "_law_more", "_law_wrong_here", "_law_wait", "_law_net", "_law_turn", "_law_hand", "_law_hands", "_law_before", "_law_pick", "_law_bad", "_law_at", "_law_kind", "_law_way", "_law_due", "_law_place"]) (sc := defScope s_law) (by decide +kernel)) (fun _ _ _ _ _ => (pg_name (i := 3) sc_law.nd rfl (Or.inl rfl))) (fun _ _ _ _ _ => pts_nil) (fun _ _ _ _ _ => (pe_tup (pa_cons (pe_ix ix_list (pe_lst (pa_cons pe_str (pa_cons pe_str pa_nil))) (pe_op op_mod (pe_op op_add (pv 3) (pv 1)) pe_int) (fun _ _ => rfl)) (pa_cons (pe_lst (pa_cons (pe_op op_mod (pe_op op_add (pv 3) pe_int) (pv 2)) pa_nil)) pa_nil)))))
    (Evl.pss_cut (ps_if (pt_cmpR op_gt (pe_op op_mod (pe_call (ok_cell_at T) (hr.mono (by decide)) rfl T.m_cell_at T.F_cell_at.kp T.b_cell_at .nil pass0 (pa_cons (pv 0) (pa_cons pe_int pa_nil))) pe_int) pe_int (nomark _))
    (pss_one (ps_asg pe_non (pg_sub (pv 4) (pe_op op_sub (pv 2) pe_int) set_list)))
    pss_nil)
    (pss_cons (ps_set (i := 5) sc_law.nd rfl (Or.inr rfl) (pe_call (ok_cell_at T) (hr.mono (by decide)) rfl T.m_cell_at T.F_cell_at.kp T.b_cell_at .nil pass0 (pa_cons (pv 0) (pa_cons pe_int pa_nil))))
    (pss_cons (ps_set (i := 6) sc_law.nd rfl (Or.inl rfl) (pe_call (ok_wrong T) (hr.mono (by decide)) rfl T.m_wrong T.F_wrong.kp T.b_wrong .nil pass0 (pa_cons (pv 5) (pa_cons (pv 2) (pa_cons pe_int pa_nil)))))
    (pss_cons (ps_set (i := 8) sc_law.nd rfl (Or.inl rfl) (pe_make T.mk_Net (ok_Net_init T) (hr.mono (by decide)) rfl T.gc_Net T.b_Net_init .nil passL (pa_cons (pe_lc (own := [("_law_wait", 7)]) (g := (gName 7)) (tt := tYes) (te := (tVar 7)) rfl sc_law.nd (pi_list (pv 4)) (blkOk_by (own := [("_law_wait", 7)]) (N := ["_law_script", "_law_cell", "_law_size", "_law_k", "_law_waits", "_law_more", "_law_wrong_here", "_law_wait", "_law_net", "_law_turn", "_law_hand", "_law_hands", "_law_before", "_law_pick", "_law_bad", "_law_at", "_law_kind", "_law_way", "_law_due", "_law_place"]) (sc := defScope s_law) (by decide +kernel)) (fun _ _ _ _ _ => (pg_name (i := 7) sc_law.nd rfl (Or.inl rfl))) (fun _ _ _ _ _ => pts_nil) (fun _ _ _ _ _ => (pv 7))) (pa_cons (pe_op op_mod (pe_op op_fdiv (pe_call (ok_cell_at T) (hr.mono (by decide)) rfl T.m_cell_at T.F_cell_at.kp T.b_cell_at .nil pass0 (pa_cons (pv 0) (pa_cons pe_int pa_nil))) pe_int) (pv 2)) pa_nil))))
    (pss_cons (ps_for PassesOwn.never rfl (pi_range1 rfl T.bi_range (pa_cons (pe_op op_mod (pe_op op_fdiv (pv 5) pe_int) pe_int) pa_nil)) (pg_name (i := 9) sc_law.nd rfl (Or.inl rfl))
    (pss_one (ps_if (pt_cmpR (op_neD hr.units) (pe_meth0 (pv 8) T.cl_Net T.me_Net_letters (ok_Net_letters T) (hr.mono (by decide)) T.b_Net_letters .nil pass0) (pe_lst pa_nil) (nomark _))
    (pss_one (ps_expr (pe_meth (pv 8) T.cl_Net T.me_Net_bring (ok_Net_bring T) (hr.mono (by decide)) T.b_Net_bring .nil passL (pa_cons pe_int pa_nil))))
    pss_nil)))
    (pss_cons (ps_setLc (i := 11) (own := [("_law_hand", 10)]) (g := (gName 10)) (tt := (tTest (tOp qGt (tOp qMod (tOp qAdd (tVar 10) (tVar 5)) (tC (.int 3))) (tC (.int 0))))) (te := (tVar 10)) rfl sc_law.nd rfl rfl (sw_true rfl rfl rfl (by decide +kernel)) (pi_range1 rfl T.bi_range (pa_cons (pv 2) pa_nil)) (blkOk_by (own := [("_law_hand", 10)]) (N := ["_law_script", "_law_cell", "_law_size", "_law_k", "_law_waits", "_law_more", "_law_wrong_here", "_law_wait", "_law_net", "_law_turn", "_law_hand", "_law_hands", "_law_before", "_law_pick", "_law_bad", "_law_at", "_law_kind", "_law_way", "_law_due", "_law_place"]) (sc := defScope s_law) (by decide +kernel)) (fun _ _ _ _ _ => (pg_name (i := 10) sc_law.nd rfl (Or.inl rfl))) (fun _ _ _ _ _ => (pts_one (pt_cmpR op_gt (pe_op op_mod (pe_op op_add (pv 10) (pv 5)) pe_int) pe_int (nomark _)))) (fun _ _ _ _ _ => (pv 10)))
    (pss_cons (ps_expr (pe_bm PySem.F.plainAttrs_list PySem.F.slot_list_insert PySem.F.type_list_insert mt_insertq (pv 11) (pa_cons (pe_op op_mod (pe_op op_fdiv (pv 5) pe_int) (pe_op op_add (pe_callB call_lenq (by rfl) T.bi_len PySem.boot_len (pa_cons (pv 11) pa_nil)) pe_int)) (pa_cons (pv 6) pa_nil))))
    (pss_cons (ps_set (i := 12) sc_law.nd rfl (Or.inl rfl) (pe_call (ok_seen T) (hr.mono (by decide)) rfl T.m_seen T.F_seen.kp T.b_seen .nil pass0 (pa_cons (pv 8) (pa_cons (pv 2) pa_nil))))
    (pss_cons (ps_set (i := 13) sc_law.nd rfl (Or.inl rfl) (pe_op op_mod (pe_call (ok_cell_at T) (hr.mono (by decide)) rfl T.m_cell_at T.F_cell_at.kp T.b_cell_at .nil pass0 (pa_cons (pv 0) (pa_cons pe_int pa_nil))) pe_int))
    (pss_cons (ps_set (i := 14) sc_law.nd rfl (Or.inl rfl) (pe_ix ix_list (pe_lst (pa_cons (pe_callTy call_tuple_ofq (by rfl) T.bi_tuple (by decide +kernel) (pa_cons (pv 4) pa_nil)) (pa_cons (pe_op op_cat (pv 4) (pe_lst (pa_cons pe_int pa_nil))) (pa_cons (pe_op op_cat (pe_lst (pa_cons (pe_tup (pa_cons pe_str (pa_cons (pe_lst (pa_cons (pv 2) pa_nil)) pa_nil))) pa_nil)) (pe_slice sl_list (pv 4) (po_some pe_int) po_none)) (pa_cons (pe_lst pa_nil) pa_nil))))) (pv 13) (fun _ _ => rfl)))
    (pss_cons (ps_set (i := 15) sc_law.nd rfl (Or.inl rfl) (pe_ix ix_list (pe_lst (pa_cons pe_non (pa_cons (pv 2) (pa_cons pe_int (pa_cons pe_non pa_nil))))) (pv 13) (fun _ _ => rfl)))
    (Evl.pss_cut (ps_if (PW.pt (pw_and (pt_cmpR op_eq (pv 13) pe_int (nomark _)) (pw_and1 (pt_cmpR op_eq (pv 2) pe_int (nomark _)))))
    (pss_one (ps_set (i := 15) sc_law.nd rfl (Or.inl rfl) pe_non))
    pss_nil)
    (pss_cons (ps_for PassesOwn.never rfl (pi_range1 rfl T.bi_range (pa_cons pe_int pa_nil)) (pg_name (i := 16) sc_law.nd rfl (Or.inl rfl))
    (pss_cons (ps_set (i := 17) sc_law.nd rfl (Or.inl rfl) (pe_op op_mod (pe_op op_add (pv 16) (pe_op op_fdiv (pe_call (ok_cell_at T) (hr.mono (by decide)) rfl T.m_cell_at T.F_cell_at.kp T.b_cell_at .nil pass0 (pa_cons (pv 0) (pa_cons pe_int pa_nil))) pe_int)) pe_int))
    (pss_cons (ps_set (i := 18) sc_law.nd rfl (Or.inl rfl) (pe_ix ix_list (pe_lst (pa_cons pe_str (pa_cons pe_str (pa_cons pe_str (pa_cons pe_str (pa_cons pe_str (pa_cons pe_str (pa_cons pe_str (pa_cons pe_str pa_nil))))))))) (pv 16) (fun _ _ => rfl)))
    (pss_cons (ps_set (i := 19) sc_law.nd rfl (Or.inl rfl) (pv 6))
    (Evl.pss_cut (ps_if (PW.pt (pw_and (pt_cmpR op_eq (pv 16) pe_int (nomark _)) (pw_and (pt_cmpR (op_eqD hr.units) (pv 6) (pv 2) (nomark _)) (pw_and1 (pt_not (pt_val (pe_callB call_isi (by rfl) T.bi_isinstance (by decide +kernel) (pa_cons (pv 6) (pa_cons (pe_bltn (by rfl) T.bi_bool (by decide +kernel) rfl) pa_nil)))))))))
    (pss_one (ps_set (i := 19) sc_law.nd rfl (Or.inl rfl) (pe_callB call_lenq (by rfl) T.bi_len PySem.boot_len (pa_cons (pe_ix ix_tup (pv 12) pe_int (fun _ _ => rfl)) pa_nil))))
    pss_nil)
    (pss_cons (ps_if (pt_cmpR (op_neD hr.units) (pe_call (ok_said T) (hr.mono (by decide)) rfl T.m_said T.F_said.kp T.b_said .nil pass0 (pa_cons (pv 17) (pa_cons (pv 16) (pa_cons (pe_lc (own := [("_law_wait", 7)]) (g := (gName 7)) (tt := tYes) (te := (tVar 7)) rfl sc_law.nd (pi_list (pv 4)) (blkOk_by (own := [("_law_wait", 7)]) (N := ["_law_script", "_law_cell", "_law_size", "_law_k", "_law_waits", "_law_more", "_law_wrong_here", "_law_wait", "_law_net", "_law_turn", "_law_hand", "_law_hands", "_law_before", "_law_pick", "_law_bad", "_law_at", "_law_kind", "_law_way", "_law_due", "_law_place"]) (sc := defScope s_law) (by decide +kernel)) (fun _ _ _ _ _ => (pg_name (i := 7) sc_law.nd rfl (Or.inl rfl))) (fun _ _ _ _ _ => pts_nil) (fun _ _ _ _ _ => (pv 7))) (pa_cons (pv 8) (pa_cons (pv 19) (pa_cons (pe_callTy call_listq (by rfl) T.bi_list (by decide +kernel) (pa_cons (pv 11) pa_nil)) pa_nil))))))) (pv 18) (nomark _))
    (pss_one (ps_ret pe_bl))
    pss_nil)
    (Evl.pss_cut (ps_if (pt_cmpR op_in_seq (pv 16) (pe_tup (pa_cons pe_int (pa_cons pe_int (pa_cons pe_int (pa_cons pe_int pa_nil))))) rfl)
    (pss_one (ps_if (pt_cmpR (op_neD hr.units) (pe_call (ok_said T) (hr.mono (by decide)) rfl T.m_said T.F_said.kp T.b_said .nil pass0 (pa_cons (pv 17) (pa_cons (pv 16) (pa_cons (pv 14) (pa_cons (pv 8) (pa_cons (pv 6) (pa_cons (pe_callTy call_listq (by rfl) T.bi_list (by decide +kernel) (pa_cons (pv 11) pa_nil)) pa_nil))))))) (pe_tup (pa_cons pe_str (pa_cons (pv 15) pa_nil))) (nomark _))
    (pss_one (ps_ret pe_bl))
    pss_nil))
    pss_nil)
    (pss_one (ps_if (pt_cmpR (op_neD hr.units) (pe_call (ok_seen T) (hr.mono (by decide)) rfl T.m_seen T.F_seen.kp T.b_seen .nil pass0 (pa_cons (pv 8) (pa_cons (pv 2) pa_nil))) (pv 12) (nomark _))
    (pss_one (ps_ret pe_bl))
    pss_nil)))))))))
    (Evl.pss_cut (ps_if (pt_cmpR (op_neD hr.units) (pe_ix ix_tup (pv 12) pe_int (fun _ _ => rfl)) (pe_lst pa_nil) (nomark _))
    (pss_one (ps_expr (pe_meth (pv 8) T.cl_Net T.me_Net_bring (ok_Net_bring T) (hr.mono (by decide)) T.b_Net_bring .nil passL (pa_cons (pe_op op_sub (pe_callB call_lenq (by rfl) T.bi_len PySem.boot_len (pa_cons (pe_ix ix_tup (pv 12) pe_int (fun _ _ => rfl)) pa_nil)) pe_int) pa_nil))))
    pss_nil)
    (pss_one (ps_ret (pe_cmpR op_ge (pe_callB call_lenq (by rfl) T.bi_len PySem.boot_len (pa_cons (pe_meth0 (pv 8) T.cl_Net T.me_Net_letters (ok_Net_letters T) (hr.mono (by decide)) T.b_Net_letters .nil pass0) pa_nil)) (pe_op op_sub (pe_callB call_lenq (by rfl) T.bi_len PySem.boot_len (pa_cons (pe_ix ix_tup (pv 12) pe_int (fun _ _ => rfl)) pa_nil)) pe_int) (nomark _)))))))))))))))))))))),
    rd_law h⟩
end
theorem all_mk {l : PySem.W.OpenLaw} {w : World} {K : PySem.W.Frag} {h : Heap} {mg : Str → Option Value} {fa : Addr} (X : K.In h) (G : h.Ns mainGlobals mg) (hfa : mg "law" = some (.ref fa))
    {cHand : Addr} {cNet : Addr} {cBellError : Addr} {cBadWaits : Addr} {cNoHand : Addr} {cNoLetter : Addr} {f1 : Addr} {od1 an1 : Option Addr} {sl1 : Array (Option Value)} {oc1 kV1 dc1 pm1 cd1 ct1 : Value} {f2 : Addr} {od2 an2 : Option Addr} {sl2 : Array (Option Value)} {oc2 kV2 dc2 pm2 cd2 ct2 : Value} {f3 : Addr} {od3 an3 : Option Addr} {sl3 : Array (Option Value)} {oc3 kV3 dc3 pm3 cd3 ct3 : Value} {f4 : Addr} {od4 an4 : Option Addr} {sl4 : Array (Option Value)} {oc4 kV4 dc4 pm4 cd4 ct4 : Value} {f5 : Addr} {od5 an5 : Option Addr} {sl5 : Array (Option Value)} {oc5 kV5 dc5 pm5 cd5 ct5 : Value} {f6 : Addr} {od6 an6 : Option Addr} {sl6 : Array (Option Value)} {oc6 kV6 dc6 pm6 cd6 ct6 : Value} {f7 : Addr} {od7 an7 : Option Addr} {sl7 : Array (Option Value)} {oc7 kV7 dc7 pm7 cd7 ct7 : Value} {f8 : Addr} {od8 an8 : Option Addr} {sl8 : Array (Option Value)} {oc8 kV8 dc8 pm8 cd8 ct8 : Value} {f9 : Addr} {od9 an9 : Option Addr} {sl9 : Array (Option Value)} {oc9 kV9 dc9 pm9 cd9 ct9 : Value} {f10 : Addr} {od10 an10 : Option Addr} {sl10 : Array (Option Value)} {oc10 kV10 dc10 pm10 cd10 ct10 : Value} {f11 : Addr} {od11 an11 : Option Addr} {sl11 : Array (Option Value)} {oc11 kV11 dc11 pm11 cd11 ct11 : Value} {f12 : Addr} {od12 an12 : Option Addr} {sl12 : Array (Option Value)} {oc12 kV12 dc12 pm12 cd12 ct12 : Value} {f13 : Addr} {od13 an13 : Option Addr} {sl13 : Array (Option Value)} {oc13 kV13 dc13 pm13 cd13 ct13 : Value} {f14 : Addr} {od14 an14 : Option Addr} {sl14 : Array (Option Value)} {oc14 kV14 dc14 pm14 cd14 ct14 : Value} {f15 : Addr} {od15 an15 : Option Addr} {sl15 : Array (Option Value)} {oc15 kV15 dc15 pm15 cd15 ct15 : Value} {f16 : Addr} {od16 an16 : Option Addr} {sl16 : Array (Option Value)} {oc16 kV16 dc16 pm16 cd16 ct16 : Value} {f17 : Addr} {od17 an17 : Option Addr} {sl17 : Array (Option Value)} {oc17 kV17 dc17 pm17 cd17 ct17 : Value} {f18 : Addr} {od18 an18 : Option Addr} {sl18 : Array (Option Value)} {oc18 kV18 dc18 pm18 cd18 ct18 : Value} {f19 : Addr} {od19 an19 : Option Addr} {sl19 : Array (Option Value)} {oc19 kV19 dc19 pm19 cd19 ct19 : Value} {f20 : Addr} {od20 an20 : Option Addr} {sl20 : Array (Option Value)} {oc20 kV20 dc20 pm20 cd20 ct20 : Value} {f21 : Addr} {od21 an21 : Option Addr} {sl21 : Array (Option Value)} {oc21 kV21 dc21 pm21 cd21 ct21 : Value} {f22 : Addr} {od22 an22 : Option Addr} {sl22 : Array (Option Value)} {oc22 kV22 dc22 pm22 cd22 ct22 : Value} {f23 : Addr} {od23 an23 : Option Addr} {sl23 : Array (Option Value)} {oc23 kV23 dc23 pm23 cd23 ct23 : Value} {f24 : Addr} {od24 an24 : Option Addr} {sl24 : Array (Option Value)} {oc24 kV24 dc24 pm24 cd24 ct24 : Value} {f25 : Addr} {od25 an25 : Option Addr} {sl25 : Array (Option Value)} {oc25 kV25 dc25 pm25 cd25 ct25 : Value} {f26 : Addr} {od26 an26 : Option Addr} {sl26 : Array (Option Value)} {oc26 kV26 dc26 pm26 cd26 ct26 : Value} {f27 : Addr} {od27 an27 : Option Addr} {sl27 : Array (Option Value)} {oc27 kV27 dc27 pm27 cd27 ct27 : Value} {f28 : Addr} {od28 an28 : Option Addr} {sl28 : Array (Option Value)} {oc28 kV28 dc28 pm28 cd28 ct28 : Value} {f29 : Addr} {od29 an29 : Option Addr} {sl29 : Array (Option Value)} {oc29 kV29 dc29 pm29 cd29 ct29 : Value} {f30 : Addr} {od30 an30 : Option Addr} {sl30 : Array (Option Value)} {oc30 kV30 dc30 pm30 cd30 ct30 : Value} {f31 : Addr} {od31 an31 : Option Addr} {sl31 : Array (Option Value)} {oc31 kV31 dc31 pm31 cd31 ct31 : Value} {f32 : Addr} {od32 an32 : Option Addr} {sl32 : Array (Option Value)} {oc32 kV32 dc32 pm32 cd32 ct32 : Value} {f33 : Addr} {od33 an33 : Option Addr} {sl33 : Array (Option Value)} {oc33 kV33 dc33 pm33 cd33 ct33 : Value} {f34 : Addr} {od34 an34 : Option Addr} {sl34 : Array (Option Value)} {oc34 kV34 dc34 pm34 cd34 ct34 : Value} {nmB qB : Str} {NB : Addr} {bsB : List Value} {snB : List Str} {suB : List Value} {abB : Bool} {coB : Option Bool} {ddB : Option Addr} {m0B m1B m2B m3B m5B : Option Value} {tMOST_HANDS : Tok} {aW : Addr} {dW0 : Option Addr} {t1W t2W : Tok} {nW : Nat} {slW : Array (Option Value)}
    (gHand : PySem.W.nsIn K mainGlobals "Hand" = some (some (.ref cHand)))
    (gNet : PySem.W.nsIn K mainGlobals "Net" = some (some (.ref cNet)))
    (gBellError : PySem.W.nsIn K mainGlobals "BellError" = some (some (.ref cBellError)))
    (gBadWaits : PySem.W.nsIn K mainGlobals "BadWaits" = some (some (.ref cBadWaits)))
    (gNoHand : PySem.W.nsIn K mainGlobals "NoHand" = some (some (.ref cNoHand)))
    (gNoLetter : PySem.W.nsIn K mainGlobals "NoLetter" = some (some (.ref cNoLetter)))
    (a1 : PySem.W.findIn K (.ref cBadWaits) "__init__" = some (some (.ref f1)))
    (i1 : PySem.W.isFn K (.ref f1) = true)
    (l1 : K.lookup f1 = some ⟨oc1, od1, .func (PySem.W.fnOf "__init__" "BadWaits.__init__" (defArgs s_BadWaits_init) (defBody s_BadWaits_init) (defScope s_BadWaits_init) .none kV1 dc1 pm1 an1 cd1 ct1), sl1⟩)
    (c1 : PySem.W.codeIn K cd1 "BadWaits.__init__" = true)
    (k1 : PySem.W.keepIn K (.ref f1) = true)
    (a2 : PySem.W.findIn K (.ref cHand) "__init__" = some (some (.ref f2)))
    (i2 : PySem.W.isFn K (.ref f2) = true)
    (l2 : K.lookup f2 = some ⟨oc2, od2, .func (PySem.W.fnOf "__init__" "Hand.__init__" (defArgs s_Hand_init) (defBody s_Hand_init) (defScope s_Hand_init) .none kV2 dc2 pm2 an2 cd2 ct2), sl2⟩)
    (c2 : PySem.W.codeIn K cd2 "Hand.__init__" = true)
    (k2 : PySem.W.keepIn K (.ref f2) = true)
    (mkHand : PySem.W.makesIn K cHand = true)
    (kcHand : PySem.W.keepIn K (.ref cHand) = true)
    (a3 : PySem.W.findIn K (.ref cHand) "posted" = some (some (.ref f3)))
    (i3 : PySem.W.isFn K (.ref f3) = true)
    (l3 : K.lookup f3 = some ⟨oc3, od3, .func (PySem.W.fnOf "posted" "Hand.posted" (defArgs s_Hand_posted) (defBody s_Hand_posted) (defScope s_Hand_posted) .none kV3 dc3 pm3 an3 cd3 ct3), sl3⟩)
    (c3 : PySem.W.codeIn K cd3 "Hand.posted" = true)
    (k3 : PySem.W.keepIn K (.ref f3) = true)
    (a4 : PySem.W.findIn K (.ref cHand) "asking" = some (some (.ref f4)))
    (i4 : PySem.W.isFn K (.ref f4) = true)
    (l4 : K.lookup f4 = some ⟨oc4, od4, .func (PySem.W.fnOf "asking" "Hand.asking" (defArgs s_Hand_asking) (defBody s_Hand_asking) (defScope s_Hand_asking) .none kV4 dc4 pm4 an4 cd4 ct4), sl4⟩)
    (c4 : PySem.W.codeIn K cd4 "Hand.asking" = true)
    (k4 : PySem.W.keepIn K (.ref f4) = true)
    (a5 : PySem.W.findIn K (.ref cHand) "begin" = some (some (.ref f5)))
    (i5 : PySem.W.isFn K (.ref f5) = true)
    (l5 : K.lookup f5 = some ⟨oc5, od5, .func (PySem.W.fnOf "begin" "Hand.begin" (defArgs s_Hand_begin) (defBody s_Hand_begin) (defScope s_Hand_begin) .none kV5 dc5 pm5 an5 cd5 ct5), sl5⟩)
    (c5 : PySem.W.codeIn K cd5 "Hand.begin" = true)
    (k5 : PySem.W.keepIn K (.ref f5) = true)
    (a6 : PySem.W.findIn K (.ref cHand) "asked_by" = some (some (.ref f6)))
    (i6 : PySem.W.isFn K (.ref f6) = true)
    (l6 : K.lookup f6 = some ⟨oc6, od6, .func (PySem.W.fnOf "asked_by" "Hand.asked_by" (defArgs s_Hand_asked_by) (defBody s_Hand_asked_by) (defScope s_Hand_asked_by) .none kV6 dc6 pm6 an6 cd6 ct6), sl6⟩)
    (c6 : PySem.W.codeIn K cd6 "Hand.asked_by" = true)
    (k6 : PySem.W.keepIn K (.ref f6) = true)
    (a7 : PySem.W.findIn K (.ref cHand) "told_by" = some (some (.ref f7)))
    (i7 : PySem.W.isFn K (.ref f7) = true)
    (l7 : K.lookup f7 = some ⟨oc7, od7, .func (PySem.W.fnOf "told_by" "Hand.told_by" (defArgs s_Hand_told_by) (defBody s_Hand_told_by) (defScope s_Hand_told_by) .none kV7 dc7 pm7 an7 cd7 ct7), sl7⟩)
    (c7 : PySem.W.codeIn K cd7 "Hand.told_by" = true)
    (k7 : PySem.W.keepIn K (.ref f7) = true)
    (a8 : PySem.W.findIn K (.ref cHand) "come" = some (some (.ref f8)))
    (i8 : PySem.W.isFn K (.ref f8) = true)
    (l8 : K.lookup f8 = some ⟨oc8, od8, .func (PySem.W.fnOf "come" "Hand.come" (defArgs s_Hand_come) (defBody s_Hand_come) (defScope s_Hand_come) .none kV8 dc8 pm8 an8 cd8 ct8), sl8⟩)
    (c8 : PySem.W.codeIn K cd8 "Hand.come" = true)
    (k8 : PySem.W.keepIn K (.ref f8) = true)
    (a9 : PySem.W.nsIn K mainGlobals "is_hand" = some (some (.ref f9)))
    (l9 : K.lookup f9 = some ⟨oc9, od9, .func (PySem.W.fnOf "is_hand" "is_hand" (defArgs s_is_hand) (defBody s_is_hand) (defScope s_is_hand) .none kV9 dc9 pm9 an9 cd9 ct9), sl9⟩)
    (c9 : PySem.W.codeIn K cd9 "is_hand" = true)
    (k9 : PySem.W.keepIn K (.ref f9) = true)
    (a10 : PySem.W.nsIn K mainGlobals "is_wait" = some (some (.ref f10)))
    (l10 : K.lookup f10 = some ⟨oc10, od10, .func (PySem.W.fnOf "is_wait" "is_wait" (defArgs s_is_wait) (defBody s_is_wait) (defScope s_is_wait) .none kV10 dc10 pm10 an10 cd10 ct10), sl10⟩)
    (c10 : PySem.W.codeIn K cd10 "is_wait" = true)
    (k10 : PySem.W.keepIn K (.ref f10) = true)
    (a11 : PySem.W.nsIn K mainGlobals "need" = some (some (.ref f11)))
    (l11 : K.lookup f11 = some ⟨oc11, od11, .func (PySem.W.fnOf "need" "need" (defArgs s_need) (defBody s_need) (defScope s_need) .none kV11 dc11 pm11 an11 cd11 ct11), sl11⟩)
    (c11 : PySem.W.codeIn K cd11 "need" = true)
    (k11 : PySem.W.keepIn K (.ref f11) = true)
    (a12 : PySem.W.nsIn K mainGlobals "need_hand" = some (some (.ref f12)))
    (l12 : K.lookup f12 = some ⟨oc12, od12, .func (PySem.W.fnOf "need_hand" "need_hand" (defArgs s_need_hand) (defBody s_need_hand) (defScope s_need_hand) .none kV12 dc12 pm12 an12 cd12 ct12), sl12⟩)
    (c12 : PySem.W.codeIn K cd12 "need_hand" = true)
    (k12 : PySem.W.keepIn K (.ref f12) = true)
    (a13 : PySem.W.nsIn K mainGlobals "comes_free" = some (some (.ref f13)))
    (l13 : K.lookup f13 = some ⟨oc13, od13, .func (PySem.W.fnOf "comes_free" "comes_free" (defArgs s_comes_free) (defBody s_comes_free) (defScope s_comes_free) .none kV13 dc13 pm13 an13 cd13 ct13), sl13⟩)
    (c13 : PySem.W.codeIn K cd13 "comes_free" = true)
    (k13 : PySem.W.keepIn K (.ref f13) = true)
    (a14 : PySem.W.nsIn K mainGlobals "freed" = some (some (.ref f14)))
    (l14 : K.lookup f14 = some ⟨oc14, od14, .func (PySem.W.fnOf "freed" "freed" (defArgs s_freed) (defBody s_freed) (defScope s_freed) .none kV14 dc14 pm14 an14 cd14 ct14), sl14⟩)
    (c14 : PySem.W.codeIn K cd14 "freed" = true)
    (k14 : PySem.W.keepIn K (.ref f14) = true)
    (a15 : PySem.W.nsIn K mainGlobals "stuck" = some (some (.ref f15)))
    (l15 : K.lookup f15 = some ⟨oc15, od15, .func (PySem.W.fnOf "stuck" "stuck" (defArgs s_stuck) (defBody s_stuck) (defScope s_stuck) .none kV15 dc15 pm15 an15 cd15 ct15), sl15⟩)
    (c15 : PySem.W.codeIn K cd15 "stuck" = true)
    (k15 : PySem.W.keepIn K (.ref f15) = true)
    (a16 : PySem.W.nsIn K mainGlobals "shows" = some (some (.ref f16)))
    (l16 : K.lookup f16 = some ⟨oc16, od16, .func (PySem.W.fnOf "shows" "shows" (defArgs s_shows) (defBody s_shows) (defScope s_shows) .none kV16 dc16 pm16 an16 cd16 ct16), sl16⟩)
    (c16 : PySem.W.codeIn K cd16 "shows" = true)
    (k16 : PySem.W.keepIn K (.ref f16) = true)
    (a17 : PySem.W.findIn K (.ref cNet) "__init__" = some (some (.ref f17)))
    (i17 : PySem.W.isFn K (.ref f17) = true)
    (l17 : K.lookup f17 = some ⟨oc17, od17, .func (PySem.W.fnOf "__init__" "Net.__init__" (defArgs s_Net_init) (defBody s_Net_init) (defScope s_Net_init) .none kV17 dc17 pm17 an17 cd17 ct17), sl17⟩)
    (c17 : PySem.W.codeIn K cd17 "Net.__init__" = true)
    (k17 : PySem.W.keepIn K (.ref f17) = true)
    (mkNet : PySem.W.makesIn K cNet = true)
    (kcNet : PySem.W.keepIn K (.ref cNet) = true)
    (a18 : PySem.W.findIn K (.ref cNet) "letters" = some (some (.ref f18)))
    (i18 : PySem.W.isFn K (.ref f18) = true)
    (l18 : K.lookup f18 = some ⟨oc18, od18, .func (PySem.W.fnOf "letters" "Net.letters" (defArgs s_Net_letters) (defBody s_Net_letters) (defScope s_Net_letters) .none kV18 dc18 pm18 an18 cd18 ct18), sl18⟩)
    (c18 : PySem.W.codeIn K cd18 "Net.letters" = true)
    (k18 : PySem.W.keepIn K (.ref f18) = true)
    (a19 : PySem.W.findIn K (.ref cNet) "bring" = some (some (.ref f19)))
    (i19 : PySem.W.isFn K (.ref f19) = true)
    (l19 : K.lookup f19 = some ⟨oc19, od19, .func (PySem.W.fnOf "bring" "Net.bring" (defArgs s_Net_bring) (defBody s_Net_bring) (defScope s_Net_bring) .none kV19 dc19 pm19 an19 cd19 ct19), sl19⟩)
    (c19 : PySem.W.codeIn K cd19 "Net.bring" = true)
    (k19 : PySem.W.keepIn K (.ref f19) = true)
    (a20 : PySem.W.findIn K (.ref cNet) "sent" = some (some (.ref f20)))
    (i20 : PySem.W.isFn K (.ref f20) = true)
    (l20 : K.lookup f20 = some ⟨oc20, od20, .func (PySem.W.fnOf "sent" "Net.sent" (defArgs s_Net_sent) (defBody s_Net_sent) (defScope s_Net_sent) .none kV20 dc20 pm20 an20 cd20 ct20), sl20⟩)
    (c20 : PySem.W.codeIn K cd20 "Net.sent" = true)
    (k20 : PySem.W.keepIn K (.ref f20) = true)
    (a21 : PySem.W.findIn K (.ref cNet) "hand" = some (some (.ref f21)))
    (i21 : PySem.W.isFn K (.ref f21) = true)
    (l21 : K.lookup f21 = some ⟨oc21, od21, .func (PySem.W.fnOf "hand" "Net.hand" (defArgs s_Net_hand) (defBody s_Net_hand) (defScope s_Net_hand) .none kV21 dc21 pm21 an21 cd21 ct21), sl21⟩)
    (c21 : PySem.W.codeIn K cd21 "Net.hand" = true)
    (k21 : PySem.W.keepIn K (.ref f21) = true)
    (a22 : PySem.W.findIn K (.ref cNet) "rung" = some (some (.ref f22)))
    (i22 : PySem.W.isFn K (.ref f22) = true)
    (l22 : K.lookup f22 = some ⟨oc22, od22, .func (PySem.W.fnOf "rung" "Net.rung" (defArgs s_Net_rung) (defBody s_Net_rung) (defScope s_Net_rung) .none kV22 dc22 pm22 an22 cd22 ct22), sl22⟩)
    (c22 : PySem.W.codeIn K cd22 "Net.rung" = true)
    (k22 : PySem.W.keepIn K (.ref f22) = true)
    (a23 : PySem.W.findIn K (.ref cNet) "shown" = some (some (.ref f23)))
    (i23 : PySem.W.isFn K (.ref f23) = true)
    (l23 : K.lookup f23 = some ⟨oc23, od23, .func (PySem.W.fnOf "shown" "Net.shown" (defArgs s_Net_shown) (defBody s_Net_shown) (defScope s_Net_shown) .none kV23 dc23 pm23 an23 cd23 ct23), sl23⟩)
    (c23 : PySem.W.codeIn K cd23 "Net.shown" = true)
    (k23 : PySem.W.keepIn K (.ref f23) = true)
    (a24 : PySem.W.findIn K (.ref cNet) "owed_by" = some (some (.ref f24)))
    (i24 : PySem.W.isFn K (.ref f24) = true)
    (l24 : K.lookup f24 = some ⟨oc24, od24, .func (PySem.W.fnOf "owed_by" "Net.owed_by" (defArgs s_Net_owed_by) (defBody s_Net_owed_by) (defScope s_Net_owed_by) .none kV24 dc24 pm24 an24 cd24 ct24), sl24⟩)
    (c24 : PySem.W.codeIn K cd24 "Net.owed_by" = true)
    (k24 : PySem.W.keepIn K (.ref f24) = true)
    (a25 : PySem.W.findIn K (.ref cNet) "waker_of" = some (some (.ref f25)))
    (i25 : PySem.W.isFn K (.ref f25) = true)
    (l25 : K.lookup f25 = some ⟨oc25, od25, .func (PySem.W.fnOf "waker_of" "Net.waker_of" (defArgs s_Net_waker_of) (defBody s_Net_waker_of) (defScope s_Net_waker_of) .none kV25 dc25 pm25 an25 cd25 ct25), sl25⟩)
    (c25 : PySem.W.codeIn K cd25 "Net.waker_of" = true)
    (k25 : PySem.W.keepIn K (.ref f25) = true)
    (a26 : PySem.W.findIn K (.ref cNet) "freed_yet" = some (some (.ref f26)))
    (i26 : PySem.W.isFn K (.ref f26) = true)
    (l26 : K.lookup f26 = some ⟨oc26, od26, .func (PySem.W.fnOf "freed_yet" "Net.freed_yet" (defArgs s_Net_freed_yet) (defBody s_Net_freed_yet) (defScope s_Net_freed_yet) .none kV26 dc26 pm26 an26 cd26 ct26), sl26⟩)
    (c26 : PySem.W.codeIn K cd26 "Net.freed_yet" = true)
    (k26 : PySem.W.keepIn K (.ref f26) = true)
    (a27 : PySem.W.nsIn K mainGlobals "_law_cell_at" = some (some (.ref f27)))
    (l27 : K.lookup f27 = some ⟨oc27, od27, .func (PySem.W.fnOf "_law_cell_at" "_law_cell_at" (defArgs s_cell_at) (defBody s_cell_at) (defScope s_cell_at) .none kV27 dc27 pm27 an27 cd27 ct27), sl27⟩)
    (c27 : PySem.W.codeIn K cd27 "_law_cell_at" = true)
    (k27 : PySem.W.keepIn K (.ref f27) = true)
    (a28 : PySem.W.nsIn K mainGlobals "_law_deed" = some (some (.ref f28)))
    (l28 : K.lookup f28 = some ⟨oc28, od28, .func (PySem.W.fnOf "_law_deed" "_law_deed" (defArgs s_deed) (defBody s_deed) (defScope s_deed) .none kV28 dc28 pm28 an28 cd28 ct28), sl28⟩)
    (c28 : PySem.W.codeIn K cd28 "_law_deed" = true)
    (k28 : PySem.W.keepIn K (.ref f28) = true)
    (a29 : PySem.W.nsIn K mainGlobals "_law_by_name" = some (some (.ref f29)))
    (l29 : K.lookup f29 = some ⟨oc29, od29, .func (PySem.W.fnOf "_law_by_name" "_law_by_name" (defArgs s_by_name) (defBody s_by_name) (defScope s_by_name) .none kV29 dc29 pm29 an29 cd29 ct29), sl29⟩)
    (c29 : PySem.W.codeIn K cd29 "_law_by_name" = true)
    (k29 : PySem.W.keepIn K (.ref f29) = true)
    (a30 : PySem.W.nsIn K mainGlobals "_law_by_base" = some (some (.ref f30)))
    (l30 : K.lookup f30 = some ⟨oc30, od30, .func (PySem.W.fnOf "_law_by_base" "_law_by_base" (defArgs s_by_base) (defBody s_by_base) (defScope s_by_base) .none kV30 dc30 pm30 an30 cd30 ct30), sl30⟩)
    (c30 : PySem.W.codeIn K cd30 "_law_by_base" = true)
    (k30 : PySem.W.keepIn K (.ref f30) = true)
    (a31 : PySem.W.nsIn K mainGlobals "_law_said" = some (some (.ref f31)))
    (l31 : K.lookup f31 = some ⟨oc31, od31, .func (PySem.W.fnOf "_law_said" "_law_said" (defArgs s_said) (defBody s_said) (defScope s_said) .none kV31 dc31 pm31 an31 cd31 ct31), sl31⟩)
    (c31 : PySem.W.codeIn K cd31 "_law_said" = true)
    (k31 : PySem.W.keepIn K (.ref f31) = true)
    (a32 : PySem.W.nsIn K mainGlobals "_law_seen" = some (some (.ref f32)))
    (l32 : K.lookup f32 = some ⟨oc32, od32, .func (PySem.W.fnOf "_law_seen" "_law_seen" (defArgs s_seen) (defBody s_seen) (defScope s_seen) .none kV32 dc32 pm32 an32 cd32 ct32), sl32⟩)
    (c32 : PySem.W.codeIn K cd32 "_law_seen" = true)
    (k32 : PySem.W.keepIn K (.ref f32) = true)
    (a33 : PySem.W.nsIn K mainGlobals "_law_wrong" = some (some (.ref f33)))
    (l33 : K.lookup f33 = some ⟨oc33, od33, .func (PySem.W.fnOf "_law_wrong" "_law_wrong" (defArgs s_wrong) (defBody s_wrong) (defScope s_wrong) .none kV33 dc33 pm33 an33 cd33 ct33), sl33⟩)
    (c33 : PySem.W.codeIn K cd33 "_law_wrong" = true)
    (k33 : PySem.W.keepIn K (.ref f33) = true)
    (a34 : PySem.W.nsIn K mainGlobals "law" = some (some (.ref f34)))
    (l34 : K.lookup f34 = some ⟨oc34, od34, .func (PySem.W.fnOf "law" "law" (defArgs s_law) (defBody s_law) (defScope s_law) .none kV34 dc34 pm34 an34 cd34 ct34), sl34⟩)
    (c34 : PySem.W.codeIn K cd34 "law" = true)
    (k34 : PySem.W.keepIn K (.ref f34) = true)
    (xlB : K.lookup cBadWaits = some (excClassObj nmB qB cBadWaits NB bsB [.ref cBellError, .type "ValueError", .type "Exception", .type "BaseException", .type "object"] true snB suB abB coB ddB m0B m1B m2B m3B m5B "ValueError.__new__"))
    (saB : PySem.W.findIn K (.ref cBadWaits) "__setattr__" = some (some (.builtin "object.__setattr__")))
    (kpB : PySem.W.keepIn K (.ref cBadWaits) = true)
    (naB : PySem.W.findIn K (.ref cBadWaits) "at" = some none)
    (exBadWaits : PySem.W.subIn K (.ref cBadWaits) (.type "BaseException") = some true)
    (tyBadWaits : PySem.W.typeIn K (.ref cBadWaits) = some (.type "type"))
    (hdBadWaits : PySem.W.hasDictIn K cBadWaits = true)
    (exBellError : PySem.W.subIn K (.ref cBellError) (.type "BaseException") = some true)
    (tyBellError : PySem.W.typeIn K (.ref cBellError) = some (.type "type"))
    (hdBellError : PySem.W.hasDictIn K cBellError = true)
    (exNoHand : PySem.W.subIn K (.ref cNoHand) (.type "BaseException") = some true)
    (tyNoHand : PySem.W.typeIn K (.ref cNoHand) = some (.type "type"))
    (hdNoHand : PySem.W.hasDictIn K cNoHand = true)
    (exNoLetter : PySem.W.subIn K (.ref cNoLetter) (.type "BaseException") = some true)
    (tyNoLetter : PySem.W.typeIn K (.ref cNoLetter) = some (.type "type"))
    (hdNoLetter : PySem.W.hasDictIn K cNoLetter = true)
    (icBadWaits : PySem.W.isClsIn K cBadWaits = true)
    (gaBadWaits : PySem.W.findIn K (.ref cBadWaits) "__getattribute__" = some (some (.builtin "BaseException.__getattribute__")))
    (ggBadWaits : PySem.W.findIn K (.ref cBadWaits) "__getattr__" = some none)
    (clBadWaits : PySem.W.findIn K (.ref cBadWaits) "__class__" = some (some (.builtin "object.__class__")))
    (mrBadWaits : PySem.W.mroIn K cBadWaits (.type "object") = some true)
    (icNoHand : PySem.W.isClsIn K cNoHand = true)
    (gaNoHand : PySem.W.findIn K (.ref cNoHand) "__getattribute__" = some (some (.builtin "BaseException.__getattribute__")))
    (ggNoHand : PySem.W.findIn K (.ref cNoHand) "__getattr__" = some none)
    (clNoHand : PySem.W.findIn K (.ref cNoHand) "__class__" = some (some (.builtin "object.__class__")))
    (mrNoHand : PySem.W.mroIn K cNoHand (.type "object") = some true)
    (icNoLetter : PySem.W.isClsIn K cNoLetter = true)
    (gaNoLetter : PySem.W.findIn K (.ref cNoLetter) "__getattribute__" = some (some (.builtin "BaseException.__getattribute__")))
    (ggNoLetter : PySem.W.findIn K (.ref cNoLetter) "__getattr__" = some none)
    (clNoLetter : PySem.W.findIn K (.ref cNoLetter) "__class__" = some (some (.builtin "object.__class__")))
    (mrNoLetter : PySem.W.mroIn K cNoLetter (.type "object") = some true)
    (hnG : PySem.W.specialIn K (.builtin "object.__class__") "__get__" = some (some (.builtin "getset_descriptor.__get__")))
    (htG : PySem.W.takesIn K (.builtin "object.__class__") = some true)
    (rdL : PySem.W.readsIn K cBellError (.type "type") = true)
    (gaL : PySem.W.specialIn K (.ref cBellError) "__getattribute__" = some (some (.builtin "type.__getattribute__")))
    (viL : PySem.W.findCls K (.ref cBellError) (.type "type") "__init__" = some (.val (.builtin "ValueError.__init__")))
    (sBadWaitsBadWaits : PySem.W.subIn K (.ref cBadWaits) (.ref cBadWaits) = some true)
    (sBadWaitsBellError : PySem.W.subIn K (.ref cBadWaits) (.ref cBellError) = some true)
    (kitBadWaitsNoHand : PySem.W.kitOne K (.ref cBadWaits) (.ref cNoHand) = some false)
    (kitBadWaitsNoLetter : PySem.W.kitOne K (.ref cBadWaits) (.ref cNoLetter) = some false)
    (kitBadWaitsValueError : PySem.W.kitOne K (.ref cBadWaits) (.type "ValueError") = some true)
    (kitBadWaitsBadWaits : PySem.W.kitOne K (.ref cBadWaits) (.ref cBadWaits) = some true)
    (kitNoHandNoHand : PySem.W.kitOne K (.ref cNoHand) (.ref cNoHand) = some true)
    (kitNoHandNoLetter : PySem.W.kitOne K (.ref cNoHand) (.ref cNoLetter) = some false)
    (kitNoHandBadWaits : PySem.W.kitOne K (.ref cNoHand) (.ref cBadWaits) = some false)
    (kitNoHandValueError : PySem.W.kitOne K (.ref cNoHand) (.type "ValueError") = some true)
    (sNoHandNoHand : PySem.W.subIn K (.ref cNoHand) (.ref cNoHand) = some true)
    (sNoHandNoLetter : PySem.W.subIn K (.ref cNoHand) (.ref cNoLetter) = some false)
    (sNoHandBadWaits : PySem.W.subIn K (.ref cNoHand) (.ref cBadWaits) = some false)
    (sNoHandBellError : PySem.W.subIn K (.ref cNoHand) (.ref cBellError) = some true)
    (kitNoLetterNoHand : PySem.W.kitOne K (.ref cNoLetter) (.ref cNoHand) = some false)
    (kitNoLetterNoLetter : PySem.W.kitOne K (.ref cNoLetter) (.ref cNoLetter) = some true)
    (kitNoLetterBadWaits : PySem.W.kitOne K (.ref cNoLetter) (.ref cBadWaits) = some false)
    (kitNoLetterValueError : PySem.W.kitOne K (.ref cNoLetter) (.type "ValueError") = some true)
    (sNoLetterNoHand : PySem.W.subIn K (.ref cNoLetter) (.ref cNoHand) = some false)
    (sNoLetterNoLetter : PySem.W.subIn K (.ref cNoLetter) (.ref cNoLetter) = some true)
    (sNoLetterBadWaits : PySem.W.subIn K (.ref cNoLetter) (.ref cBadWaits) = some false)
    (sNoLetterBellError : PySem.W.subIn K (.ref cNoLetter) (.ref cBellError) = some true)
    (sBadWaitsNoHand : PySem.W.subIn K (.ref cBadWaits) (.ref cNoHand) = some false)
    (sBadWaitsNoLetter : PySem.W.subIn K (.ref cBadWaits) (.ref cNoLetter) = some false)
    (xcNoHand : PySem.W.excIn K cNoHand [.type "ValueError", .type "Exception", .type "BaseException", .type "object"] "ValueError.__new__" = true)
    (kxNoHand : PySem.W.keepIn K (.ref cNoHand) = true)
    (xcNoLetter : PySem.W.excIn K cNoLetter [.type "ValueError", .type "Exception", .type "BaseException", .type "object"] "ValueError.__new__" = true)
    (kxNoLetter : PySem.W.keepIn K (.ref cNoLetter) = true)
    (pgHand : PySem.W.plainGet K cHand Str.empty = true)
    (hdHand : PySem.W.hasDictIn K cHand = true)
    (poHand : PySem.W.plainOver K cHand = true)
    (saHand : PySem.W.findIn K (.ref cHand) "__setattr__" = some (some (.builtin "object.__setattr__")))
    (nHand_number : PySem.W.findIn K (.ref cHand) "number" = some none)
    (nHand_word : PySem.W.findIn K (.ref cHand) "word" = some none)
    (nHand_others : PySem.W.findIn K (.ref cHand) "others" = some none)
    (nHand_is_asker : PySem.W.findIn K (.ref cHand) "is_asker" = some none)
    (nHand_is_freed : PySem.W.findIn K (.ref cHand) "is_freed" = some none)
    (nHand_has_asked : PySem.W.findIn K (.ref cHand) "has_asked" = some none)
    (nHand_askers : PySem.W.findIn K (.ref cHand) "askers" = some none)
    (nHand_told_so : PySem.W.findIn K (.ref cHand) "told_so" = some none)
    (nHand_owed : PySem.W.findIn K (.ref cHand) "owed" = some none)
    (nHand_waker : PySem.W.findIn K (.ref cHand) "waker" = some none)
    (pgNet : PySem.W.plainGet K cNet Str.empty = true)
    (hdNet : PySem.W.hasDictIn K cNet = true)
    (poNet : PySem.W.plainOver K cNet = true)
    (saNet : PySem.W.findIn K (.ref cNet) "__setattr__" = some (some (.builtin "object.__setattr__")))
    (nNet_asker : PySem.W.findIn K (.ref cNet) "asker" = some none)
    (nNet_hands : PySem.W.findIn K (.ref cNet) "hands" = some none)
    (nNet_row : PySem.W.findIn K (.ref cNet) "row" = some none)
    (nNet_posted_so_far : PySem.W.findIn K (.ref cNet) "posted_so_far" = some none)
    (vMOST_HANDS : PySem.W.nsIn K mainGlobals "MOST_HANDS" = some (some (.int 40 tMOST_HANDS)))
    (vWORDS : PySem.W.nsIn K mainGlobals "WORDS" = some (some (.ref aW)))
    (xW : K.lookup aW = some ⟨.type "tuple", dW0, .seq #[.str "all" t1W, .str "any" t2W] nW, slW⟩)
    (z_ValueError : PySem.W.nsIn K mainGlobals "ValueError" = some none)
    (z_bool : PySem.W.nsIn K mainGlobals "bool" = some none)
    (z_enumerate : PySem.W.nsIn K mainGlobals "enumerate" = some none)
    (z_int : PySem.W.nsIn K mainGlobals "int" = some none)
    (z_isinstance : PySem.W.nsIn K mainGlobals "isinstance" = some none)
    (z_len : PySem.W.nsIn K mainGlobals "len" = some none)
    (z_list : PySem.W.nsIn K mainGlobals "list" = some none)
    (z_range : PySem.W.nsIn K mainGlobals "range" = some none)
    (z_str : PySem.W.nsIn K mainGlobals "str" = some none)
    (z_tuple : PySem.W.nsIn K mainGlobals "tuple" = some none) :
    ∃ fd : FuncData, (∀ (s : Shared) (v : Value), BindsTo s fd ⟨[v], []⟩ [("_law_script", v)]) ∧ ∀ base : Heap, K.In base → base.Ns mainGlobals mg → FnOk l.prog w K mg base CX0 9 fa fd ["_law_script"] (sp_law K ⟨aW, cHand, cNet, cBellError, cBadWaits, cNoHand, cNoLetter⟩) := by
  have e := hfa.symm.trans (PySem.W.mg_of X G a34)
  cases e
  have F1 := fun_mk (st := s_BadWaits_init) l1 c1 k1
  have b1 := F1.binds (ps := ["self", "at"]) fun _ _ _ _ _ _ us hl => match us, hl with | [_, _], _ => rfl
  have F2 := fun_mk (st := s_Hand_init) l2 c2 k2
  have b2 := F2.binds (ps := ["self", "number", "wait", "is_asker"]) fun _ _ _ _ _ _ us hl => match us, hl with | [_, _, _, _], _ => rfl
  have F3 := fun_mk (st := s_Hand_posted) l3 c3 k3
  have b3 := F3.binds (ps := ["self", "word", "receivers"]) fun _ _ _ _ _ _ us hl => match us, hl with | [_, _, _], _ => rfl
  have F4 := fun_mk (st := s_Hand_asking) l4 c4 k4
  have b4 := F4.binds (ps := ["self"]) fun _ _ _ _ _ _ us hl => match us, hl with | [_], _ => rfl
  have F5 := fun_mk (st := s_Hand_begin) l5 c5 k5
  have b5 := F5.binds (ps := ["self"]) fun _ _ _ _ _ _ us hl => match us, hl with | [_], _ => rfl
  have F6 := fun_mk (st := s_Hand_asked_by) l6 c6 k6
  have b6 := F6.binds (ps := ["self", "sender"]) fun _ _ _ _ _ _ us hl => match us, hl with | [_, _], _ => rfl
  have F7 := fun_mk (st := s_Hand_told_by) l7 c7 k7
  have b7 := F7.binds (ps := ["self", "sender"]) fun _ _ _ _ _ _ us hl => match us, hl with | [_, _], _ => rfl
  have F8 := fun_mk (st := s_Hand_come) l8 c8 k8
  have b8 := F8.binds (ps := ["self", "letter"]) fun _ _ _ _ _ _ us hl => match us, hl with | [_, _], _ => rfl
  have F9 := fun_mk (st := s_is_hand) l9 c9 k9
  have b9 := F9.binds (ps := ["thing", "many"]) fun _ _ _ _ _ _ us hl => match us, hl with | [_, _], _ => rfl
  have F10 := fun_mk (st := s_is_wait) l10 c10 k10
  have b10 := F10.binds (ps := ["wait", "many"]) fun _ _ _ _ _ _ us hl => match us, hl with | [_, _], _ => rfl
  have F11 := fun_mk (st := s_need) l11 c11 k11
  have b11 := F11.binds (ps := ["waits"]) fun _ _ _ _ _ _ us hl => match us, hl with | [_], _ => rfl
  have F12 := fun_mk (st := s_need_hand) l12 c12 k12
  have b12 := F12.binds (ps := ["many", "hand"]) fun _ _ _ _ _ _ us hl => match us, hl with | [_, _], _ => rfl
  have F13 := fun_mk (st := s_comes_free) l13 c13 k13
  have b13 := F13.binds (ps := ["wait", "rounds"]) fun _ _ _ _ _ _ us hl => match us, hl with | [_, _], _ => rfl
  have F14 := fun_mk (st := s_freed) l14 c14 k14
  have b14 := F14.binds (ps := ["waits"]) fun _ _ _ _ _ _ us hl => match us, hl with | [_], _ => rfl
  have F15 := fun_mk (st := s_stuck) l15 c15 k15
  have b15 := F15.binds (ps := ["waits"]) fun _ _ _ _ _ _ us hl => match us, hl with | [_], _ => rfl
  have F16 := fun_mk (st := s_shows) l16 c16 k16
  have b16 := F16.binds (ps := ["waits", "hands"]) fun _ _ _ _ _ _ us hl => match us, hl with | [_, _], _ => rfl
  have F17 := fun_mk (st := s_Net_init) l17 c17 k17
  have b17 := F17.binds (ps := ["self", "waits", "asker"]) fun _ _ _ _ _ _ us hl => match us, hl with | [_, _, _], _ => rfl
  have F18 := fun_mk (st := s_Net_letters) l18 c18 k18
  have b18 := F18.binds (ps := ["self"]) fun _ _ _ _ _ _ us hl => match us, hl with | [_], _ => rfl
  have F19 := fun_mk (st := s_Net_bring) l19 c19 k19
  have b19 := F19.binds (ps := ["self", "place"]) fun _ _ _ _ _ _ us hl => match us, hl with | [_, _], _ => rfl
  have F20 := fun_mk (st := s_Net_sent) l20 c20 k20
  have b20 := F20.binds (ps := ["self"]) fun _ _ _ _ _ _ us hl => match us, hl with | [_], _ => rfl
  have F21 := fun_mk (st := s_Net_hand) l21 c21 k21
  have b21 := F21.binds (ps := ["self", "number"]) fun _ _ _ _ _ _ us hl => match us, hl with | [_, _], _ => rfl
  have F22 := fun_mk (st := s_Net_rung) l22 c22 k22
  have b22 := F22.binds (ps := ["self"]) fun _ _ _ _ _ _ us hl => match us, hl with | [_], _ => rfl
  have F23 := fun_mk (st := s_Net_shown) l23 c23 k23
  have b23 := F23.binds (ps := ["self"]) fun _ _ _ _ _ _ us hl => match us, hl with | [_], _ => rfl
  have F24 := fun_mk (st := s_Net_owed_by) l24 c24 k24
  have b24 := F24.binds (ps := ["self", "hand"]) fun _ _ _ _ _ _ us hl => match us, hl with | [_, _], _ => rfl
  have F25 := fun_mk (st := s_Net_waker_of) l25 c25 k25
  have b25 := F25.binds (ps := ["self", "hand"]) fun _ _ _ _ _ _ us hl => match us, hl with | [_, _], _ => rfl
  have F26 := fun_mk (st := s_Net_freed_yet) l26 c26 k26
  have b26 := F26.binds (ps := ["self", "hand"]) fun _ _ _ _ _ _ us hl => match us, hl with | [_, _], _ => rfl
  have F27 := fun_mk (st := s_cell_at) l27 c27 k27
  have b27 := F27.binds (ps := ["_law_script", "_law_k"]) fun _ _ _ _ _ _ us hl => match us, hl with | [_, _], _ => rfl
  have F28 := fun_mk (st := s_deed) l28 c28 k28
  have b28 := F28.binds (ps := ["_law_kind", "_law_waits", "_law_net", "_law_wrong_here", "_law_hands"]) fun _ _ _ _ _ _ us hl => match us, hl with | [_, _, _, _, _], _ => rfl
  have F29 := fun_mk (st := s_by_name) l29 c29 k29
  have b29 := F29.binds (ps := ["_law_kind", "_law_waits", "_law_net", "_law_wrong_here", "_law_hands"]) fun _ _ _ _ _ _ us hl => match us, hl with | [_, _, _, _, _], _ => rfl
  have F30 := fun_mk (st := s_by_base) l30 c30 k30
  have b30 := F30.binds (ps := ["_law_kind", "_law_waits", "_law_net", "_law_wrong_here", "_law_hands"]) fun _ _ _ _ _ _ us hl => match us, hl with | [_, _, _, _, _], _ => rfl
  have F31 := fun_mk (st := s_said) l31 c31 k31
  have b31 := F31.binds (ps := ["_law_way", "_law_kind", "_law_waits", "_law_net", "_law_wrong_here", "_law_hands"]) fun _ _ _ _ _ _ us hl => match us, hl with | [_, _, _, _, _, _], _ => rfl
  have F32 := fun_mk (st := s_seen) l32 c32 k32
  have b32 := F32.binds (ps := ["_law_net", "_law_size"]) fun _ _ _ _ _ _ us hl => match us, hl with | [_, _], _ => rfl
  have F33 := fun_mk (st := s_wrong) l33 c33 k33
  have b33 := F33.binds (ps := ["_law_pick", "_law_size", "_law_many"]) fun _ _ _ _ _ _ us hl => match us, hl with | [_, _, _], _ => rfl
  have F34 := fun_mk (st := s_law) l34 c34 k34
  have b34 := F34.binds (ps := ["_law_script"]) fun _ _ _ _ _ _ us hl => match us, hl with | [_], _ => rfl
  let T : Tx K mg ⟨aW, cHand, cNet, cBellError, cBadWaits, cNoHand, cNoLetter⟩ := {
    f_BadWaits_init := f1,
    fd_BadWaits_init := PySem.W.fnOf "__init__" "BadWaits.__init__" (defArgs s_BadWaits_init) (defBody s_BadWaits_init) (defScope s_BadWaits_init) .none kV1 dc1 pm1 an1 cd1 ct1,
    F_BadWaits_init := F1,
    b_BadWaits_init := b1,
    i_BadWaits := a1,
    ti_BadWaits := beq_iff_eq.mp i1,
    f_Hand_init := f2,
    fd_Hand_init := PySem.W.fnOf "__init__" "Hand.__init__" (defArgs s_Hand_init) (defBody s_Hand_init) (defScope s_Hand_init) .none kV2 dc2 pm2 an2 cd2 ct2,
    F_Hand_init := F2,
    b_Hand_init := b2,
    mk_Hand := ⟨mkHand, a2, i2, kcHand⟩,
    gc_Hand := PySem.W.mg_of X G gHand,
    f_Hand_posted := f3,
    fd_Hand_posted := PySem.W.fnOf "posted" "Hand.posted" (defArgs s_Hand_posted) (defBody s_Hand_posted) (defScope s_Hand_posted) .none kV3 dc3 pm3 an3 cd3 ct3,
    F_Hand_posted := F3,
    b_Hand_posted := b3,
    me_Hand_posted := ⟨a3, i3, k3⟩,
    f_Hand_asking := f4,
    fd_Hand_asking := PySem.W.fnOf "asking" "Hand.asking" (defArgs s_Hand_asking) (defBody s_Hand_asking) (defScope s_Hand_asking) .none kV4 dc4 pm4 an4 cd4 ct4,
    F_Hand_asking := F4,
    b_Hand_asking := b4,
    me_Hand_asking := ⟨a4, i4, k4⟩,
    f_Hand_begin := f5,
    fd_Hand_begin := PySem.W.fnOf "begin" "Hand.begin" (defArgs s_Hand_begin) (defBody s_Hand_begin) (defScope s_Hand_begin) .none kV5 dc5 pm5 an5 cd5 ct5,
    F_Hand_begin := F5,
    b_Hand_begin := b5,
    me_Hand_begin := ⟨a5, i5, k5⟩,
    f_Hand_asked_by := f6,
    fd_Hand_asked_by := PySem.W.fnOf "asked_by" "Hand.asked_by" (defArgs s_Hand_asked_by) (defBody s_Hand_asked_by) (defScope s_Hand_asked_by) .none kV6 dc6 pm6 an6 cd6 ct6,
    F_Hand_asked_by := F6,
    b_Hand_asked_by := b6,
    me_Hand_asked_by := ⟨a6, i6, k6⟩,
    f_Hand_told_by := f7,
    fd_Hand_told_by := PySem.W.fnOf "told_by" "Hand.told_by" (defArgs s_Hand_told_by) (defBody s_Hand_told_by) (defScope s_Hand_told_by) .none kV7 dc7 pm7 an7 cd7 ct7,
    F_Hand_told_by := F7,
    b_Hand_told_by := b7,
    me_Hand_told_by := ⟨a7, i7, k7⟩,
    f_Hand_come := f8,
    fd_Hand_come := PySem.W.fnOf "come" "Hand.come" (defArgs s_Hand_come) (defBody s_Hand_come) (defScope s_Hand_come) .none kV8 dc8 pm8 an8 cd8 ct8,
    F_Hand_come := F8,
    b_Hand_come := b8,
    me_Hand_come := ⟨a8, i8, k8⟩,
    f_is_hand := f9,
    fd_is_hand := PySem.W.fnOf "is_hand" "is_hand" (defArgs s_is_hand) (defBody s_is_hand) (defScope s_is_hand) .none kV9 dc9 pm9 an9 cd9 ct9,
    F_is_hand := F9,
    b_is_hand := b9,
    m_is_hand := PySem.W.mg_of X G a9,
    f_is_wait := f10,
    fd_is_wait := PySem.W.fnOf "is_wait" "is_wait" (defArgs s_is_wait) (defBody s_is_wait) (defScope s_is_wait) .none kV10 dc10 pm10 an10 cd10 ct10,
    F_is_wait := F10,
    b_is_wait := b10,
    m_is_wait := PySem.W.mg_of X G a10,
    f_need := f11,
    fd_need := PySem.W.fnOf "need" "need" (defArgs s_need) (defBody s_need) (defScope s_need) .none kV11 dc11 pm11 an11 cd11 ct11,
    F_need := F11,
    b_need := b11,
    m_need := PySem.W.mg_of X G a11,
    f_need_hand := f12,
    fd_need_hand := PySem.W.fnOf "need_hand" "need_hand" (defArgs s_need_hand) (defBody s_need_hand) (defScope s_need_hand) .none kV12 dc12 pm12 an12 cd12 ct12,
    F_need_hand := F12,
    b_need_hand := b12,
    m_need_hand := PySem.W.mg_of X G a12,
    f_comes_free := f13,
    fd_comes_free := PySem.W.fnOf "comes_free" "comes_free" (defArgs s_comes_free) (defBody s_comes_free) (defScope s_comes_free) .none kV13 dc13 pm13 an13 cd13 ct13,
    F_comes_free := F13,
    b_comes_free := b13,
    m_comes_free := PySem.W.mg_of X G a13,
    f_freed := f14,
    fd_freed := PySem.W.fnOf "freed" "freed" (defArgs s_freed) (defBody s_freed) (defScope s_freed) .none kV14 dc14 pm14 an14 cd14 ct14,
    F_freed := F14,
    b_freed := b14,
    m_freed := PySem.W.mg_of X G a14,
    f_stuck := f15,
    fd_stuck := PySem.W.fnOf "stuck" "stuck" (defArgs s_stuck) (defBody s_stuck) (defScope s_stuck) .none kV15 dc15 pm15 an15 cd15 ct15,
    F_stuck := F15,
    b_stuck := b15,
    m_stuck := PySem.W.mg_of X G a15,
    f_shows := f16,
    fd_shows := PySem.W.fnOf "shows" "shows" (defArgs s_shows) (defBody s_shows) (defScope s_shows) .none kV16 dc16 pm16 an16 cd16 ct16,
    F_shows := F16,
    b_shows := b16,
    m_shows := PySem.W.mg_of X G a16,
    f_Net_init := f17,
    fd_Net_init := PySem.W.fnOf "__init__" "Net.__init__" (defArgs s_Net_init) (defBody s_Net_init) (defScope s_Net_init) .none kV17 dc17 pm17 an17 cd17 ct17,
    F_Net_init := F17,
    b_Net_init := b17,
    mk_Net := ⟨mkNet, a17, i17, kcNet⟩,
    gc_Net := PySem.W.mg_of X G gNet,
    f_Net_letters := f18,
    fd_Net_letters := PySem.W.fnOf "letters" "Net.letters" (defArgs s_Net_letters) (defBody s_Net_letters) (defScope s_Net_letters) .none kV18 dc18 pm18 an18 cd18 ct18,
    F_Net_letters := F18,
    b_Net_letters := b18,
    me_Net_letters := ⟨a18, i18, k18⟩,
    f_Net_bring := f19,
    fd_Net_bring := PySem.W.fnOf "bring" "Net.bring" (defArgs s_Net_bring) (defBody s_Net_bring) (defScope s_Net_bring) .none kV19 dc19 pm19 an19 cd19 ct19,
    F_Net_bring := F19,
    b_Net_bring := b19,
    me_Net_bring := ⟨a19, i19, k19⟩,
    f_Net_sent := f20,
    fd_Net_sent := PySem.W.fnOf "sent" "Net.sent" (defArgs s_Net_sent) (defBody s_Net_sent) (defScope s_Net_sent) .none kV20 dc20 pm20 an20 cd20 ct20,
    F_Net_sent := F20,
    b_Net_sent := b20,
    me_Net_sent := ⟨a20, i20, k20⟩,
    f_Net_hand := f21,
    fd_Net_hand := PySem.W.fnOf "hand" "Net.hand" (defArgs s_Net_hand) (defBody s_Net_hand) (defScope s_Net_hand) .none kV21 dc21 pm21 an21 cd21 ct21,
    F_Net_hand := F21,
    b_Net_hand := b21,
    me_Net_hand := ⟨a21, i21, k21⟩,
    f_Net_rung := f22,
    fd_Net_rung := PySem.W.fnOf "rung" "Net.rung" (defArgs s_Net_rung) (defBody s_Net_rung) (defScope s_Net_rung) .none kV22 dc22 pm22 an22 cd22 ct22,
    F_Net_rung := F22,
    b_Net_rung := b22,
    me_Net_rung := ⟨a22, i22, k22⟩,
    f_Net_shown := f23,
    fd_Net_shown := PySem.W.fnOf "shown" "Net.shown" (defArgs s_Net_shown) (defBody s_Net_shown) (defScope s_Net_shown) .none kV23 dc23 pm23 an23 cd23 ct23,
    F_Net_shown := F23,
    b_Net_shown := b23,
    me_Net_shown := ⟨a23, i23, k23⟩,
    f_Net_owed_by := f24,
    fd_Net_owed_by := PySem.W.fnOf "owed_by" "Net.owed_by" (defArgs s_Net_owed_by) (defBody s_Net_owed_by) (defScope s_Net_owed_by) .none kV24 dc24 pm24 an24 cd24 ct24,
    F_Net_owed_by := F24,
    b_Net_owed_by := b24,
    me_Net_owed_by := ⟨a24, i24, k24⟩,
    f_Net_waker_of := f25,
    fd_Net_waker_of := PySem.W.fnOf "waker_of" "Net.waker_of" (defArgs s_Net_waker_of) (defBody s_Net_waker_of) (defScope s_Net_waker_of) .none kV25 dc25 pm25 an25 cd25 ct25,
    F_Net_waker_of := F25,
    b_Net_waker_of := b25,
    me_Net_waker_of := ⟨a25, i25, k25⟩,
    f_Net_freed_yet := f26,
    fd_Net_freed_yet := PySem.W.fnOf "freed_yet" "Net.freed_yet" (defArgs s_Net_freed_yet) (defBody s_Net_freed_yet) (defScope s_Net_freed_yet) .none kV26 dc26 pm26 an26 cd26 ct26,
    F_Net_freed_yet := F26,
    b_Net_freed_yet := b26,
    me_Net_freed_yet := ⟨a26, i26, k26⟩,
    f_cell_at := f27,
    fd_cell_at := PySem.W.fnOf "_law_cell_at" "_law_cell_at" (defArgs s_cell_at) (defBody s_cell_at) (defScope s_cell_at) .none kV27 dc27 pm27 an27 cd27 ct27,
    F_cell_at := F27,
    b_cell_at := b27,
    m_cell_at := PySem.W.mg_of X G a27,
    f_deed := f28,
    fd_deed := PySem.W.fnOf "_law_deed" "_law_deed" (defArgs s_deed) (defBody s_deed) (defScope s_deed) .none kV28 dc28 pm28 an28 cd28 ct28,
    F_deed := F28,
    b_deed := b28,
    m_deed := PySem.W.mg_of X G a28,
    f_by_name := f29,
    fd_by_name := PySem.W.fnOf "_law_by_name" "_law_by_name" (defArgs s_by_name) (defBody s_by_name) (defScope s_by_name) .none kV29 dc29 pm29 an29 cd29 ct29,
    F_by_name := F29,
    b_by_name := b29,
    m_by_name := PySem.W.mg_of X G a29,
    f_by_base := f30,
    fd_by_base := PySem.W.fnOf "_law_by_base" "_law_by_base" (defArgs s_by_base) (defBody s_by_base) (defScope s_by_base) .none kV30 dc30 pm30 an30 cd30 ct30,
    F_by_base := F30,
    b_by_base := b30,
    m_by_base := PySem.W.mg_of X G a30,
    f_said := f31,
    fd_said := PySem.W.fnOf "_law_said" "_law_said" (defArgs s_said) (defBody s_said) (defScope s_said) .none kV31 dc31 pm31 an31 cd31 ct31,
    F_said := F31,
    b_said := b31,
    m_said := PySem.W.mg_of X G a31,
    f_seen := f32,
    fd_seen := PySem.W.fnOf "_law_seen" "_law_seen" (defArgs s_seen) (defBody s_seen) (defScope s_seen) .none kV32 dc32 pm32 an32 cd32 ct32,
    F_seen := F32,
    b_seen := b32,
    m_seen := PySem.W.mg_of X G a32,
    f_wrong := f33,
    fd_wrong := PySem.W.fnOf "_law_wrong" "_law_wrong" (defArgs s_wrong) (defBody s_wrong) (defScope s_wrong) .none kV33 dc33 pm33 an33 cd33 ct33,
    F_wrong := F33,
    b_wrong := b33,
    m_wrong := PySem.W.mg_of X G a33,
    f_law := fa,
    fd_law := PySem.W.fnOf "law" "law" (defArgs s_law) (defBody s_law) (defScope s_law) .none kV34 dc34 pm34 an34 cd34 ct34,
    F_law := F34,
    b_law := b34,
    m_law := PySem.W.mg_of X G a34,
    x_NoHand := xcNoHand,
    k_NoHand := kxNoHand,
    s_NoHand := exNoHand,
    y_NoHand := tyNoHand,
    x_NoLetter := xcNoLetter,
    k_NoLetter := kxNoLetter,
    s_NoLetter := exNoLetter,
    y_NoLetter := tyNoLetter,
    err := { ox := ⟨⟨nmB, qB, NB, bsB, _, snB, suB, abB, coB, ddB, m0B, m1B, m2B, m3B, m5B, xlB, by show PySem.HandSPX.refsVE [.type "ValueError", .type "Exception", .type "BaseException", .type "object"] = true; decide +kernel⟩, saB, exBadWaits, tyBadWaits, kpB⟩, noAt := naB, xf := ⟨gaBadWaits, ggBadWaits, exBadWaits, hdBadWaits⟩, g := ⟨hnG, htG⟩, cB := ⟨icBadWaits, gaBadWaits, ggBadWaits, exBadWaits, clBadWaits, mrBadWaits⟩, bb := PySem.W.exm_ref exBadWaits hdBadWaits tyBadWaits sBadWaitsBadWaits, bl := PySem.W.exm_ref exBellError hdBellError tyBellError sBadWaitsBellError, kBH := kitBadWaitsNoHand, kBL := kitBadWaitsNoLetter, kBV := kitBadWaitsValueError, kBB := kitBadWaitsBadWaits, cH := ⟨icNoHand, gaNoHand, ggNoHand, exNoHand, clNoHand, mrNoHand⟩, kHH := kitNoHandNoHand, kHL := kitNoHandNoLetter, kHB := kitNoHandBadWaits, kHV := kitNoHandValueError, xHh := PySem.W.exm_ref exNoHand hdNoHand tyNoHand sNoHandNoHand, xHl := PySem.W.exm_ref exNoLetter hdNoLetter tyNoLetter sNoHandNoLetter, xHb := PySem.W.exm_ref exBadWaits hdBadWaits tyBadWaits sNoHandBadWaits, xHe := PySem.W.exm_ref exBellError hdBellError tyBellError sNoHandBellError, cL := ⟨icNoLetter, gaNoLetter, ggNoLetter, exNoLetter, clNoLetter, mrNoLetter⟩, kLH := kitNoLetterNoHand, kLL := kitNoLetterNoLetter, kLB := kitNoLetterBadWaits, kLV := kitNoLetterValueError, xLh := PySem.W.exm_ref exNoHand hdNoHand tyNoHand sNoLetterNoHand, xLl := PySem.W.exm_ref exNoLetter hdNoLetter tyNoLetter sNoLetterNoLetter, xLb := PySem.W.exm_ref exBadWaits hdBadWaits tyBadWaits sNoLetterBadWaits, xLe := PySem.W.exm_ref exBellError hdBellError tyBellError sNoLetterBellError, xBh := PySem.W.exm_ref exNoHand hdNoHand tyNoHand sBadWaitsNoHand, xBl := PySem.W.exm_ref exNoLetter hdNoLetter tyNoLetter sBadWaitsNoLetter },
    rd_BellError := rdL,
    ga_BellError := gaL,
    v_BellError := viL,
    gc_BellError := PySem.W.mg_of X G gBellError,
    gc_BadWaits := PySem.W.mg_of X G gBadWaits,
    gc_NoHand := PySem.W.mg_of X G gNoHand,
    gc_NoLetter := PySem.W.mg_of X G gNoLetter,
    cl_Hand := ⟨pgHand, hdHand, poHand, saHand⟩,
    no_Hand_number := nHand_number,
    no_Hand_word := nHand_word,
    no_Hand_others := nHand_others,
    no_Hand_is_asker := nHand_is_asker,
    no_Hand_is_freed := nHand_is_freed,
    no_Hand_has_asked := nHand_has_asked,
    no_Hand_askers := nHand_askers,
    no_Hand_told_so := nHand_told_so,
    no_Hand_owed := nHand_owed,
    no_Hand_waker := nHand_waker,
    cl_Net := ⟨pgNet, hdNet, poNet, saNet⟩,
    no_Net_asker := nNet_asker,
    no_Net_hands := nNet_hands,
    no_Net_row := nNet_row,
    no_Net_posted_so_far := nNet_posted_so_far,
    t_MOST_HANDS := tMOST_HANDS,
    co_MOST_HANDS := PySem.W.mg_of X G vMOST_HANDS,
    co_WORDS := PySem.W.mg_of X G vWORDS,
    words := fun H => .inr ⟨_, _, _, xW, rfl, rfl, by show 2 ≤ sizeLine; decide, .cons ⟨_, rfl⟩ (.cons ⟨_, rfl⟩ .nil)⟩,
    bi_ValueError := PySem.W.mg_none_of X G z_ValueError,
    bi_bool := PySem.W.mg_none_of X G z_bool,
    bi_enumerate := PySem.W.mg_none_of X G z_enumerate,
    bi_int := PySem.W.mg_none_of X G z_int,
    bi_isinstance := PySem.W.mg_none_of X G z_isinstance,
    bi_len := PySem.W.mg_none_of X G z_len,
    bi_list := PySem.W.mg_none_of X G z_list,
    bi_range := PySem.W.mg_none_of X G z_range,
    bi_str := PySem.W.mg_none_of X G z_str,
    bi_tuple := PySem.W.mg_none_of X G z_tuple }
  exact ⟨PySem.W.fnOf "law" "law" (defArgs s_law) (defBody s_law) (defScope s_law) .none kV34 dc34 pm34 an34 cd34 ct34, fun s v => .of_eq rfl, fun base _ _ => ok_law T⟩
end SB
open PySem PySem.W PyProof.Rows in
set_option maxRecDepth 100000 in
set_option maxHeartbeats 0 in
theorem PySem.Challenge.cw_stuckbell_k11_what_is_refused_holds : PySem.Challenge.rw_stuckbell_k11_what_is_refused.Holds := by
  w_on; o_law; k_head; (case hw => w_witness2)
  k_fill
  refine L2.walk_ofK (l := PySem.Challenge.rw_stuckbell_k11_what_is_refused) (n := 63) (k := 9) (x := "_law_script") (CX := L2.CX0) (sp := SB.spL) rfl (by decide) rfl ⟨rfl, by decide, by decide⟩ (fun w h Y => PySem.W.kIn_of Y) ?F (fun _ _ a ns hl _ hS => ⟨_, rfl, a, ns, rfl, hS, hl, fun _ => rfl⟩) (fun _ _ _ _ z => z)
  case F =>
    intro w mg fa h KX G hmg
    refine' SB.all_mk KX G hmg ?gHand ?gNet ?gBellError ?gBadWaits ?gNoHand ?gNoLetter ?a1 ?i1 ?l1 ?c1 ?k1 ?a2 ?i2 ?l2 ?c2 ?k2 ?mkHand ?kcHand ?a3 ?i3 ?l3 ?c3 ?k3 ?a4 ?i4 ?l4 ?c4 ?k4 ?a5 ?i5 ?l5 ?c5 ?k5 ?a6 ?i6 ?l6 ?c6 ?k6 ?a7 ?i7 ?l7 ?c7 ?k7 ?a8 ?i8 ?l8 ?c8 ?k8 ?a9 ?l9 ?c9 ?k9 ?a10 ?l10 ?c10 ?k10 ?a11 ?l11 ?c11 ?k11 ?a12 ?l12 ?c12 ?k12 ?a13 ?l13 ?c13 ?k13 ?a14 ?l14 ?c14 ?k14 ?a15 ?l15 ?c15 ?k15 ?a16 ?l16 ?c16 ?k16 ?a17 ?i17 ?l17 ?c17 ?k17 ?mkNet ?kcNet ?a18 ?i18 ?l18 ?c18 ?k18 ?a19 ?i19 ?l19 ?c19 ?k19 ?a20 ?i20 ?l20 ?c20 ?k20 ?a21 ?i21 ?l21 ?c21 ?k21 ?a22 ?i22 ?l22 ?c22 ?k22 ?a23 ?i23 ?l23 ?c23 ?k23 ?a24 ?i24 ?l24 ?c24 ?k24 ?a25 ?i25 ?l25 ?c25 ?k25 ?a26 ?i26 ?l26 ?c26 ?k26 ?a27 ?l27 ?c27 ?k27 ?a28 ?l28 ?c28 ?k28 ?a29 ?l29 ?c29 ?k29 ?a30 ?l30 ?c30 ?k30 ?a31 ?l31 ?c31 ?k31 ?a32 ?l32 ?c32 ?k32 ?a33 ?l33 ?c33 ?k33 ?a34 ?l34 ?c34 ?k34 ?xlB ?saB ?kpB ?naB ?exBadWaits ?tyBadWaits ?hdBadWaits ?exBellError ?tyBellError ?hdBellError ?exNoHand ?tyNoHand ?hdNoHand ?exNoLetter ?tyNoLetter ?hdNoLetter ?icBadWaits ?gaBadWaits ?ggBadWaits ?clBadWaits ?mrBadWaits ?icNoHand ?gaNoHand ?ggNoHand ?clNoHand ?mrNoHand ?icNoLetter ?gaNoLetter ?ggNoLetter ?clNoLetter ?mrNoLetter ?hnG ?htG ?rdL ?gaL ?viL ?sBadWaitsBadWaits ?sBadWaitsBellError ?kitBadWaitsNoHand ?kitBadWaitsNoLetter ?kitBadWaitsValueError ?kitBadWaitsBadWaits ?kitNoHandNoHand ?kitNoHandNoLetter ?kitNoHandBadWaits ?kitNoHandValueError ?sNoHandNoHand ?sNoHandNoLetter ?sNoHandBadWaits ?sNoHandBellError ?kitNoLetterNoHand ?kitNoLetterNoLetter ?kitNoLetterBadWaits ?kitNoLetterValueError ?sNoLetterNoHand ?sNoLetterNoLetter ?sNoLetterBadWaits ?sNoLetterBellError ?sBadWaitsNoHand ?sBadWaitsNoLetter ?xcNoHand ?kxNoHand ?xcNoLetter ?kxNoLetter ?pgHand ?hdHand ?poHand ?saHand ?nHand_number ?nHand_word ?nHand_others ?nHand_is_asker ?nHand_is_freed ?nHand_has_asked ?nHand_askers ?nHand_told_so ?nHand_owed ?nHand_waker ?pgNet ?hdNet ?poNet ?saNet ?nNet_asker ?nNet_hands ?nNet_row ?nNet_posted_so_far ?vMOST_HANDS ?vWORDS ?xW ?z_ValueError ?z_bool ?z_enumerate ?z_int ?z_isinstance ?z_len ?z_list ?z_range ?z_str ?z_tuple
    (case gHand => k_is)
    (case gNet => k_is)
    (case gBellError => k_is)
    (case gBadWaits => k_is)
    (case gNoHand => k_is)
    (case gNoLetter => k_is)
    (case a1 => k_is)
    (case i1 => k_is)
    (case l1 => k_is)
    (case c1 => k_is)
    (case k1 => k_is)
    (case a2 => k_is)
    (case i2 => k_is)
    (case l2 => k_is)
    (case c2 => k_is)
    (case k2 => k_is)
    (case mkHand => k_is)
    (case kcHand => k_is)
    (case a3 => k_is)
    (case i3 => k_is)
    (case l3 => k_is)
    (case c3 => k_is)
    (case k3 => k_is)
    (case a4 => k_is)
    (case i4 => k_is)
    (case l4 => k_is)
    (case c4 => k_is)
    (case k4 => k_is)
    (case a5 => k_is)
    (case i5 => k_is)
    (case l5 => k_is)
    (case c5 => k_is)
    (case k5 => k_is)
    (case a6 => k_is)
    (case i6 => k_is)
    (case l6 => k_is)
    (case c6 => k_is)
    (case k6 => k_is)
    (case a7 => k_is)
    (case i7 => k_is)
    (case l7 => k_is)
    (case c7 => k_is)
    (case k7 => k_is)
    (case a8 => k_is)
    (case i8 => k_is)
    (case l8 => k_is)
    (case c8 => k_is)
    (case k8 => k_is)
    (case a9 => k_is)
    (case l9 => k_is)
    (case c9 => k_is)
    (case k9 => k_is)
    (case a10 => k_is)
    (case l10 => k_is)
    (case c10 => k_is)
    (case k10 => k_is)
    (case a11 => k_is)
    (case l11 => k_is)
    (case c11 => k_is)
    (case k11 => k_is)
    (case a12 => k_is)
    (case l12 => k_is)
    (case c12 => k_is)
    (case k12 => k_is)
    (case a13 => k_is)
    (case l13 => k_is)
    (case c13 => k_is)
    (case k13 => k_is)
    (case a14 => k_is)
    (case l14 => k_is)
    (case c14 => k_is)
    (case k14 => k_is)
    (case a15 => k_is)
    (case l15 => k_is)
    (case c15 => k_is)
    (case k15 => k_is)
    (case a16 => k_is)
    (case l16 => k_is)
    (case c16 => k_is)
    (case k16 => k_is)
    (case a17 => k_is)
    (case i17 => k_is)
    (case l17 => k_is)
    (case c17 => k_is)
    (case k17 => k_is)
    (case mkNet => k_is)
    (case kcNet => k_is)
    (case a18 => k_is)
    (case i18 => k_is)
    (case l18 => k_is)
    (case c18 => k_is)
    (case k18 => k_is)
    (case a19 => k_is)
    (case i19 => k_is)
    (case l19 => k_is)
    (case c19 => k_is)
    (case k19 => k_is)
    (case a20 => k_is)
    (case i20 => k_is)
    (case l20 => k_is)
    (case c20 => k_is)
    (case k20 => k_is)
    (case a21 => k_is)
    (case i21 => k_is)
    (case l21 => k_is)
    (case c21 => k_is)
    (case k21 => k_is)
    (case a22 => k_is)
    (case i22 => k_is)
    (case l22 => k_is)
    (case c22 => k_is)
    (case k22 => k_is)
    (case a23 => k_is)
    (case i23 => k_is)
    (case l23 => k_is)
    (case c23 => k_is)
    (case k23 => k_is)
    (case a24 => k_is)
    (case i24 => k_is)
    (case l24 => k_is)
    (case c24 => k_is)
    (case k24 => k_is)
    (case a25 => k_is)
    (case i25 => k_is)
    (case l25 => k_is)
    (case c25 => k_is)
    (case k25 => k_is)
    (case a26 => k_is)
    (case i26 => k_is)
    (case l26 => k_is)
    (case c26 => k_is)
    (case k26 => k_is)
    (case a27 => k_is)
    (case l27 => k_is)
    (case c27 => k_is)
    (case k27 => k_is)
    (case a28 => k_is)
    (case l28 => k_is)
    (case c28 => k_is)
    (case k28 => k_is)
    (case a29 => k_is)
    (case l29 => k_is)
    (case c29 => k_is)
    (case k29 => k_is)
    (case a30 => k_is)
    (case l30 => k_is)
    (case c30 => k_is)
    (case k30 => k_is)
    (case a31 => k_is)
    (case l31 => k_is)
    (case c31 => k_is)
    (case k31 => k_is)
    (case a32 => k_is)
    (case l32 => k_is)
    (case c32 => k_is)
    (case k32 => k_is)
    (case a33 => k_is)
    (case l33 => k_is)
    (case c33 => k_is)
    (case k33 => k_is)
    (case a34 => k_is)
    (case l34 => k_is)
    (case c34 => k_is)
    (case k34 => k_is)
    (case xlB => k_is)
    (case saB => k_is)
    (case kpB => k_is)
    (case naB => k_is)
    (case exBadWaits => k_is)
    (case tyBadWaits => k_is)
    (case hdBadWaits => k_is)
    (case exBellError => k_is)
    (case tyBellError => k_is)
    (case hdBellError => k_is)
    (case exNoHand => k_is)
    (case tyNoHand => k_is)
    (case hdNoHand => k_is)
    (case exNoLetter => k_is)
    (case tyNoLetter => k_is)
    (case hdNoLetter => k_is)
    (case icBadWaits => k_is)
    (case gaBadWaits => k_is)
    (case ggBadWaits => k_is)
    (case clBadWaits => k_is)
    (case mrBadWaits => k_is)
    (case icNoHand => k_is)
    (case gaNoHand => k_is)
    (case ggNoHand => k_is)
    (case clNoHand => k_is)
    (case mrNoHand => k_is)
    (case icNoLetter => k_is)
    (case gaNoLetter => k_is)
    (case ggNoLetter => k_is)
    (case clNoLetter => k_is)
    (case mrNoLetter => k_is)
    (case hnG => k_is)
    (case htG => k_is)
    (case rdL => k_is)
    (case gaL => k_is)
    (case viL => k_is)
    (case sBadWaitsBadWaits => k_is)
    (case sBadWaitsBellError => k_is)
    (case kitBadWaitsNoHand => kit_is)
    (case kitBadWaitsNoLetter => kit_is)
    (case kitBadWaitsValueError => kit_is)
    (case kitBadWaitsBadWaits => kit_is)
    (case kitNoHandNoHand => kit_is)
    (case kitNoHandNoLetter => kit_is)
    (case kitNoHandBadWaits => kit_is)
    (case kitNoHandValueError => kit_is)
    (case sNoHandNoHand => k_is)
    (case sNoHandNoLetter => k_is)
    (case sNoHandBadWaits => k_is)
    (case sNoHandBellError => k_is)
    (case kitNoLetterNoHand => kit_is)
    (case kitNoLetterNoLetter => kit_is)
    (case kitNoLetterBadWaits => kit_is)
    (case kitNoLetterValueError => kit_is)
    (case sNoLetterNoHand => k_is)
    (case sNoLetterNoLetter => k_is)
    (case sNoLetterBadWaits => k_is)
    (case sNoLetterBellError => k_is)
    (case sBadWaitsNoHand => k_is)
    (case sBadWaitsNoLetter => k_is)
    (case xcNoHand => k_exc)
    (case kxNoHand => k_is)
    (case xcNoLetter => k_exc)
    (case kxNoLetter => k_is)
    (case pgHand => k_is)
    (case hdHand => k_is)
    (case poHand => k_is)
    (case saHand => k_is)
    (case nHand_number => k_is)
    (case nHand_word => k_is)
    (case nHand_others => k_is)
    (case nHand_is_asker => k_is)
    (case nHand_is_freed => k_is)
    (case nHand_has_asked => k_is)
    (case nHand_askers => k_is)
    (case nHand_told_so => k_is)
    (case nHand_owed => k_is)
    (case nHand_waker => k_is)
    (case pgNet => k_is)
    (case hdNet => k_is)
    (case poNet => k_is)
    (case saNet => k_is)
    (case nNet_asker => k_is)
    (case nNet_hands => k_is)
    (case nNet_row => k_is)
    (case nNet_posted_so_far => k_is)
    (case vMOST_HANDS => k_is)
    (case vWORDS => k_is)
    (case xW => k_is)
    (case z_ValueError => k_is)
    (case z_bool => k_is)
    (case z_enumerate => k_is)
    (case z_int => k_is)
    (case z_isinstance => k_is)
    (case z_len => k_is)
    (case z_list => k_is)
    (case z_range => k_is)
    (case z_str => k_is)
    (case z_tuple => k_is)
