import PyProof.Rows.All
import Wide.All
import OpenK.AllK
import Wide.FinOn
import HandS.ForMost
import HandS.IsInst
import HandS.Deep
import HandS.SetFor
import HandS.Rev
import HandS.SortInts
import HandS.Evl
import HandS.Dict
import HandS.Style
import HandS.More
import HandS.List
import HandS.IsInst
import HandS.ExcInit
import HandS.ExcOwn
import HandS.TryOnly
import HandS.TryMany
import HandS.ExcField
import HandS.WordsExc
import HandS.ExcIs
import KE.KExcIs
import PySem.Challenge.RW_stuckbell_k01_waits_let_by
set_option Elab.async false
set_option linter.all false
set_option maxRecDepth 100000
set_option maxHeartbeats 4000000
/-! the steps that need no word -/
set_option hygiene false in
local macro_rules | `(tactic| walk_at "rd1") => `(tactic| first
  | (with_reducible refine SB.r_seq ?_)
  | ((with_reducible refine' SB.r_var ?k1 ?_); (case k1 => rfl))
  | (with_reducible refine SB.r_c ?_)
  | (with_reducible refine SB.r_op ?_)
  | ((with_reducible refine' SB.r_mul ?k1 ?_); (case k1 => first | exact Or.inr ⟨by decide, by decide⟩ | exact Or.inl ⟨by decide, by decide⟩ | exact Or.inr ⟨by omega, by omega⟩ | exact Or.inl ⟨by omega, by omega⟩))
  | ((with_reducible refine' SB.r_mod ?k1 ?_); (case k1 => first | decide | omega))
  | ((with_reducible refine' SB.r_div ?k1 ?_); (case k1 => first | exact ⟨by decide, by decide⟩ | exact ⟨by omega, by omega⟩))
  | (with_reducible refine SB.r_I0 ?_)
  | ((with_reducible refine SB.r_gname ?_); try dsimp only [List.set_cons_succ, List.set_cons_zero])
  | (with_reducible refine SB.r_asg ?_)
  | (with_reducible refine SB.r_cons ?_)
  | (with_reducible refine SB.r_nil ?_)
  | (with_reducible refine SB.r_call ?_)
  | (with_reducible refine SB.r_sp1 ?_)
  | (with_reducible refine SB.r_sp2 ?_)
  | (with_reducible refine SB.r_sp3 ?_)
  | (with_reducible refine SB.r_sp4 ?_)
  | (with_reducible refine SB.r_cb ?_)
  | (with_reducible refine SB.r_ifS ?_)
  | (with_reducible refine SB.r_test ?_)
  | (with_reducible refine SB.r_tB ?_)
  | (with_reducible refine SB.r_bl ?_)
  | (with_reducible refine SB.r_eqI ?_)
  | (with_reducible refine SB.r_eqS ?_)
  | (with_reducible refine SB.r_neI ?_)
  | (with_reducible refine SB.r_neS ?_)
  | (with_reducible refine SB.r_next ?_)
  | (with_reducible refine SB.r_ret ?_)
  | (with_reducible refine SB.r_drop ?_)
  | (with_reducible refine SB.r_not ?_)
  | (with_reducible refine SB.r_notV ?_)
  | (with_reducible refine SB.r_and ?_)
  | (with_reducible refine SB.r_or ?_)
  | (with_reducible refine SB.r_andV ?_)
  | (with_reducible refine SB.r_orV ?_)
  | (with_reducible refine SB.r_yes ?_)
  | (with_reducible refine SB.r_lst ?_)
  | (with_reducible refine SB.r_tup ?_)
  | (with_reducible refine SB.r_qIsN ?_)
  | (with_reducible refine SB.r_qNotN ?_)
  | (with_reducible refine SB.r_bm ?_)
  | (with_reducible refine SB.r_bm0 ?_)
  | (with_reducible refine SB.r_chain ?_)
  | (with_reducible refine SB.r_sl ?_)
  | (with_reducible refine SB.r_nopart ?_)
  | (with_reducible refine SB.r_part ?_)
  | (with_reducible refine SB.r_some ?_)
  | (with_reducible refine SB.r_gsub ?_)
  | (with_reducible refine SB.r_forR1 ?_)
  | (with_reducible refine SB.r_forR2 ?_)
  | (with_reducible refine SB.r_forL ?_)
  | (with_reducible refine SB.r_forT ?_)
  | (with_reducible refine SB.r_forE ?_)
  | (with_reducible refine SB.r_lcR1 ?_)
  | (with_reducible refine SB.r_lcL ?_)
  | (with_reducible refine SB.r_lcT ?_)
  | (with_reducible refine SB.r_lcE ?_)
  | (with_reducible refine SB.r_listRev0 ?_)
  | (with_reducible refine SB.r_retN ?_))
local macro_rules | `(tactic| walk_at "rd") => `(tactic| repeat (walk_at "rd1"))
set_option hygiene false in
local macro_rules | `(tactic| walk_at "rd1") => `(tactic| first
  | (with_reducible refine SB.r_fld ?_)
  | (with_reducible refine SB.r_sfld ?_)
  | (with_reducible refine SB.r_meth ?_)
  | (with_reducible refine SB.r_make ?_)
  | (with_reducible refine SB.r_dget ?_)
  | (with_reducible refine SB.r_dput ?_)
  | (with_reducible refine SB.r_pcons ?_)
  | (with_reducible refine SB.r_pnil ?_)
  | (with_reducible refine SB.r_sp1m ?_)
  | (with_reducible refine SB.r_sp2m ?_)
  | (with_reducible refine SB.r_sp3m ?_)
  | (with_reducible refine SB.r_sp4m ?_)
  | (with_reducible refine SB.r_eqB ?_)
  | (with_reducible refine SB.r_neB ?_))
/-! The state kit: a frozen part F of the heap H, a ledger L of the cells that may still change, and data over F. -/
namespace SB
open PySem L2

/-! ### the state -/
structure Zs (F0 H0 F H : Hp) (L : List (Addr × HO)) : Prop where
  ff : Same F0 F
  hh : Same H0 H
  fh : Same F H
  sep : ∀ a, F0 a = none → H0 a ≠ none → F a = none
  led : ∀ q ∈ L, H q.1 = some q.2 ∧ F q.1 = none ∧ H0 q.1 = none
  nd : (L.map (·.1)).Nodup

theorem same_none {H H' : Hp} (s : Same H H') {a : Addr} (h : H' a = none) : H a = none := s.free h
theorem some_ne {H : Hp} {a : Addr} {o : HO} (h : H a = some o) : H a ≠ none := by rw [h]; exact fun q => nomatch q
theorem same_some {H H' : Hp} (s : Same H H') {a : Addr} (h : H a ≠ none) : H' a ≠ none := by
  cases e : H a with
  | none => exact absurd e h
  | some o => rw [s a o e]; exact fun q => nomatch q
theorem same_new {H : Hp} {p : Addr} {o : HO} (h : H p = none) : Same H (upd H p o) := fun a u e => by
  rw [upd_ne (ne_of_none e h)]; exact e
theorem same_mut {H H' : Hp} {p : Addr} {o : HO} (s : Same H H') (h : H p = none) : Same H (upd H' p o) := fun a u e => by
  rw [upd_ne (ne_of_none e h)]; exact s a u e

section
variable {F0 H0 F H F' H' : Hp} {L L1 L2 : List (Addr × HO)} {p : Addr} {o o' : HO}
theorem Zs.start (h : Same F H) : Zs F H F H [] := ⟨Same.refl _, Same.refl _, h, fun _ a _ => a, fun _ q => (nomatch q), List.nodup_nil⟩
theorem Zs.get (Z : Zs F0 H0 F H L) {i : Nat} (h : L[i]? = some (p, o)) : H p = some o := (Z.led (p, o) (List.mem_of_getElem? h)).1
theorem Zs.getF (Z : Zs F0 H0 F H L) {i : Nat} (h : L[i]? = some (p, o)) : F p = none := (Z.led (p, o) (List.mem_of_getElem? h)).2.1
theorem Zs.get0 (Z : Zs F0 H0 F H L) {i : Nat} (h : L[i]? = some (p, o)) : H0 p = none := (Z.led (p, o) (List.mem_of_getElem? h)).2.2
theorem Zs.fix (Z : Zs F0 H0 F H L) {a : Addr} {u : HO} (h : F a = some u) : H a = some u := Z.fh a u h
theorem Zs.alloc (Z : Zs F0 H0 F H L) (h : H p = none) : Zs F0 H0 F (upd H p o) ((p, o) :: L) where
  ff := Z.ff
  hh := same_mut Z.hh (same_none Z.hh h)
  fh := same_mut Z.fh (same_none Z.fh h)
  sep := Z.sep
  led := fun q hq => by
    rcases List.mem_cons.mp hq with rfl | hq
    · exact ⟨upd_same, same_none Z.fh h, same_none Z.hh h⟩
    · obtain ⟨a, b, c⟩ := Z.led q hq
      exact ⟨by rw [upd_ne (ne_of_none a h)]; exact a, b, c⟩
  nd := by
    rw [List.map_cons, List.nodup_cons]
    refine ⟨fun hm => ?_, Z.nd⟩
    obtain ⟨q, hq, e⟩ := List.mem_map.mp hm
    obtain ⟨a, _, _⟩ := Z.led q hq
    have e' : q.1 = p := e
    rw [e', h] at a
    cases a
theorem Zs.sub (Z : Zs F0 H0 F H L) (h : List.Sublist L1 L) : Zs F0 H0 F H L1 where
  ff := Z.ff
  hh := Z.hh
  fh := Z.fh
  sep := Z.sep
  led := fun q hq => Z.led q (h.subset hq)
  nd := (h.map _).nodup Z.nd
theorem Zs.drop (Z : Zs F0 H0 F H (q :: L)) : Zs F0 H0 F H L := Z.sub (List.sublist_cons_self _ _)
theorem Zs.dropAt (Z : Zs F0 H0 F H L) (i : Nat) : Zs F0 H0 F H (L.eraseIdx i) := Z.sub (List.eraseIdx_sublist _ _)
theorem Zs.nil (Z : Zs F0 H0 F H L) : Zs F0 H0 F H [] := Z.sub (List.nil_sublist _)
/-- what was frozen since is forgotten -/
theorem Zs.back (Z : Zs F0 H0 F H L) (h : Same F0 H0) : Zs F0 H0 F0 H [] := ⟨Same.refl _, Z.hh, h.trans Z.hh, fun _ a _ => a, fun _ q => (nomatch q), List.nodup_nil⟩
/-- two places of the ledger are two addresses -/
theorem Zs.ne (Z : Zs F0 H0 F H L) {i j : Nat} {p q : Addr} {o u : HO} (hi : L[i]? = some (p, o)) (hj : L[j]? = some (q, u)) (n : i ≠ j) : p ≠ q := fun e => by
  have a : (L.map (·.1))[i]? = some p := by rw [List.getElem?_map, hi] <;> rfl
  have b : (L.map (·.1))[j]? = some p := by rw [List.getElem?_map, hj, e] <;> rfl
  exact n (nd_ix Z.nd a b)
theorem Zs.setAt (Z : Zs F0 H0 F H L) (i : Nat) (h : L[i]? = some (p, o)) : Zs F0 H0 F (upd H p o') (L.set i (p, o')) where
  ff := Z.ff
  hh := same_mut Z.hh (Z.get0 h)
  fh := same_mut Z.fh (Z.getF h)
  sep := Z.sep
  led := fun q hq => by
    obtain ⟨j, hj⟩ := List.mem_iff_getElem?.mp hq
    rw [List.getElem?_set] at hj
    by_cases e : i = j
    · rw [if_pos e] at hj
      split at hj
      · have e2 := Option.some.inj hj
        subst e2
        exact ⟨upd_same, Z.getF h, Z.get0 h⟩
      · cases hj
    · rw [if_neg e] at hj
      obtain ⟨a, b, c⟩ := Z.led q (List.mem_of_getElem? hj)
      have n : p ≠ q.1 := Z.ne (i := i) (j := j) (q := q.1) (u := q.2) h hj e
      exact ⟨by rw [upd_ne n.symm]; exact a, b, c⟩
  nd := by
    have e : (L.set i (p, o')).map (·.1) = L.map (·.1) := by
      rw [List.map_set]
      refine List.ext_getElem? fun j => ?_
      rw [List.getElem?_set]
      by_cases q : i = j
      · subst q
        rw [if_pos rfl, List.getElem?_map, h]
        split
        · rfl
        · rename_i z
          have := (List.getElem?_eq_some_iff.mp h).1
          rw [List.length_map] at z
          exact absurd this z
      · rw [if_neg q]
    rw [e]
    exact Z.nd
/-- a cell that does not change any more -/
theorem Zs.frzAt (Z : Zs F0 H0 F H L) (i : Nat) (h : L[i]? = some (p, o)) : ∃ F', Zs F0 H0 F' H (L.eraseIdx i) ∧ Same F F' ∧ F' p = some o := by
  have hi := (List.getElem?_eq_some_iff.mp h).1
  have hni : ∀ q ∈ L.eraseIdx i, q.1 ≠ p := fun q hq e => by
    obtain ⟨j, hj⟩ := List.mem_iff_getElem?.mp hq
    rw [List.getElem?_eraseIdx] at hj
    split at hj
    · rename_i lt
      exact Z.ne (i := i) (j := j) (q := q.1) (u := q.2) h hj (by omega) e.symm
    · rename_i lt
      exact Z.ne (i := i) (j := j + 1) (q := q.1) (u := q.2) h hj (by omega) e.symm
  refine ⟨upd F p o, ⟨fun a u e => ?_, Z.hh, fun a u e => ?_, fun a e n => ?_, fun q hq => ?_, ?_⟩, same_new (Z.getF h), upd_same⟩
  · exact same_new (Z.getF h) a u (Z.ff a u e)
  · by_cases q : a = p
    · subst q
      rw [upd_same] at e
      rw [← e]
      exact Z.get h
    · rw [upd_ne q] at e
      exact Z.fh a u e
  · by_cases q : a = p
    · subst q
      exact absurd (Z.get0 h) n
    · rw [upd_ne q]
      exact Z.sep a e n
  · obtain ⟨a, b, c⟩ := Z.led q (List.eraseIdx_subset hq)
    exact ⟨a, by rw [upd_ne (hni q hq)]; exact b, c⟩
  · exact ((List.eraseIdx_sublist _ _).map _).nodup Z.nd
/-- behind a call that changes nothing that stood -/
theorem Zs.call (Z : Zs F0 H0 F H L) (W : Zs F H F' H' []) : Zs F0 H0 F' H' L where
  ff := Z.ff.trans W.ff
  hh := Z.hh.trans W.hh
  fh := W.fh
  sep := fun a e n => W.sep a (Z.sep a e n) (same_some Z.hh n)
  led := fun q hq => by
    obtain ⟨a, b, c⟩ := Z.led q hq
    exact ⟨W.hh _ _ a, W.sep _ b (some_ne a), c⟩
  nd := Z.nd
theorem Zs.ext (Z : Zs F0 H0 F H L) (s : Same H H') : Zs F0 H0 F H' L :=
  Z.call ⟨Same.refl _, s, Z.fh.trans s, fun _ a _ => a, fun _ q => (nomatch q), List.nodup_nil⟩
theorem Zs.trans {F1 H1 : Hp} (Z : Zs F0 H0 F1 H1 []) (W : Zs F1 H1 F H L) : Zs F0 H0 F H L where
  ff := Z.ff.trans W.ff
  hh := Z.hh.trans W.hh
  fh := W.fh
  sep := fun a e n => W.sep a (Z.sep a e n) (same_some Z.hh n)
  led := fun q hq => by
    obtain ⟨a, b, c⟩ := W.led q hq
    exact ⟨a, b, same_none Z.hh c⟩
  nd := W.nd
end

/-! ### data -/
mutual
inductive Td (F : Hp) : V → PyData → Prop
  | non : Td F .non .none
  | bl (b : Bool) : Td F (.bl b) (.bool b)
  | int (i : Int) : Td F (.int i) (.int i)
  | str (x : Str) : Td F (.str x) (.str x)
  | lst {a : Addr} {xs : List V} {ds : List PyData} : F a = some (.lst xs) → TdA F xs ds → Td F (.ref a) (.list ds)
  | tup {a : Addr} {xs : List V} {ds : List PyData} : F a = some (.tup xs) → TdA F xs ds → Td F (.ref a) (.tuple ds)
inductive TdA (F : Hp) : List V → List PyData → Prop
  | nil : TdA F [] []
  | cons {v : V} {vs : List V} {d : PyData} {ds : List PyData} : Td F v d → TdA F vs ds → TdA F (v :: vs) (d :: ds)
end
mutual
theorem Td.mono {F F' : Hp} (s : Same F F') : ∀ (d : PyData) (v : V), Td F v d → Td F' v d
  | .none, _, h => by cases h; exact .non
  | .bool b, _, h => by cases h; exact .bl b
  | .int i, _, h => by cases h; exact .int i
  | .str x, _, h => by cases h; exact .str x
  | .list ds, _, h => by
    cases h with
    | lst hs ha => exact .lst (s _ _ hs) (TdA.mono s ds _ ha)
  | .tuple ds, _, h => by
    cases h with
    | tup hs ha => exact .tup (s _ _ hs) (TdA.mono s ds _ ha)
  | .dict _, _, h => by cases h
theorem TdA.mono {F F' : Hp} (s : Same F F') : ∀ (ds : List PyData) (vs : List V), TdA F vs ds → TdA F' vs ds
  | [], _, h => by cases h; exact .nil
  | d :: ds, _, h => by
    cases h with
    | cons h1 h2 => exact .cons (Td.mono s d _ h1) (TdA.mono s ds _ h2)
end
mutual
theorem Td.dp {K : PySem.W.Frag} {F : Hp} : ∀ (d : PyData) (v : V), Td F v d → Dp K F v d
  | .none, _, h => by cases h; exact .non
  | .bool b, _, h => by cases h; exact .bl b
  | .int i, _, h => by cases h; exact .int i
  | .str x, _, h => by cases h; exact .str x
  | .list ds, _, h => by
    cases h with
    | lst hs ha => exact .lst (SqL.of hs) (TdA.dp ds _ ha)
  | .tuple ds, _, h => by
    cases h with
    | tup hs ha => exact .tup (SqT.of hs) (TdA.dp ds _ ha)
  | .dict _, _, h => by cases h
theorem TdA.dp {K : PySem.W.Frag} {F : Hp} : ∀ (ds : List PyData) (vs : List V), TdA F vs ds → DpAll K F vs ds
  | [], _, h => by cases h; exact .nil
  | d :: ds, _, h => by
    cases h with
    | cons h1 h2 => exact .cons (Td.dp d _ h1) (TdA.dp ds _ h2)
end
section
variable {F F' H : Hp} {v : V} {vs ws : List V} {d : PyData} {ds es : List PyData}
theorem Td.up (h : Td F v d) (s : Same F F') : Td F' v d := Td.mono s d v h
theorem TdA.up (h : TdA F vs ds) (s : Same F F') : TdA F' vs ds := TdA.mono s ds vs h
theorem TdA.len : ∀ {vs : List V} {ds : List PyData}, TdA F vs ds → vs.length = ds.length
  | _, _, .nil => rfl
  | _, _, .cons _ h => by rw [List.length_cons, List.length_cons, TdA.len h]
theorem TdA.append : ∀ {vs ws : List V} {ds es : List PyData}, TdA F vs ds → TdA F ws es → TdA F (vs ++ ws) (ds ++ es)
  | _, _, _, _, .nil, h => h
  | _, _, _, _, .cons h1 h2, h => .cons h1 (TdA.append h2 h)
theorem TdA.snoc (h : TdA F vs ds) (k : Td F v d) : TdA F (vs ++ [v]) (ds ++ [d]) := h.append (.cons k .nil)
theorem TdA.get : ∀ {vs : List V} {ds : List PyData} {i : Nat} {d : PyData}, TdA F vs ds → ds[i]? = some d → ∃ v, vs[i]? = some v ∧ Td F v d
  | _, _, _, _, .nil, h => by simp at h
  | _, _, 0, _, .cons h1 _, h => by simp at h; subst h; exact ⟨_, rfl, h1⟩
  | _, _, i + 1, _, .cons _ h2, h => by
    obtain ⟨v, a, b⟩ := TdA.get (i := i) h2 (by simpa using h)
    exact ⟨v, by simpa using a, b⟩
theorem TdA.at : ∀ {vs : List V} {ds : List PyData} {i : Nat} {v : V}, TdA F vs ds → vs[i]? = some v → ∃ d, ds[i]? = some d ∧ Td F v d
  | _, _, _, _, .nil, h => by simp at h
  | _, _, 0, _, .cons h1 _, h => by simp at h; subst h; exact ⟨_, rfl, h1⟩
  | _, _, i + 1, _, .cons _ h2, h => by
    obtain ⟨v, a, b⟩ := TdA.at (i := i) h2 (by simpa using h)
    exact ⟨v, by simpa using a, b⟩
theorem TdA.set : ∀ {vs : List V} {ds : List PyData} (i : Nat), TdA F vs ds → Td F v d → TdA F (vs.set i v) (ds.set i d)
  | _, _, _, .nil, _ => .nil
  | _, _, 0, .cons _ h2, k => .cons k h2
  | _, _, i + 1, .cons h1 h2, k => .cons h1 (TdA.set i h2 k)
theorem TdA.take : ∀ {vs : List V} {ds : List PyData} (i : Nat), TdA F vs ds → TdA F (vs.take i) (ds.take i)
  | _, _, 0, _ => .nil
  | _, _, _ + 1, .nil => .nil
  | _, _, i + 1, .cons h1 h2 => .cons h1 (TdA.take i h2)
theorem TdA.drop : ∀ {vs : List V} {ds : List PyData} (i : Nat), TdA F vs ds → TdA F (vs.drop i) (ds.drop i)
  | _, _, 0, h => h
  | _, _, _ + 1, .nil => .nil
  | _, _, i + 1, .cons _ h2 => TdA.drop i h2
theorem TdA.of_map {α : Type} {f : α → V} {g : α → PyData} (h : ∀ a, Td F (f a) (g a)) : ∀ l : List α, TdA F (l.map f) (l.map g)
  | [] => .nil
  | a :: l => .cons (h a) (TdA.of_map h l)
theorem TdA.ints (l : List Int) : TdA F (l.map V.int) (l.map PyData.int) := TdA.of_map (fun a => .int a) l
theorem TdA.bools (l : List Bool) : TdA F (l.map V.bl) (l.map PyData.bool) := TdA.of_map (fun a => .bl a) l
theorem TdA.of_ints : ∀ {vs : List V} {l : List Int}, TdA F vs (l.map PyData.int) → vs = l.map V.int
  | _, [], .nil => rfl
  | _, _ :: l, .cons (.int _) h => by rw [List.map_cons, TdA.of_ints h]
theorem TdA.of_bools : ∀ {vs : List V} {l : List Bool}, TdA F vs (l.map PyData.bool) → vs = l.map V.bl
  | _, [], .nil => rfl
  | _, _ :: l, .cons (.bl _) h => by rw [List.map_cons, TdA.of_bools h]
theorem Td.ints_lst {a : Addr} {l : List Int} (h : F a = some (.lst (l.map V.int))) : Td F (.ref a) (.list (l.map PyData.int)) := .lst h (TdA.ints l)
theorem Td.inv_lst (h : Td F v (.list ds)) : ∃ a xs, v = .ref a ∧ F a = some (.lst xs) ∧ TdA F xs ds := by
  cases h with
  | lst a b => exact ⟨_, _, rfl, a, b⟩
theorem Td.inv_tup (h : Td F v (.tuple ds)) : ∃ a xs, v = .ref a ∧ F a = some (.tup xs) ∧ TdA F xs ds := by
  cases h with
  | tup a b => exact ⟨_, _, rfl, a, b⟩
theorem Td.inv_ints {l : List Int} (h : Td F v (.list (l.map PyData.int))) : ∃ a, v = .ref a ∧ F a = some (.lst (l.map V.int)) := by
  obtain ⟨a, xs, rfl, h1, h2⟩ := h.inv_lst
  rw [h2.of_ints] at h1
  exact ⟨a, rfl, h1⟩
theorem Td.inv_int {n : Int} (h : Td F v (.int n)) : v = .int n := by cases h; rfl
theorem Td.inv_bl {n : Bool} (h : Td F v (.bool n)) : v = .bl n := by cases h; rfl
theorem Td.inv_str {n : Str} (h : Td F v (.str n)) : v = .str n := by cases h; rfl
theorem Td.inv_non (h : Td F v .none) : v = .non := by cases h; rfl
end

/-! ### readings, one construct a row -/
section
variable {K : PySem.W.Frag} {σ : St} {H : Hp} {Q : VK} {D : Ends} {t u : TS} {ta tb tc : TE} {tt tu : TT} {v x y : V} {r : R2} {i j : Int} {n : Nat} {b c : Bool}
theorem r_seq (h : t { D with nx := u D } σ H) : tSeq t u D σ H := h
theorem r_next (h : D.nx σ H) : tNext D σ H := h
theorem r_ret (h : ta σ H D.rt) : tRet ta D σ H := h
theorem r_retN (h : D.rt .non H) : tRetN D σ H := h
theorem r_drop (h : ta σ H fun _ H1 => D.nx σ H1) : tDrop ta D σ H := h
theorem r_asg {g : TG} (h : ta σ H fun x H1 => g x σ H1 D.nx) : tAsg ta g D σ H := h
theorem r_gname {Q : St → Hp → Prop} (h : Q (σ.set n (some v)) H) : gName n v σ H Q := h
theorem r_ifS (h : tt σ H fun b H1 => if b = true then t D σ H1 else u D σ H1) : tIfS tt t u D σ H := h
theorem r_var (h : σ[n]? = some (some v)) (k : Q v H) : tVar n σ H Q := ⟨v, h, k⟩
theorem r_c (k : Q v H) : tC v σ H Q := k
theorem r_op (h : ta σ H fun x H1 => tb σ H1 fun y H2 => r x y H2 Q) : tOp r ta tb σ H Q := h
theorem r_I0 {g : Int → Int → V} (k : Q (g i j) H) : rI0 g (.int i) (.int j) H Q := ⟨i, j, rfl, rfl, k⟩
theorem r_I {C : Int → Int → Prop} {g : Int → Int → V} (hc : C i j) (k : Q (g i j) H) : rI C g (.int i) (.int j) H Q := ⟨i, j, rfl, rfl, hc, k⟩
theorem r_mul {g : Int → Int → V} (hc : CMul i j) (k : Q (g i j) H) : rI CMul g (.int i) (.int j) H Q := ⟨i, j, rfl, rfl, hc, k⟩
theorem r_div {g : Int → Int → V} (hc : CDiv i j) (k : Q (g i j) H) : rI CDiv g (.int i) (.int j) H Q := ⟨i, j, rfl, rfl, hc, k⟩
theorem r_mod {g : Int → Int → V} (hc : 0 < j) (k : Q (g i j) H) : rI (fun _ j => 0 < j) g (.int i) (.int j) H Q := ⟨i, j, rfl, rfl, hc, k⟩
theorem dec_vi {i j : Int} : decide (V.int i = V.int j) = decide (i = j) := by
  by_cases e : i = j
  · rw [decide_eq_true e, decide_eq_true (by rw [e])]
  · rw [decide_eq_false e, decide_eq_false (fun q => e (V.int.inj q))]
theorem dec_vs {i j : Str} : decide (V.str i = V.str j) = decide (i = j) := by
  by_cases e : i = j
  · rw [decide_eq_true e, decide_eq_true (by rw [e])]
  · rw [decide_eq_false e, decide_eq_false (fun q => e (V.str.inj q))]
theorem dec_vb {i j : Bool} : decide (V.bl i = V.bl j) = (i == j) := by
  cases i <;> cases j <;> rfl
theorem r_eqI (k : Q (.bl (decide (i = j))) H) : rEq (.int i) (.int j) H Q := ⟨rfl, by rw [dec_vi]; exact k⟩
theorem r_eqS {i j : Str} (k : Q (.bl (decide (i = j))) H) : rEq (.str i) (.str j) H Q := ⟨rfl, by rw [dec_vs]; exact k⟩
theorem r_eqB {i j : Bool} (k : Q (.bl (i == j)) H) : rEq (.bl i) (.bl j) H Q := ⟨rfl, by rw [dec_vb]; exact k⟩
theorem r_neI (k : Q (.bl (!decide (i = j))) H) : rNe (.int i) (.int j) H Q := ⟨rfl, by rw [dec_vi]; exact k⟩
theorem r_neS {i j : Str} (k : Q (.bl (!decide (i = j))) H) : rNe (.str i) (.str j) H Q := ⟨rfl, by rw [dec_vs]; exact k⟩
theorem r_neB {i j : Bool} (k : Q (.bl (!(i == j))) H) : rNe (.bl i) (.bl j) H Q := ⟨rfl, by rw [dec_vb]; exact k⟩
theorem r_bl {P : Bool → Prop} (k : P b) : ∃ k, V.bl b = V.bl k ∧ P k := ⟨b, rfl, k⟩
theorem r_test {Q : Bool → Hp → Prop} (h : ta σ H fun x H' => ∃ k, x = .bl k ∧ Q k H') : tTest ta σ H Q := h
theorem r_tB {Q : Bool → Hp → Prop} (h : ta σ H fun x H' => ∃ k, x = .bl k ∧ Q k H') : tB ta σ H Q := h
theorem r_not {Q : Bool → Hp → Prop} (h : tt σ H fun c H1 => Q (!c) H1) : tNot tt σ H Q := h
theorem r_notV (h : ta σ H fun x H1 => ∃ c, x = .bl c ∧ Q (.bl (!c)) H1) : tNotV ta σ H Q := h
theorem r_and {Q : Bool → Hp → Prop} (h : tt σ H fun c H1 => if c = true then tu σ H1 Q else Q false H1) : tAnd tt tu σ H Q := h
theorem r_or {Q : Bool → Hp → Prop} (h : tt σ H fun c H1 => if c = true then Q true H1 else tu σ H1 Q) : tOr tt tu σ H Q := h
theorem r_andV (h : ta σ H fun x H1 => ∃ c, x = .bl c ∧ if c = true then tb σ H1 Q else Q (.bl false) H1) : tAndV ta tb σ H Q := h
theorem r_orV (h : ta σ H fun x H1 => ∃ c, x = .bl c ∧ if c = true then Q (.bl true) H1 else tb σ H1 Q) : tOrV ta tb σ H Q := h
theorem r_yes {Q : Bool → Hp → Prop} (h : Q true H) : tYes σ H Q := h
theorem r_if {tA : TT} (h : tA σ H fun c H1 => if c = true then ta σ H1 Q else tb σ H1 Q) : tIf tA ta tb σ H Q := h
theorem r_nil {Q : List V → Hp → Prop} (h : Q [] H) : tNil σ H Q := h
theorem r_cons {tr : TA} {Q : List V → Hp → Prop} (h : ta σ H fun x H1 => tr σ H1 fun xs H2 => Q (x :: xs) H2) : tCons ta tr σ H Q := h
/-- a new object is laid -/
def NewO (o : HO) (H : Hp) (Q : VK) : Prop := ∀ p, H p = none → Q (.ref p) (upd H p o)
theorem r_tup {t : TA} (h : t σ H fun xs H1 => xs.length ≤ sizeLine ∧ NewO (.tup xs) H1 Q) : tTup t σ H Q := h
theorem r_lst {t : TA} (h : t σ H fun xs H1 => xs.length ≤ sizeLine ∧ NewO (.lst xs) H1 Q) : tLst t σ H Q := h
theorem r_call {sp : Sp} {dvs : List V} {E : XK} {t : TA} (h : t σ H fun vs H1 => sp (vs ++ dvs) H1 Q E) : tCall sp dvs E t σ H Q := h
theorem r_cb {r : List V → Hp → VK → Prop} {t : TA} (h : t σ H fun vs H1 => r vs H1 Q) : tCB r t σ H Q := h
theorem r_bm {T : String} {r : V → List V → Hp → VK → Prop} {t : TA} (h : ta σ H fun x H1 => tyV K T x H1 ∧ t σ H1 fun xs H2 => r x xs H2 Q) : tBM K T r ta t σ H Q := h
theorem r_bm0 {T : String} {r : V → List V → Hp → VK → Prop} (h : ta σ H fun x H1 => tyV K T x H1 ∧ r x [] H1 Q) : tBM0 K T r ta σ H Q := h
theorem r_isN (k : Q (.bl (decide (x = .non))) H) : (fun x y H Q => y = V.non ∧ Q (.bl (decide (x = .non))) H : R2) x .non H Q := ⟨rfl, k⟩
theorem sz_of {n : Nat} (h : n ≤ 100000) : n ≤ sizeLine := Nat.le_trans h (by decide)
theorem sz0 : ([] : List V).length ≤ sizeLine := Nat.zero_le _
theorem sz1 {a : V} : [a].length ≤ sizeLine := by show 1 ≤ sizeLine; decide
theorem sz2 {a b : V} : [a, b].length ≤ sizeLine := by show 2 ≤ sizeLine; decide
theorem sz3 {a b c : V} : [a, b, c].length ≤ sizeLine := by show 3 ≤ sizeLine; decide
theorem sz5 {a b c d e : V} : [a, b, c, d, e].length ≤ sizeLine := by show 5 ≤ sizeLine; decide
theorem sz_lt {n : Nat} (h : n < 100000) : n < sizeLine := Nat.lt_of_lt_of_le h (by decide)
/-- an if over a decided test -/
theorem ifd {p A B : Prop} [Decidable p] (h1 : p → A) (h2 : ¬ p → B) : if decide p = true then A else B := by
  by_cases h : p
  · rw [if_pos (decide_eq_true h)]; exact h1 h
  · rw [if_neg (by rw [decide_eq_false h]; decide)]; exact h2 h
theorem ifn {p A B : Prop} [Decidable p] (h1 : ¬ p → A) (h2 : p → B) : if (!decide p) = true then A else B := by
  by_cases h : p
  · rw [if_neg (by rw [decide_eq_true h]; decide)]; exact h2 h
  · rw [if_pos (by rw [decide_eq_false h]; rfl)]; exact h1 h
theorem ifb {A B : Prop} (h1 : b = true → A) (h2 : b = false → B) : if b = true then A else B := by
  cases b with
  | true => exact h1 rfl
  | false => exact h2 rfl
theorem ifnb {A B : Prop} (h1 : b = false → A) (h2 : b = true → B) : if (!b) = true then A else B := by
  cases b with
  | true => exact h2 rfl
  | false => exact h1 rfl
theorem ifT {A B : Prop} (h : b = true) (k : A) : if b = true then A else B := by rw [if_pos h]; exact k
theorem ifF {A B : Prop} (h : b = false) (k : B) : if b = true then A else B := by rw [if_neg (by rw [h]; decide)]; exact k
/-- items of a list, a tuple -/
theorem r_ixL {p : Addr} {xs : List V} (hs : SqL K H p xs) (ha : atI xs i = some v) (k : Q v H) : rIxL K (.ref p) (.int i) H Q := ⟨p, xs, i, v, rfl, rfl, hs, ha, k⟩
theorem r_ixT {p : Addr} {xs : List V} (hs : SqT K H p xs) (ha : atI xs i = some v) (k : Q v H) : rIxT K (.ref p) (.int i) H Q := ⟨p, xs, i, v, rfl, rfl, hs, ha, k⟩
theorem at_i {α : Type} {xs : List α} {i : Int} {v : α} (h0 : 0 ≤ i) (h : xs[i.toNat]? = some v) : atI xs i = some v := by
  obtain ⟨k, rfl⟩ := Int.eq_ofNat_of_zero_le h0
  exact atI_nat h
theorem r_inL {neg : Bool} {p : Addr} {xs : List V} (hs : SqL K H p xs) (hx : flatV x = true) (ha : xs.all flatV = true) (k : Q (.bl (if neg then !inV x xs else inV x xs)) H) : rIn K neg x (.ref p) H Q := ⟨p, xs, rfl, .inl hs, hx, ha, k⟩
theorem r_inT {neg : Bool} {p : Addr} {xs : List V} (hs : SqT K H p xs) (hx : flatV x = true) (ha : xs.all flatV = true) (k : Q (.bl (if neg then !inV x xs else inV x xs)) H) : rIn K neg x (.ref p) H Q := ⟨p, xs, rfl, .inr hs, hx, ha, k⟩
/-- data compared -/
theorem r_eqD {d e : PyData} (h1 : Td H x d) (h2 : Td H y e) (s1 : SeqAt.shaped d = true) (s2 : SeqAt.shaped e = true) (k : Q (.bl (PyData.eqv d e)) H) : rEqD K x y H Q := ⟨d, e, Td.dp d x h1, Td.dp e y h2, s1, s2, k⟩
theorem r_neD {d e : PyData} (h1 : Td H x d) (h2 : Td H y e) (s1 : SeqAt.shaped d = true) (s2 : SeqAt.shaped e = true) (k : Q (.bl (!PyData.eqv d e)) H) : rNeD K x y H Q := ⟨d, e, Td.dp d x h1, Td.dp e y h2, s1, s2, k⟩
end
section
variable {F0 H0 F H : Hp} {L : List (Addr × HO)} {Q : VK}
/-- a new object -/
theorem r_mk {o : HO} {A : Prop} (a : A) (Z : Zs F0 H0 F H L) (k : ∀ p H', Zs F0 H0 F H' ((p, o) :: L) → Q (.ref p) H') : A ∧ NewO o H Q := ⟨a, fun p hp => k p _ (Z.alloc hp)⟩
end
end SB
/-! Loops and comprehensions over the state kit; named operators. -/
namespace SB
open PySem L2

/-! ### operators by short names -/
abbrev qAdd : R2 := rI0 fun i j => .int (i + j)
abbrev qSub : R2 := rI0 fun i j => .int (i - j)
abbrev qMul : R2 := rI CMul fun i j => .int (i * j)
abbrev qDiv : R2 := rI CDiv fun i j => .int (i / j)
abbrev qMod : R2 := rI (fun _ j => 0 < j) fun i j => .int (i % j)
abbrev qLt : R2 := rI0 fun i j => .bl (decide (i < j))
abbrev qLe : R2 := rI0 fun i j => .bl (decide (i ≤ j))
abbrev qGt : R2 := rI0 fun i j => .bl (decide (j < i))
abbrev qGe : R2 := rI0 fun i j => .bl (decide (j ≤ i))
def qIsN : R2 := fun x y H Q => y = .non ∧ Q (.bl (decide (x = .non))) H
def qNotN : R2 := fun x y H Q => y = .non ∧ Q (.bl (!decide (x = .non))) H
def qLen (K : PySem.W.Frag) : List V → Hp → VK → Prop := fun xs H Q => ∃ p ys, xs = [.ref p] ∧ (SqL K H p ys ∨ SqT K H p ys) ∧ Q (.int ys.length) H
def qListOf (K : PySem.W.Frag) : List V → Hp → VK → Prop := fun xs H Q => ∃ p ys, xs = [.ref p] ∧ (SqL K H p ys ∨ SqT K H p ys) ∧ ∀ l, H l = none → Q (.ref l) (upd H l (.lst ys))
def qInt1 : List V → Hp → VK → Prop := fun xs H Q => (∃ i, xs = [.int i] ∧ Q (.int i) H) ∨ ∃ k, xs = [.bl k] ∧ Q (.int (if k then 1 else 0)) H
section
variable {X : Cx}
theorem op_isNq : OpR X (compareOp .Is) qIsN := op_isN
theorem op_notNq : OpR X (compareOp .IsNot) qNotN := op_notN
theorem call_lenq : CallR X (.builtin "len") (qLen X.K) := call_len_seq
theorem call_listq : CallR X (.type "list") (qListOf X.K) := call_list_of
theorem call_int1q : CallR X (.type "int") qInt1 := call_int1
end
section
variable {K : PySem.W.Frag} {σ : St} {H : Hp} {Q : VK} {x v : V} {p : Addr} {ys : List V} {i : Int} {b : Bool}
theorem r_qIsN (k : Q (.bl (decide (x = .non))) H) : qIsN x .non H Q := ⟨rfl, k⟩
theorem r_qNotN (k : Q (.bl (!decide (x = .non))) H) : qNotN x .non H Q := ⟨rfl, k⟩
theorem r_qIsN_t (k : Q (.bl true) H) : qIsN .non .non H Q := ⟨rfl, k⟩
theorem r_lenL (h : SqL K H p ys) (k : Q (.int (ys.length : Int)) H) : qLen K [.ref p] H Q := ⟨p, ys, rfl, .inl h, k⟩
theorem r_lenT (h : SqT K H p ys) (k : Q (.int (ys.length : Int)) H) : qLen K [.ref p] H Q := ⟨p, ys, rfl, .inr h, k⟩
theorem r_listL {F0 H0 F : Hp} {L : List (Addr × HO)} (h : SqL K H p ys) (Z : Zs F0 H0 F H L) (k : ∀ l H', Zs F0 H0 F H' ((l, .lst ys) :: L) → Q (.ref l) H') : qListOf K [.ref p] H Q := ⟨p, ys, rfl, .inl h, fun l hl => k l _ (Z.alloc hl)⟩
theorem r_intB (k : Q (.int (if b then 1 else 0)) H) : qInt1 [.bl b] H Q := .inr ⟨b, rfl, k⟩
theorem r_intI (k : Q (.int i) H) : qInt1 [.int i] H Q := .inl ⟨i, rfl, k⟩
end

/-! ### a list's methods over the ledger -/
section
variable {K : PySem.W.Frag} {F0 H0 F H : Hp} {L : List (Addr × HO)} {Q : VK} {l b : Addr} {xs zs : List V} {y : V} {i : Nat}
theorem ty_l (h : SqL K H l xs) : tyV K "list" (.ref l) H := .inl ⟨rfl, _, h⟩
theorem r_append (i : Nat) (Z : Zs F0 H0 F H L) (h : L[i]? = some (l, .lst xs)) (hz : xs.length < 100000) (k : ∀ H', Zs F0 H0 F H' (L.set i (l, .lst (xs ++ [y]))) → Q .non H') : rAppend (.ref l) [y] H Q :=
  ⟨l, xs, y, rfl, rfl, Z.get h, sz_lt hz, k _ (Z.setAt i h)⟩
theorem r_extend (i : Nat) (Z : Zs F0 H0 F H L) (h : L[i]? = some (l, .lst xs)) (hb : H b = some (.lst zs)) (hz : xs.length + zs.length ≤ 100000) (k : ∀ H', Zs F0 H0 F H' (L.set i (l, .lst (xs ++ zs))) → Q .non H') : rExtend (.ref l) [.ref b] H Q :=
  ⟨l, b, xs, zs, rfl, rfl, Z.get h, hb, sz_of hz, k _ (Z.setAt i h)⟩
theorem r_setL (i : Nat) {j : Nat} {v : V} {c : Int} {Q : Hp → Prop} (Z : Zs F0 H0 F H L) (h : L[i]? = some (l, .lst xs)) (hc : c = (j : Int)) (hj : j < xs.length) (k : ∀ H', Zs F0 H0 F H' (L.set i (l, .lst (xs.set j v))) → Q H') : rSetL (.ref l) (.int c) v H Q := by
  subst hc
  refine ⟨l, xs, (j : Int), j, rfl, rfl, Z.get h, ?_, k _ (Z.setAt i h)⟩
  unfold ixN
  rw [if_pos (by omega), if_pos (by omega)]
  simp
theorem r_cat {a : Addr} (Z : Zs F0 H0 F H L) (ha : H a = some (.lst xs)) (hb : H b = some (.lst zs)) (hz : xs.length + zs.length ≤ 100000) (k : ∀ p H', Zs F0 H0 F H' ((p, .lst (xs ++ zs)) :: L) → Q (.ref p) H') : rCat (.ref a) (.ref b) H Q :=
  ⟨a, b, xs, zs, rfl, rfl, ha, hb, sz_of hz, fun p hp => k p _ (Z.alloc hp)⟩
theorem r_rep {a : Addr} {n : Int} (Z : Zs F0 H0 F H L) (ha : H a = some (.lst xs)) (h0 : 0 ≤ n) (h1 : n ≤ 100000) (hz : xs.length * n.toNat ≤ 100000) (k : ∀ p H', Zs F0 H0 F H' ((p, .lst (List.flatten (List.replicate n.toNat xs))) :: L) → Q (.ref p) H') : rRep (.ref a) (.int n) H Q := by
  refine ⟨a, n, xs, rfl, rfl, ha, by omega, by omega, sz_of hz, fun p hp => ?_⟩
  exact k p _ (Z.alloc hp)
theorem r_slL {a : Addr} {lo hi : Option Int} (Z : Zs F0 H0 F H L) (ha : SqL K H a xs) (k : ∀ p H', Zs F0 H0 F H' ((p, .lst (cutV xs lo hi)) :: L) → Q (.ref p) H') : rSlL K (.ref a) lo hi H Q := ⟨a, xs, rfl, ha, fun p hp => k p _ (Z.alloc hp)⟩
end

/-! ### for loops -/
/-- what a for over range(n) asks behind its argument -/
def FR1 (j : Nat) (tb : TS) (D : Ends) (σ : St) (vs : List V) (H1 : Hp) : Prop := ∃ n : Int, vs = [.int n] ∧ -(2 ^ 62) ≤ n ∧ n < 2 ^ 62 ∧ ∃ W : Nat → Nat → St → Hp → Prop, (∃ m, W 0 m σ H1) ∧ ∀ i m σ H, W i m σ H →
  ((Itr 0 n.toNat).stop i H ∧ D.nx σ H) ∨ ((Itr 0 n.toNat).go i H ∧ ∃ N : St → Hp → Prop, (∀ σ' H', N σ' H' → ∃ m', m' < m ∧ W (i + 1) m' σ' H') ∧ ∀ x H', (Itr 0 n.toNat).yld i H x H' → gName j x σ H' fun σ2 H2 => tb { D with nx := N, ct := N, bk := D.nx } σ2 H2)
def FR2 (j : Nat) (tb : TS) (D : Ends) (σ : St) (vs : List V) (H1 : Hp) : Prop := ∃ lo n : Int, vs = [.int lo, .int n] ∧ (-(2 ^ 62) ≤ lo ∧ lo < 2 ^ 62 ∧ -(2 ^ 62) ≤ n ∧ n < 2 ^ 62) ∧ ∃ W : Nat → Nat → St → Hp → Prop, (∃ m, W 0 m σ H1) ∧ ∀ i m σ H, W i m σ H →
  ((Itr lo (n - lo).toNat).stop i H ∧ D.nx σ H) ∨ ((Itr lo (n - lo).toNat).go i H ∧ ∃ N : St → Hp → Prop, (∀ σ' H', N σ' H' → ∃ m', m' < m ∧ W (i + 1) m' σ' H') ∧ ∀ x H', (Itr lo (n - lo).toNat).yld i H x H' → gName j x σ H' fun σ2 H2 => tb { D with nx := N, ct := N, bk := D.nx } σ2 H2)
/-- .. a for over a list -/
def FRL (K : PySem.W.Frag) (g : TG) (tb : TS) (D : Ends) (σ : St) (x : V) (H1 : Hp) : Prop := ∃ a, x = .ref a ∧ (∃ xs, SqL K H1 a xs) ∧ ∃ W : Nat → Nat → St → Hp → Prop, (∃ m, W 0 m σ H1) ∧ ∀ i m σ H, W i m σ H →
  ((Itl K a).stop i H ∧ D.nx σ H) ∨ ((Itl K a).go i H ∧ ∃ N : St → Hp → Prop, (∀ σ' H', N σ' H' → ∃ m', m' < m ∧ W (i + 1) m' σ' H') ∧ ∀ x H', (Itl K a).yld i H x H' → g x σ H' fun σ2 H2 => tb { D with nx := N, ct := N, bk := D.nx } σ2 H2)
/-- .. a for over a tuple -/
def FRT (K : PySem.W.Frag) (g : TG) (tb : TS) (D : Ends) (σ : St) (x : V) (H1 : Hp) : Prop := ∃ a, x = .ref a ∧ (∃ xs, SqT K H1 a xs) ∧ ∃ W : Nat → Nat → St → Hp → Prop, (∃ m, W 0 m σ H1) ∧ ∀ i m σ H, W i m σ H →
  ((Itt K a).stop i H ∧ D.nx σ H) ∨ ((Itt K a).go i H ∧ ∃ N : St → Hp → Prop, (∀ σ' H', N σ' H' → ∃ m', m' < m ∧ W (i + 1) m' σ' H') ∧ ∀ x H', (Itt K a).yld i H x H' → g x σ H' fun σ2 H2 => tb { D with nx := N, ct := N, bk := D.nx } σ2 H2)
/-- .. a for over enumerate(list) -/
def FRE (K : PySem.W.Frag) (g : TG) (tb : TS) (D : Ends) (σ : St) (vs : List V) (H1 : Hp) : Prop := ∃ a xs, vs = [.ref a] ∧ SqL K H1 a xs ∧ ∃ W : Nat → Nat → St → Hp → Prop, (∃ m, W 0 m σ H1) ∧ ∀ i m σ H, W i m σ H →
  ((Ite K a).stop i H ∧ D.nx σ H) ∨ ((Ite K a).go i H ∧ ∃ N : St → Hp → Prop, (∀ σ' H', N σ' H' → ∃ m', m' < m ∧ W (i + 1) m' σ' H') ∧ ∀ x H', (Ite K a).yld i H x H' → g x σ H' fun σ2 H2 => tb { D with nx := N, ct := N, bk := D.nx } σ2 H2)
section
variable {K : PySem.W.Frag} {σ : St} {H : Hp} {Q : VK} {D : Ends} {ta : TA} {te : TE} {tb : TS} {j : Nat} {g : TG} {a : Addr} {xs : List V}
theorem r_forR1 (h : ta σ H (FR1 j tb D σ)) : tFor (iRng1 ta) (gName j) tb D σ H := h
theorem r_forR2 (h : ta σ H (FR2 j tb D σ)) : tFor (iRng2 ta) (gName j) tb D σ H := h
theorem r_forL (h : te σ H (FRL K g tb D σ)) : tFor (iList K te) g tb D σ H := h
theorem r_forT (h : te σ H (FRT K g tb D σ)) : tFor (iTup K te) g tb D σ H := h
theorem r_forE (h : ta σ H (FRE K g tb D σ)) : tFor (iEnum K ta) g tb D σ H := h
theorem r_rng1 {n : Int} (hn : 0 ≤ n ∧ n ≤ 100000) (Pv : Nat → St → Hp → Prop) (h0 : Pv 0 σ H)
    (hs : ∀ (i : Nat) σ' H', (i : Int) < n → Pv i σ' H' → tb { D with nx := Pv (i + 1), ct := Pv (i + 1), bk := D.nx } (σ'.set j (some (.int (i : Int)))) H')
    (hd : ∀ σ' H', Pv n.toNat σ' H' → D.nx σ' H') : FR1 j tb D σ [.int n] H :=
  ⟨n, rfl, by omega, by omega, for_range (lo := 0) (n := n.toNat) Pv h0 (fun i σ' H' hi p => by
    have e0 : (0 : Int) + (i : Int) = (i : Int) := Int.zero_add _
    show tb { D with nx := Pv (i + 1), ct := Pv (i + 1), bk := D.nx } (σ'.set j (some (.int ((0 : Int) + (i : Int))))) H'
    rw [e0]
    exact hs i σ' H' (by omega) p) hd⟩
theorem r_rng2 {lo n : Int} (hn : 0 ≤ lo ∧ lo ≤ 100000 ∧ -100000 ≤ n ∧ n ≤ 100000) (Pv : Nat → St → Hp → Prop) (h0 : Pv 0 σ H)
    (hs : ∀ (i : Nat) σ' H', lo + (i : Int) < n → Pv i σ' H' → tb { D with nx := Pv (i + 1), ct := Pv (i + 1), bk := D.nx } (σ'.set j (some (.int (lo + (i : Int))))) H')
    (hd : ∀ σ' H', Pv (n - lo).toNat σ' H' → D.nx σ' H') : FR2 j tb D σ [.int lo, .int n] H :=
  ⟨lo, n, rfl, ⟨by omega, by omega, by omega, by omega⟩, for_range (lo := lo) (n := (n - lo).toNat) Pv h0 (fun i σ' H' hi p => hs i σ' H' (by omega) p) hd⟩
theorem r_lstI (hx : SqL K H a xs) (Pv : Nat → St → Hp → Prop) (h0 : Pv 0 σ H) (hl : ∀ i σ' H', i ≤ xs.length → Pv i σ' H' → SqL K H' a xs)
    (hs : ∀ i x σ' H', xs[i]? = some x → Pv i σ' H' → g x σ' H' fun σ2 H2 => tb { D with nx := Pv (i + 1), ct := Pv (i + 1), bk := D.nx } σ2 H2)
    (hd : ∀ σ' H', Pv xs.length σ' H' → D.nx σ' H') : FRL K g tb D σ (.ref a) H := ⟨a, rfl, ⟨xs, hx⟩, for_list Pv h0 hl hs hd⟩
theorem r_tupI (hx : SqT K H a xs) (Pv : Nat → St → Hp → Prop) (h0 : Pv 0 σ H) (hl : ∀ i σ' H', i ≤ xs.length → Pv i σ' H' → SqT K H' a xs)
    (hs : ∀ i x σ' H', xs[i]? = some x → Pv i σ' H' → g x σ' H' fun σ2 H2 => tb { D with nx := Pv (i + 1), ct := Pv (i + 1), bk := D.nx } σ2 H2)
    (hd : ∀ σ' H', Pv xs.length σ' H' → D.nx σ' H') : FRT K g tb D σ (.ref a) H := ⟨a, rfl, ⟨xs, hx⟩, for_tup Pv h0 hl hs hd⟩
theorem r_enumI (hx : SqL K H a xs) (Pv : Nat → St → Hp → Prop) (h0 : Pv 0 σ H) (hl : ∀ i σ' H', i ≤ xs.length → Pv i σ' H' → SqL K H' a xs)
    (hs : ∀ i x T σ' H', xs[i]? = some x → Pv i σ' H' → H' T = none → g (.ref T) σ' (upd H' T (.tup [.int (i : Nat), x])) fun σ2 H2 => tb { D with nx := Pv (i + 1), ct := Pv (i + 1), bk := D.nx } σ2 H2)
    (hd : ∀ σ' H', Pv xs.length σ' H' → D.nx σ' H') : FRE K g tb D σ [.ref a] H := by
  refine ⟨a, xs, rfl, hx, fun i m σ H => m = xs.length - i ∧ i ≤ xs.length ∧ Pv i σ H, ⟨xs.length, by simp, Nat.zero_le _, h0⟩, ?_⟩
  rintro i m σ H ⟨rfl, hi, p⟩
  have q := hl i σ H hi p
  by_cases hlt : i < xs.length
  · refine .inr ⟨⟨xs, xs[i], q, by simp [hlt]⟩, Pv (i + 1), fun σ' H' p' => ⟨xs.length - (i + 1), by omega, rfl, hlt, p'⟩, fun x H' y => ?_⟩
    obtain ⟨T, x', rfl, hT, rfl, hx'⟩ := y
    exact hs i x' T σ H (hx' xs q) p hT
  · have e : i = xs.length := by omega
    subst e
    exact .inl ⟨⟨xs, q, Nat.le_refl _⟩, hd σ H p⟩
/-- a while: W falls -/
theorem r_while {tc : TT} (W : Nat → St → Hp → Prop) (m0 : Nat) (h0 : W m0 σ H)
    (hs : ∀ m σ' H', W m σ' H' → tc σ' H' fun b H1 => if b = true then ∃ N : St → Hp → Prop, (∀ σ2 H2, N σ2 H2 → ∃ m', m' < m ∧ W m' σ2 H2) ∧ tb { D with nx := N, ct := N, bk := D.nx } σ' H1 else D.nx σ' H1) : tWhile tc tb D σ H := ⟨W, ⟨m0, h0⟩, hs⟩
end

/-! ### comprehensions -/
def LR1 (j : Nat) (tt : TT) (te : TE) (vs : List Nat) (σ : St) (Q : VK) (us : List V) (H1 : Hp) : Prop := ∃ n : Int, us = [.int n] ∧ -(2 ^ 62) ≤ n ∧ n < 2 ^ 62 ∧ ∀ D, H1 D = none → ∃ W : Nat → Nat → Hp → Prop, (∃ m, W 0 m (upd H1 D (.lst []))) ∧ ∀ i m H, W i m H →
  ((Itr 0 n.toNat).stop i H ∧ Q (.ref D) H) ∨ ((Itr 0 n.toNat).go i H ∧ ∃ Nx : Hp → Prop, (∀ H', Nx H' → ∃ m', m' < m ∧ W (i + 1) m' H') ∧ ∀ x H', (Itr 0 n.toNat).yld i H x H' → gName j x (wipe σ vs) H' fun σ2 H2 => wipe σ2 vs = wipe σ vs ∧ tt σ2 H2 fun b H3 =>
    if b = true then te σ2 H3 fun y H4 => ∃ acc, H4 D = some (.lst acc) ∧ acc.length < sizeLine ∧ Nx (upd H4 D (.lst (acc ++ [y]))) else Nx H3)
def LRL (K : PySem.W.Frag) (g : TG) (tt : TT) (te : TE) (vs : List Nat) (σ : St) (Q : VK) (x : V) (H1 : Hp) : Prop := ∃ a, x = .ref a ∧ (∃ xs, SqL K H1 a xs) ∧ ∀ D, H1 D = none → ∃ W : Nat → Nat → Hp → Prop, (∃ m, W 0 m (upd H1 D (.lst []))) ∧ ∀ i m H, W i m H →
  ((Itl K a).stop i H ∧ Q (.ref D) H) ∨ ((Itl K a).go i H ∧ ∃ Nx : Hp → Prop, (∀ H', Nx H' → ∃ m', m' < m ∧ W (i + 1) m' H') ∧ ∀ x H', (Itl K a).yld i H x H' → g x (wipe σ vs) H' fun σ2 H2 => wipe σ2 vs = wipe σ vs ∧ tt σ2 H2 fun b H3 =>
    if b = true then te σ2 H3 fun y H4 => ∃ acc, H4 D = some (.lst acc) ∧ acc.length < sizeLine ∧ Nx (upd H4 D (.lst (acc ++ [y]))) else Nx H3)
def LRT (K : PySem.W.Frag) (g : TG) (tt : TT) (te : TE) (vs : List Nat) (σ : St) (Q : VK) (x : V) (H1 : Hp) : Prop := ∃ a, x = .ref a ∧ (∃ xs, SqT K H1 a xs) ∧ ∀ D, H1 D = none → ∃ W : Nat → Nat → Hp → Prop, (∃ m, W 0 m (upd H1 D (.lst []))) ∧ ∀ i m H, W i m H →
  ((Itt K a).stop i H ∧ Q (.ref D) H) ∨ ((Itt K a).go i H ∧ ∃ Nx : Hp → Prop, (∀ H', Nx H' → ∃ m', m' < m ∧ W (i + 1) m' H') ∧ ∀ x H', (Itt K a).yld i H x H' → g x (wipe σ vs) H' fun σ2 H2 => wipe σ2 vs = wipe σ vs ∧ tt σ2 H2 fun b H3 =>
    if b = true then te σ2 H3 fun y H4 => ∃ acc, H4 D = some (.lst acc) ∧ acc.length < sizeLine ∧ Nx (upd H4 D (.lst (acc ++ [y]))) else Nx H3)
def LRE (K : PySem.W.Frag) (g : TG) (tt : TT) (te : TE) (vs : List Nat) (σ : St) (Q : VK) (us : List V) (H1 : Hp) : Prop := ∃ a xs, us = [.ref a] ∧ SqL K H1 a xs ∧ ∀ D, H1 D = none → ∃ W : Nat → Nat → Hp → Prop, (∃ m, W 0 m (upd H1 D (.lst []))) ∧ ∀ i m H, W i m H →
  ((Ite K a).stop i H ∧ Q (.ref D) H) ∨ ((Ite K a).go i H ∧ ∃ Nx : Hp → Prop, (∀ H', Nx H' → ∃ m', m' < m ∧ W (i + 1) m' H') ∧ ∀ x H', (Ite K a).yld i H x H' → g x (wipe σ vs) H' fun σ2 H2 => wipe σ2 vs = wipe σ vs ∧ tt σ2 H2 fun b H3 =>
    if b = true then te σ2 H3 fun y H4 => ∃ acc, H4 D = some (.lst acc) ∧ acc.length < sizeLine ∧ Nx (upd H4 D (.lst (acc ++ [y]))) else Nx H3)
/-- what stands between the turns: the list made so far at Dl, the frozen part F', the ledger L -/
def CW (F0 H0 F : Hp) (L : List (Addr × HO)) (P : Nat → List V → Hp → Prop) (Dl : Addr) (i : Nat) (H' : Hp) : Prop := ∃ F' acc, Zs F0 H0 F' H' ((Dl, .lst acc) :: L) ∧ Same F F' ∧ acc.length ≤ i ∧ P i acc F'
/-- what the element's value is wanted for -/
def CY (F0 H0 F : Hp) (L : List (Addr × HO)) (P : Nat → List V → Hp → Prop) (Dl : Addr) (i : Nat) (y : V) (H4 : Hp) : Prop := ∃ acc, H4 Dl = some (.lst acc) ∧ acc.length < sizeLine ∧ CW F0 H0 F L P Dl (i + 1) (upd H4 Dl (.lst (acc ++ [y])))
section
variable {K : PySem.W.Frag} {σ : St} {F0 H0 F H : Hp} {L : List (Addr × HO)} {Q : VK} {ta : TA} {te tl : TE} {tt : TT} {vs : List Nat} {j : Nat} {g : TG} {a : Addr} {xs : List V} {P : Nat → List V → Hp → Prop}
theorem r_lcR1 (h : ta σ H (LR1 j tt te vs σ Q)) : tLc (iRng1 ta) (gName j) tt te vs σ H Q := h
theorem r_lcL (h : tl σ H (LRL K g tt te vs σ Q)) : tLc (iList K tl) g tt te vs σ H Q := h
theorem r_lcT (h : tl σ H (LRT K g tt te vs σ Q)) : tLc (iTup K tl) g tt te vs σ H Q := h
theorem r_lcE (h : ta σ H (LRE K g tt te vs σ Q)) : tLc (iEnum K ta) g tt te vs σ H Q := h
theorem cy {Dl : Addr} {i : Nat} {y : V} {F4 H4 : Hp} {acc : List V} (Z : Zs F0 H0 F4 H4 ((Dl, .lst acc) :: L)) (s : Same F F4) (hl : acc.length ≤ i) (hi : i < 100000) (p : P (i + 1) (acc ++ [y]) F4) : CY F0 H0 F L P Dl i y H4 :=
  ⟨acc, Z.get (i := 0) rfl, sz_lt (by omega), F4, acc ++ [y], Z.setAt 0 rfl, s, by rw [List.length_append, List.length_singleton]; omega, p⟩
theorem cn {Dl : Addr} {i : Nat} {F4 H4 : Hp} {acc : List V} (Z : Zs F0 H0 F4 H4 ((Dl, .lst acc) :: L)) (s : Same F F4) (hl : acc.length ≤ i) (p : P (i + 1) acc F4) : CW F0 H0 F L P Dl (i + 1) H4 := ⟨F4, acc, Z, s, by omega, p⟩
theorem lc_rng {n : Int} (hn : 0 ≤ n ∧ n ≤ 100000) (Z : Zs F0 H0 F H L) (P : Nat → List V → Hp → Prop) (hw : ∀ x, wipe ((wipe σ vs).set j (some x)) vs = wipe σ vs) (h0 : P 0 [] F)
    (hs : ∀ (i : Nat) Dl F' H' acc, (i : Int) < n → Zs F0 H0 F' H' ((Dl, .lst acc) :: L) → Same F F' → acc.length ≤ i → P i acc F' →
      tt ((wipe σ vs).set j (some (.int (i : Int)))) H' fun b H3 => if b = true then te ((wipe σ vs).set j (some (.int (i : Int)))) H3 (CY F0 H0 F L P Dl i) else CW F0 H0 F L P Dl (i + 1) H3)
    (hd : ∀ Dl F' H' acc, Zs F0 H0 F' H' ((Dl, .lst acc) :: L) → Same F F' → P n.toNat acc F' → Q (.ref Dl) H') : LR1 j tt te vs σ Q [.int n] H :=
  ⟨n, rfl, by omega, by omega, fun Dl hD => lc_range (lo := 0) (n := n.toNat) (CW F0 H0 F L P Dl) ⟨F, [], Z.alloc hD, Same.refl _, Nat.le_refl _, h0⟩ (fun i H' hi p => by
    obtain ⟨F', acc, Z', s', hl, p'⟩ := p
    have e0 : (0 : Int) + (i : Int) = (i : Int) := Int.zero_add _
    show wipe ((wipe σ vs).set j (some (.int ((0 : Int) + (i : Int))))) vs = wipe σ vs ∧ tt ((wipe σ vs).set j (some (.int ((0 : Int) + (i : Int))))) H' fun b H3 => if b = true then te ((wipe σ vs).set j (some (.int ((0 : Int) + (i : Int))))) H3 (CY F0 H0 F L P Dl i) else CW F0 H0 F L P Dl (i + 1) H3
    rw [e0]
    exact ⟨hw _, hs i Dl F' H' acc (by omega) Z' s' hl p'⟩) (fun H' p => by
    obtain ⟨F', acc, Z', s', hl, p'⟩ := p
    exact hd Dl F' H' acc Z' s' p')⟩
theorem lc_lst (hx : SqL K H a xs) (Z : Zs F0 H0 F H L) (P : Nat → List V → Hp → Prop) (h0 : P 0 [] F) (hsrc : ∀ F' H', Zs F0 H0 F' H' L → Same F F' → SqL K H' a xs)
    (hs : ∀ (i : Nat) x Dl F' H' acc, xs[i]? = some x → Zs F0 H0 F' H' ((Dl, .lst acc) :: L) → Same F F' → acc.length ≤ i → P i acc F' →
      g x (wipe σ vs) H' fun σ2 H2 => wipe σ2 vs = wipe σ vs ∧ tt σ2 H2 fun b H3 => if b = true then te σ2 H3 (CY F0 H0 F L P Dl i) else CW F0 H0 F L P Dl (i + 1) H3)
    (hd : ∀ Dl F' H' acc, Zs F0 H0 F' H' ((Dl, .lst acc) :: L) → Same F F' → P xs.length acc F' → Q (.ref Dl) H') : LRL K g tt te vs σ Q (.ref a) H :=
  ⟨a, rfl, ⟨xs, hx⟩, fun Dl hD => lc_list (xs := xs) (CW F0 H0 F L P Dl) ⟨F, [], Z.alloc hD, Same.refl _, Nat.le_refl _, h0⟩ (fun i H' hi p => by
    obtain ⟨F', acc, Z', s', hl, p'⟩ := p
    exact hsrc F' H' Z'.drop s') (fun i x H' hi p => by
    obtain ⟨F', acc, Z', s', hl, p'⟩ := p
    exact hs i x Dl F' H' acc hi Z' s' hl p') (fun H' p => by
    obtain ⟨F', acc, Z', s', hl, p'⟩ := p
    exact hd Dl F' H' acc Z' s' p')⟩
theorem lc_tpl (hx : SqT K H a xs) (Z : Zs F0 H0 F H L) (P : Nat → List V → Hp → Prop) (h0 : P 0 [] F) (hsrc : ∀ F' H', Zs F0 H0 F' H' L → Same F F' → SqT K H' a xs)
    (hs : ∀ (i : Nat) x Dl F' H' acc, xs[i]? = some x → Zs F0 H0 F' H' ((Dl, .lst acc) :: L) → Same F F' → acc.length ≤ i → P i acc F' →
      g x (wipe σ vs) H' fun σ2 H2 => wipe σ2 vs = wipe σ vs ∧ tt σ2 H2 fun b H3 => if b = true then te σ2 H3 (CY F0 H0 F L P Dl i) else CW F0 H0 F L P Dl (i + 1) H3)
    (hd : ∀ Dl F' H' acc, Zs F0 H0 F' H' ((Dl, .lst acc) :: L) → Same F F' → P xs.length acc F' → Q (.ref Dl) H') : LRT K g tt te vs σ Q (.ref a) H :=
  ⟨a, rfl, ⟨xs, hx⟩, fun Dl hD => lc_tup (xs := xs) (CW F0 H0 F L P Dl) ⟨F, [], Z.alloc hD, Same.refl _, Nat.le_refl _, h0⟩ (fun i H' hi p => by
    obtain ⟨F', acc, Z', s', hl, p'⟩ := p
    exact hsrc F' H' Z'.drop s') (fun i x H' hi p => by
    obtain ⟨F', acc, Z', s', hl, p'⟩ := p
    exact hs i x Dl F' H' acc hi Z' s' hl p') (fun H' p => by
    obtain ⟨F', acc, Z', s', hl, p'⟩ := p
    exact hd Dl F' H' acc Z' s' p')⟩
theorem lc_enm (hx : SqL K H a xs) (Z : Zs F0 H0 F H L) (P : Nat → List V → Hp → Prop) (h0 : P 0 [] F) (hsrc : ∀ F' H', Zs F0 H0 F' H' L → Same F F' → SqL K H' a xs)
    (hs : ∀ (i : Nat) x T Dl F' H' acc, xs[i]? = some x → Zs F0 H0 F' H' ((T, .tup [.int (i : Nat), x]) :: (Dl, .lst acc) :: L) → Same F F' → acc.length ≤ i → P i acc F' →
      g (.ref T) (wipe σ vs) H' fun σ2 H2 => wipe σ2 vs = wipe σ vs ∧ tt σ2 H2 fun b H3 => if b = true then te σ2 H3 (CY F0 H0 F L P Dl i) else CW F0 H0 F L P Dl (i + 1) H3)
    (hd : ∀ Dl F' H' acc, Zs F0 H0 F' H' ((Dl, .lst acc) :: L) → Same F F' → P xs.length acc F' → Q (.ref Dl) H') : LRE K g tt te vs σ Q [.ref a] H := by
  refine ⟨a, xs, rfl, hx, fun Dl hD => ⟨fun i m H => m = xs.length - i ∧ i ≤ xs.length ∧ CW F0 H0 F L P Dl i H, ⟨xs.length, rfl, Nat.zero_le _, F, [], Z.alloc hD, Same.refl _, Nat.le_refl _, h0⟩, ?_⟩⟩
  rintro i m H' ⟨rfl, hi, p⟩
  obtain ⟨F', acc, Z', s', hl, p'⟩ := p
  have q := hsrc F' H' Z'.drop s'
  by_cases hlt : i < xs.length
  · refine .inr ⟨⟨xs, xs[i], q, by simp [hlt]⟩, CW F0 H0 F L P Dl (i + 1), fun H'' p'' => ⟨xs.length - (i + 1), by omega, rfl, hlt, p''⟩, fun x H'' y => ?_⟩
    obtain ⟨T, x', rfl, hT, rfl, hx'⟩ := y
    exact hs i x' T Dl F' _ acc (hx' xs q) (Z'.alloc hT) s' hl p'
  · have e : i = xs.length := by omega
    subst e
    exact .inl ⟨⟨xs, q, Nat.le_refl _⟩, hd Dl F' H' acc Z' s' p'⟩
end
end SB
/-! Promises by the number of arguments; more readings; a result that is data. -/
namespace SB
open PySem L2
def sp1 (f : V → Hp → VK → XK → Prop) : Sp := fun vs H Q E => ∃ a, vs = [a] ∧ f a H Q E
def sp2 (f : V → V → Hp → VK → XK → Prop) : Sp := fun vs H Q E => ∃ a b, vs = [a, b] ∧ f a b H Q E
def sp3 (f : V → V → V → Hp → VK → XK → Prop) : Sp := fun vs H Q E => ∃ a b c, vs = [a, b, c] ∧ f a b c H Q E
def sp4 (f : V → V → V → V → Hp → VK → XK → Prop) : Sp := fun vs H Q E => ∃ a b c d, vs = [a, b, c, d] ∧ f a b c d H Q E
def sp5 (f : V → V → V → V → V → Hp → VK → XK → Prop) : Sp := fun vs H Q E => ∃ a b c d e, vs = [a, b, c, d, e] ∧ f a b c d e H Q E
def sp6 (f : V → V → V → V → V → V → Hp → VK → XK → Prop) : Sp := fun vs H Q E => ∃ a b c d e g, vs = [a, b, c, d, e, g] ∧ f a b c d e g H Q E
section
variable {K : PySem.W.Frag} {σ : St} {H : Hp} {Q : VK} {D : Ends} {ta tb tc : TE} {v x y a b c d : V} {E : XK}
theorem r_sp1 {f : V → Hp → VK → XK → Prop} (h : f a H Q E) : sp1 f ([a] ++ []) H Q E := ⟨a, rfl, h⟩
theorem r_sp2 {f : V → V → Hp → VK → XK → Prop} (h : f a b H Q E) : sp2 f ([a, b] ++ []) H Q E := ⟨a, b, rfl, h⟩
theorem r_sp3 {f : V → V → V → Hp → VK → XK → Prop} (h : f a b c H Q E) : sp3 f ([a, b, c] ++ []) H Q E := ⟨a, b, c, rfl, h⟩
theorem r_sp4 {f : V → V → V → V → Hp → VK → XK → Prop} (h : f a b c d H Q E) : sp4 f ([a, b, c, d] ++ []) H Q E := ⟨a, b, c, d, rfl, h⟩
theorem r_sp5 {f : V → V → V → V → V → Hp → VK → XK → Prop} {e : V} (h : f a b c d e H Q E) : sp5 f ([a, b, c, d, e] ++ []) H Q E := ⟨a, b, c, d, e, rfl, h⟩
theorem r_sp6 {f : V → V → V → V → V → V → Hp → VK → XK → Prop} {e g : V} (h : f a b c d e g H Q E) : sp6 f ([a, b, c, d, e, g] ++ []) H Q E := ⟨a, b, c, d, e, g, rfl, h⟩
theorem r_sp1m {f : V → Hp → VK → XK → Prop} (h : f a H Q E) : sp1 f (a :: ([] ++ [])) H Q E := ⟨a, rfl, h⟩
theorem r_sp2m {f : V → V → Hp → VK → XK → Prop} (h : f a b H Q E) : sp2 f (a :: ([b] ++ [])) H Q E := ⟨a, b, rfl, h⟩
theorem r_sp3m {f : V → V → V → Hp → VK → XK → Prop} (h : f a b c H Q E) : sp3 f (a :: ([b, c] ++ [])) H Q E := ⟨a, b, c, rfl, h⟩
theorem r_sp4m {f : V → V → V → V → Hp → VK → XK → Prop} (h : f a b c d H Q E) : sp4 f (a :: ([b, c, d] ++ [])) H Q E := ⟨a, b, c, d, rfl, h⟩
theorem r_cut {t u : TS} (Mid : St → Hp → Prop) (h : t { D with nx := Mid } σ H) (k : ∀ σ' H', Mid σ' H' → u D σ' H') : Evl.tCut t u D σ H := ⟨Mid, h, k⟩
theorem r_chain {r r' : R2} (h : ta σ H fun x H1 => tb σ H1 fun y H2 => r x y H2 fun z H3 => ∃ k, z = .bl k ∧ (if k = true then tc σ H3 fun w' H4 => r' y w' H4 Q else Q (.bl false) H3)) : tChain r r' ta tb tc σ H Q := h
theorem r_sl {r : V → Option Int → Option Int → Hp → VK → Prop} {tl th : TO} (h : ta σ H fun x H1 => tl σ H1 fun l H2 => th σ H2 fun u H3 => r x l u H3 Q) : tSl r ta tl th σ H Q := h
theorem r_nopart {Q : Option Int → Hp → Prop} (h : Q none H) : tNoPart σ H Q := h
theorem r_part {Q : Option Int → Hp → Prop} (h : ta σ H fun x H1 => ∃ i, x = .int i ∧ Q (some i) H1) : tPart ta σ H Q := h
theorem r_some {n : Int} {P : Int → Prop} (k : P n) : ∃ i, V.int n = V.int i ∧ P i := ⟨n, rfl, k⟩
theorem r_gsub {t : TSet} {Q : St → Hp → Prop} (h : ta σ H fun o H1 => tb σ H1 fun i H2 => t o i v H2 fun H3 => Q σ H3) : gSub ta tb t v σ H Q := h
end
/-- a def's value that is data: it lies in a frozen part F' that begins as F -/
def Ret (F H : Hp) (Q : VK) (d : PyData) : Prop := ∀ F' H' v, Zs F H F' H' [] → Td F' v d → Q v H'

/-! ### data compared -/
theorem eqv_refl {d : PyData} (h : SeqAt.shaped d = true) : PyData.eqv d d = true := SeqAt.eqv_refl d (SeqAt.canLay_of_shaped h)
theorem shaped_of {d : PyData} (h1 : d.canLay0 = true) (h2 : d.depth ≤ 64) : SeqAt.shaped d = true := by
  show (d.canLay0 && decide (d.depth ≤ 64)) = true
  rw [h1, decide_eq_true h2] <;> rfl
theorem lay_map {α : Type} {f : α → PyData} (h : ∀ a, (f a).canLay0 = true) : ∀ l : List α, PyData.canLayAll0 (l.map f) = true
  | [] => rfl
  | a :: l => by
    show ((f a).canLay0 && PyData.canLayAll0 (l.map f)) = true
    rw [h a, lay_map h l] <;> rfl
theorem dep_map {α : Type} {f : α → PyData} {n : Nat} (h : ∀ a, (f a).depth ≤ n) : ∀ l : List α, PyData.depthAll (l.map f) ≤ n
  | [] => Nat.zero_le _
  | a :: l => by
    show max (f a).depth (PyData.depthAll (l.map f)) ≤ n
    have h1 := h a
    have h2 := dep_map h l
    omega
theorem shaped_map {α : Type} {f : α → PyData} {n : Nat} (hn : n ≤ 60) (h : ∀ a, (f a).canLay0 = true) (h2 : ∀ a, (f a).depth ≤ n) (l : List α) : SeqAt.shaped (.list (l.map f)) = true :=
  shaped_of (lay_map h l) (by have := dep_map h2 l; show PyData.depthAll (l.map f) + 1 ≤ 64; omega)
theorem shaped_ints (l : List Int) : SeqAt.shaped (.list (l.map PyData.int)) = true := shaped_map (n := 0) (by decide) (fun _ => rfl) (fun _ => Nat.le_refl _) l
theorem eqvAll_ints : ∀ l m : List Int, PyData.eqvAll (l.map PyData.int) (m.map PyData.int) = decide (l = m)
  | [], [] => rfl
  | [], _ :: _ => rfl
  | _ :: _, [] => rfl
  | a :: l, b :: m => by
    show ((a == b) && PyData.eqvAll (l.map PyData.int) (m.map PyData.int)) = _
    rw [eqvAll_ints l m]
    by_cases h : a = b
    · subst h
      by_cases h2 : l = m
      · subst h2; simp
      · rw [decide_eq_false h2, decide_eq_false (fun q => h2 (List.cons.inj q).2), Bool.and_false]
    · rw [decide_eq_false (fun q => h (List.cons.inj q).1), beq_eq_false_iff_ne.mpr h, Bool.false_and]
theorem eqv_ints (l m : List Int) : PyData.eqv (.list (l.map PyData.int)) (.list (m.map PyData.int)) = decide (l = m) := eqvAll_ints l m
theorem inV_int {x : Int} : ∀ l : List Int, inV (.int x) (l.map V.int) = decide (x ∈ l)
  | [] => rfl
  | a :: l => by
    have ih := inV_int (x := x) l
    unfold inV at ih ⊢
    rw [List.map_cons, List.any_cons, ih]
    show ((a == x) || decide (x ∈ l)) = _
    by_cases h : a = x
    · subst h; simp
    · rw [beq_eq_false_iff_ne.mpr h, Bool.false_or]
      by_cases h2 : x ∈ l
      · rw [decide_eq_true h2, decide_eq_true (List.mem_cons_of_mem _ h2)]
      · rw [decide_eq_false h2, decide_eq_false (fun q => by rcases List.mem_cons.mp q with e | e; exact h e.symm; exact h2 e)]
theorem flat_ints (l : List Int) : (l.map V.int).all flatV = true := by
  rw [List.all_eq_true]
  intro v hv
  obtain ⟨a, _, rfl⟩ := List.mem_map.mp hv
  rfl
theorem get_ints {l : List Int} {i : Nat} (h : i < l.length) : (l.map V.int)[i]? = some (.int l[i]) := by
  rw [List.getElem?_map, List.getElem?_eq_getElem h] <;> rfl
theorem of_get_ints {l : List Int} {i : Nat} {x : V} (h : (l.map V.int)[i]? = some x) : ∃ n, l[i]? = some n ∧ x = .int n := by
  rw [List.getElem?_map] at h
  cases e : l[i]? with
  | none => rw [e] at h; cases h
  | some n => rw [e] at h; exact ⟨n, rfl, (Option.some.inj h).symm⟩
theorem take_snoc {α : Type} {l : List α} {i : Nat} {a : α} (h : l[i]? = some a) : l.take (i + 1) = l.take i ++ [a] := by
  rw [List.take_add_one, h] <;> rfl

/-! ### addresses that the top has laid -/
structure Ad where
  words : Addr
  cHand : Addr
  cNet : Addr
  cBellError : Addr
  cBadWaits : Addr
  cNoHand : Addr
  cNoLetter : Addr

/-! ### the script and its cells -/
def cellAt (ns : List Int) (k : Int) : Int := ns.getD k.toNat 0
theorem cellAt_lt {ns : List Int} {k : Int} (h0 : 0 ≤ k) (h : k < ns.length) : (ns.map V.int)[k.toNat]? = some (.int (cellAt ns k)) := by
  have hl : k.toNat < ns.length := by omega
  rw [get_ints hl]
  unfold cellAt
  rw [List.getD_eq_getElem?_getD, List.getElem?_eq_getElem hl] <;> rfl
theorem cellAt_ge {ns : List Int} {k : Int} (h : ¬ k < ns.length) : cellAt ns k = 0 := by
  unfold cellAt
  rw [List.getD_eq_getElem?_getD, List.getElem?_eq_none (by omega)] <;> rfl

/-! ### waits -/
/-- a wait: none, or whether it is for any, and whom it is for -/
abbrev Wt := Option (Bool × List Int)
def wd (b : Bool) : Str := if b then "any" else "all"
theorem wd_t : wd true = "any" := rfl
theorem wd_f : wd false = "all" := rfl
theorem wd_any (b : Bool) : decide (wd b = ("any" : Str)) = b := by cases b <;> decide +kernel
theorem wd_all (b : Bool) : decide (wd b = ("all" : Str)) = !b := by cases b <;> decide +kernel
def dW : Wt → PyData
  | none => .none
  | some (b, os) => .tuple [.str (wd b), .list (os.map PyData.int)]
def dWs (ws : List Wt) : PyData := .list (ws.map dW)
def okW (n : Nat) : Wt → Prop
  | none => True
  | some (_, os) => os ≠ [] ∧ os.Nodup ∧ ∀ o ∈ os, 0 ≤ o ∧ o < n
structure OkWs (ws : List Wt) : Prop where
  pos : 1 ≤ ws.length
  most : ws.length ≤ 40
  all : ∀ w ∈ ws, okW ws.length w
theorem dW_lay : ∀ w : Wt, (dW w).canLay0 = true
  | none => rfl
  | some (b, os) => by
    show (PyData.canLay0 (.str (wd b)) && (PyData.canLayAll0 (os.map PyData.int) && true)) = true
    rw [lay_map (fun _ => rfl) os]
    cases b <;> decide +kernel
theorem dW_dep : ∀ w : Wt, (dW w).depth ≤ 2
  | none => Nat.zero_le _
  | some (b, os) => by
    have h : PyData.depthAll (os.map PyData.int) ≤ 0 := dep_map (f := PyData.int) (n := 0) (fun _ => Nat.le_refl 0) os
    show max 0 (max (PyData.depthAll (os.map PyData.int) + 1) 0) + 1 ≤ 2
    omega
theorem dWs_shaped (ws : List Wt) : SeqAt.shaped (dWs ws) = true := shaped_map (n := 2) (by decide) dW_lay dW_dep ws
section
variable {F : Hp} {v : V} {ws : List Wt} {b : Bool} {os : List Int}
theorem Td.inv_ws (h : Td F v (dWs ws)) : ∃ a xs, v = .ref a ∧ F a = some (.lst xs) ∧ TdA F xs (ws.map dW) ∧ xs.length = ws.length := by
  obtain ⟨a, xs, rfl, h1, h2⟩ := Td.inv_lst h
  exact ⟨a, xs, rfl, h1, h2, by rw [h2.len, List.length_map]⟩
theorem Td.inv_w (h : Td F v (dW (some (b, os)))) : ∃ a l, v = .ref a ∧ F a = some (.tup [.str (wd b), .ref l]) ∧ F l = some (.lst (os.map V.int)) := by
  obtain ⟨a, xs, rfl, h1, h2⟩ := Td.inv_tup h
  cases h2 with
  | cons k1 k2 =>
    cases k2 with
    | cons k3 k4 =>
      cases k4
      cases k1
      obtain ⟨l, rfl, k5⟩ := Td.inv_ints k3
      exact ⟨a, l, rfl, h1, k5⟩
theorem Td.mk_w {a l : Addr} (h1 : F a = some (.tup [.str (wd b), .ref l])) (h2 : F l = some (.lst (os.map V.int))) : Td F (.ref a) (dW (some (b, os))) := .tup h1 (.cons (.str _) (.cons (.lst h2 (TdA.ints os)) .nil))
theorem TdA.ws_at {xs : List V} {i : Nat} {x : V} (h : TdA F xs (ws.map dW)) (hi : xs[i]? = some x) : ∃ w, ws[i]? = some w ∧ Td F x (dW w) := by
  obtain ⟨d, h1, h2⟩ := TdA.at h hi
  rw [List.getElem?_map] at h1
  cases e : ws[i]? with
  | none => rw [e] at h1; cases h1
  | some w => rw [e] at h1; cases h1; exact ⟨w, rfl, h2⟩
theorem TdA.ws_get {xs : List V} {i : Nat} {w : Wt} (h : TdA F xs (ws.map dW)) (hi : ws[i]? = some w) : ∃ x, xs[i]? = some x ∧ Td F x (dW w) :=
  TdA.get h (by rw [List.getElem?_map, hi] <;> rfl)
theorem dW_ne_none : dW (some (b, os)) ≠ .none := fun q => nomatch q
theorem Td.w_non {w : Wt} (h : Td F .non (dW w)) : w = none := by
  cases w with
  | none => rfl
  | some p => obtain ⟨b, os⟩ := p; cases h
theorem Td.w_ref {w : Wt} {a : Addr} (h : Td F (.ref a) (dW w)) : ∃ b os, w = some (b, os) := by
  cases w with
  | none => cases h
  | some p => exact ⟨p.1, p.2, rfl⟩
end
end SB
/-! Slices, tuple targets, subdata. -/
namespace SB
open PySem L2
theorem sIx_nat (n d i : Nat) : HT.sIx n d (some (i : Int)) = min i n := by
  unfold HT.sIx
  simp only []
  split <;> omega
theorem cut_take (xs : List V) (i : Nat) : cutV xs none (some (i : Int)) = xs.take i := by
  unfold cutV
  rw [sIx_nat]
  show (xs.drop 0).take (min i xs.length - 0) = _
  rw [List.drop_zero, Nat.sub_zero]
  by_cases h : i ≤ xs.length
  · rw [Nat.min_eq_left h]
  · rw [Nat.min_eq_right (by omega), List.take_of_length_le (Nat.le_refl _), List.take_of_length_le (by omega)]
theorem cut_drop (xs : List V) (i : Nat) : cutV xs (some (i : Int)) none = xs.drop i := by
  unfold cutV
  rw [sIx_nat]
  show (xs.drop (min i xs.length)).take (xs.length - min i xs.length) = _
  rw [List.take_of_length_le (by rw [List.length_drop]; omega)]
  by_cases h : i ≤ xs.length
  · rw [Nat.min_eq_left h]
  · rw [Nat.min_eq_right (by omega), List.drop_eq_nil_of_le (Nat.le_refl _), List.drop_eq_nil_of_le (by omega)]
theorem cut_range (xs : List V) (i j : Nat) : cutV xs (some (i : Int)) (some (j : Int)) = (xs.drop i).take (j - i) := by
  unfold cutV
  rw [sIx_nat, sIx_nat]
  by_cases h : i ≤ xs.length
  · rw [Nat.min_eq_left h]
    by_cases h2 : j ≤ xs.length
    · rw [Nat.min_eq_left h2]
    · rw [Nat.min_eq_right (by omega), List.take_of_length_le (by rw [List.length_drop]; omega), List.take_of_length_le (by rw [List.length_drop]; omega)]
  · rw [Nat.min_eq_right (Nat.le_of_not_le h), List.drop_eq_nil_of_le (Nat.le_refl _), List.drop_eq_nil_of_le (by omega), List.take_nil, List.take_nil]
section
variable {K : PySem.W.Frag} {σ : St} {H : Hp} {i j k : Nat} {v w u : V} {Q : St → Hp → Prop} {p : Addr}
theorem r_gt2 (h : SqT K H p [v, w]) (q : Q ((σ.set i (some v)).set j (some w)) H) : gTup K 2 (gCons (gName i) (gCons (gName j) gNil)) (.ref p) σ H Q :=
  ⟨p, _, rfl, h, rfl, _, _, rfl, _, _, rfl, rfl, q⟩
theorem r_gt3 (h : SqT K H p [v, w, u]) (q : Q (((σ.set i (some v)).set j (some w)).set k (some u)) H) : gTup K 3 (gCons (gName i) (gCons (gName j) (gCons (gName k) gNil))) (.ref p) σ H Q :=
  ⟨p, _, rfl, h, rfl, _, _, rfl, _, _, rfl, _, _, rfl, rfl, q⟩
end
theorem shaped_in {d : PyData} : ∀ {ds : List PyData}, PyData.canLayAll0 ds = true → d ∈ ds → d.canLay0 = true ∧ d.depth ≤ PyData.depthAll ds
  | x :: xs, h, m => by
    have h' : (x.canLay0 && PyData.canLayAll0 xs) = true := h
    rw [Bool.and_eq_true] at h'
    have e : PyData.depthAll (x :: xs) = max x.depth (PyData.depthAll xs) := rfl
    rcases List.mem_cons.mp m with rfl | m
    · exact ⟨h'.1, by omega⟩
    · obtain ⟨a, b⟩ := shaped_in h'.2 m
      exact ⟨a, by omega⟩
theorem shaped_l {d : PyData} {ds : List PyData} (h : SeqAt.shaped (.list ds) = true) (m : d ∈ ds) : SeqAt.shaped d = true := by
  obtain ⟨a, b⟩ := shaped_in (show PyData.canLayAll0 ds = true from SeqAt.canLay_of_shaped h) m
  have c : PyData.depthAll ds + 1 ≤ 64 := SeqAt.depth_of_shaped h
  exact shaped_of a (by omega)
theorem shaped_t {d : PyData} {ds : List PyData} (h : SeqAt.shaped (.tuple ds) = true) (m : d ∈ ds) : SeqAt.shaped d = true := by
  obtain ⟨a, b⟩ := shaped_in (show PyData.canLayAll0 ds = true from SeqAt.canLay_of_shaped h) m
  have c : PyData.depthAll ds + 1 ≤ 64 := SeqAt.depth_of_shaped h
  exact shaped_of a (by omega)
theorem dec_non {v : V} : decide (v = .non) = (match v with | .non => true | _ => false) := by
  cases v <;> first | rfl | exact decide_eq_false (fun q => nomatch q)
theorem Td.non_iff {F : Hp} {v : V} {d : PyData} (h : Td F v d) : v = .non ↔ d = .none := by
  cases h <;> constructor <;> intro q <;> first | rfl | exact (nomatch q)
theorem eqv_nil (ds : List PyData) : PyData.eqv (.list ds) (.list []) = ds.isEmpty := by
  cases ds <;> rfl
end SB
namespace SB
open PySem L2
theorem shaped_map1 (w : Wt) : SeqAt.shaped (dW w) = true := shaped_of (dW_lay w) (by have := dW_dep w; omega)
theorem nodup_nat : ∀ (n : Nat) (l : List Nat), l.Nodup → (∀ x ∈ l, x < n) → l.length ≤ n
  | 0, l, _, h => by
    cases l with
    | nil => exact Nat.le_refl _
    | cons a l => exact absurd (h a List.mem_cons_self) (Nat.not_lt_zero _)
  | n + 1, l, nd, h => by
    have nd2 : (l.erase n).Nodup := nd.erase n
    have h2 : ∀ x ∈ l.erase n, x < n := fun x hx => by
      have := (nd.mem_erase_iff).mp hx
      have := h x this.2
      omega
    have ih := nodup_nat n (l.erase n) nd2 h2
    by_cases m : n ∈ l
    · have := List.length_erase_of_mem m
      omega
    · rw [List.erase_of_not_mem m] at ih
      omega
theorem nodup_bound {n : Nat} {os : List Int} (nd : os.Nodup) (h : ∀ o ∈ os, 0 ≤ o ∧ o < (n : Int)) : os.length ≤ n := by
  have h2 : (os.map Int.toNat).Nodup := by
    rw [List.nodup_iff_pairwise_ne, List.pairwise_map]
    refine List.Pairwise.imp_of_mem (fun {a b} ha hb hne => ?_) (List.nodup_iff_pairwise_ne.mp nd)
    have := h a ha
    have := h b hb
    omega
  have h4 := nodup_nat n _ h2 (fun x hx => by
    obtain ⟨o, ho, rfl⟩ := List.mem_map.mp hx
    have := h o ho
    omega)
  rw [List.length_map] at h4
  exact h4
end SB
/-! A result that is a list of one's own; lists of truths. -/
namespace SB
open PySem L2
/-- a def's value is a new list that nobody else has -/
def RetL (H : Hp) (Q : VK) (xs : List V) : Prop := ∀ H' p, Zs H H H H' [(p, .lst xs)] → Q (.ref p) H'
section
variable {F0 H0 F H F' H' : Hp} {L L2 : List (Addr × HO)}
theorem Zs.callL (Z : Zs F0 H0 F H L) (W : Zs H H H H' L2) : Zs F0 H0 F H' (L2 ++ L) where
  ff := Z.ff
  hh := Z.hh.trans W.hh
  fh := Z.fh.trans W.hh
  sep := Z.sep
  led := fun q hq => by
    rcases List.mem_append.mp hq with hq | hq
    · obtain ⟨a, b, c⟩ := W.led q hq
      exact ⟨a, same_none Z.fh c, same_none Z.hh c⟩
    · obtain ⟨a, b, c⟩ := Z.led q hq
      exact ⟨W.hh _ _ a, b, c⟩
  nd := by
    rw [List.map_append, List.nodup_append]
    refine ⟨W.nd, Z.nd, fun a ha b hb e => ?_⟩
    subst e
    obtain ⟨q, hq, rfl⟩ := List.mem_map.mp ha
    obtain ⟨r, hr, e⟩ := List.mem_map.mp hb
    have h1 := (W.led q hq).2.2
    have h2 := (Z.led r hr).1
    have e' : r.1 = q.1 := e
    rw [e', h1] at h2
    cases h2
/-- a result's new cells over a frozen part that begins as H -/
theorem Zs.up (Z : Zs F0 H0 F H L) (h : Same F0 H0) : Zs H0 H0 H0 H L where
  ff := Same.refl _
  hh := Z.hh
  fh := Z.hh
  sep := fun _ a _ => a
  led := fun q hq => by
    obtain ⟨a, b, c⟩ := Z.led q hq
    exact ⟨a, c, c⟩
  nd := Z.nd
end
theorem flat_bools (l : List Bool) : (l.map V.bl).all flatV = true := by
  rw [List.all_eq_true]
  intro v hv
  obtain ⟨a, _, rfl⟩ := List.mem_map.mp hv
  rfl
theorem get_bools {l : List Bool} {i : Nat} (h : i < l.length) : (l.map V.bl)[i]? = some (.bl l[i]) := by
  rw [List.getElem?_map, List.getElem?_eq_getElem h] <;> rfl
theorem get_boolD {l : List Bool} {i : Nat} (h : i < l.length) : (l.map V.bl)[i]? = some (.bl (l.getD i false)) := by
  rw [get_bools h, List.getD_eq_getElem?_getD, List.getElem?_eq_getElem h] <;> rfl
theorem Td.inv_bools {F : Hp} {v : V} {l : List Bool} (h : Td F v (.list (l.map PyData.bool))) : ∃ a, v = .ref a ∧ F a = some (.lst (l.map V.bl)) := by
  obtain ⟨a, xs, rfl, h1, h2⟩ := h.inv_lst
  rw [h2.of_bools] at h1
  exact ⟨a, rfl, h1⟩
theorem Td.bools_lst {F : Hp} {a : Addr} {l : List Bool} (h : F a = some (.lst (l.map V.bl))) : Td F (.ref a) (.list (l.map PyData.bool)) := .lst h (TdA.bools l)
theorem shaped_bools (l : List Bool) : SeqAt.shaped (.list (l.map PyData.bool)) = true := shaped_map (n := 0) (by decide) (fun _ => rfl) (fun _ => Nat.le_refl _) l
theorem rep_flat {α : Type} (a : α) : ∀ n : Nat, List.flatten (List.replicate n [a]) = List.replicate n a
  | 0 => rfl
  | n + 1 => by rw [List.replicate_succ, List.flatten_cons, rep_flat a n, List.replicate_succ] <;> rfl
end SB
namespace SB
open PySem L2
/-- a smaller frozen part -/
theorem Zs.weak {F0 H0 F F1 H : Hp} {L : List (Addr × HO)} (Z : Zs F0 H0 F H L) (h0 : Same F0 F1) (h : Same F1 F) : Zs F0 H0 F1 H L where
  ff := h0
  hh := Z.hh
  fh := h.trans Z.fh
  sep := fun a e n => same_none h (Z.sep a e n)
  led := fun q hq => by
    obtain ⟨a, b, c⟩ := Z.led q hq
    exact ⟨a, same_none h b, c⟩
  nd := Z.nd
end SB
namespace SB
open PySem L2
/-- what every law promises -/
def pr_law (K : PySem.W.Frag) : V → Hp → VK → XK → Prop := fun a H Q _ => ∃ (p : Addr) (ns : List Int), a = .ref p ∧ SqL K H p (ns.map V.int) ∧ ns.length ≤ 63 ∧ ∀ H', Q (.bl true) H'
abbrev spL (K : PySem.W.Frag) : Sp := sp1 (pr_law K)
abbrev sp_law (K : PySem.W.Frag) (A : Ad) : Sp := spL K
end SB
namespace SB
open PySem L2
/-- [x for x in xs] -/
theorem lc_copy {K : PySem.W.Frag} {σ : St} {F0 H0 F H : Hp} {L : List (Addr × HO)} {Q : VK} {j : Nat} {a : Addr} {xs : List V} (hx : SqL K H a xs) (hz : xs.length ≤ 50000) (Z : Zs F0 H0 F H L)
    (hsrc : ∀ F' H', Zs F0 H0 F' H' L → Same F F' → SqL K H' a xs) (hw : ∀ x, wipe ((wipe σ [j]).set j (some x)) [j] = wipe σ [j]) (hj : ∀ x, ((wipe σ [j]).set j (some x))[j]? = some (some x))
    (k : ∀ Dl H', Zs F0 H0 F H' ((Dl, .lst xs) :: L) → Q (.ref Dl) H') : LRL K (gName j) tYes (tVar j) [j] σ Q (.ref a) H := by
  refine lc_lst hx Z (fun i acc F' => acc = xs.take i) rfl hsrc ?_ ?_
  · intro i x Dl F' H' acc hi Z' s hacc e
    subst e
    refine ⟨hw x, ?_⟩
    refine r_yes (ifT rfl ?_)
    refine ⟨x, hj x, ?_⟩
    have := (List.getElem?_eq_some_iff.mp hi).1
    exact cy Z' s hacc (by omega) (take_snoc hi).symm
  · intro Dl F' H' acc Z' s e
    rw [List.take_length] at e
    subst e
    exact k Dl H' (Z'.weak Z.ff s)
end SB
namespace SB
open PySem L2
def pr_cell_at (K : PySem.W.Frag) (A : Ad) : V → V → Hp → VK → XK → Prop := fun a b H Q _ => ∃ p ns k, a = .ref p ∧ b = .int k ∧ SqL K H p (ns.map V.int) ∧ 0 ≤ k ∧ Q (.int (cellAt ns k)) H
abbrev sp_cell_at (K : PySem.W.Frag) (A : Ad) : Sp := sp2 (pr_cell_at K A)
def t_cell_at (K : PySem.W.Frag) (A : Ad) : TS :=
    (tSeq (tIfS (tTest (tOp qLt (tVar 1) (tCB (qLen K) (tCons (tVar 0) tNil))))
    (tRet (tOp (rIxL K) (tVar 0) (tVar 1)))
    tNext)
    (tRet (tC (.int 0))))
theorem rd_cell_at {K : PySem.W.Frag} {A : Ad} {a b : V} {H : Hp} {Q : VK} {E : XK} (h : pr_cell_at K A a b H Q E) : t_cell_at K A { nx := fun _ H' => Q .non H', rt := Q } [some a, some b] H := by
  obtain ⟨p, ns, k, rfl, rfl, hs, h0, q⟩ := h
  unfold t_cell_at
  walk_at "rd"
  refine r_lenL hs ?_
  walk_at "rd"
  refine ifd (fun h => ?_) (fun h => ?_)
  · walk_at "rd"
    refine r_ixL hs (at_i h0 (cellAt_lt h0 (by simpa using h))) ?_
    exact q
  · walk_at "rd"
    rw [← cellAt_ge (ns := ns) (k := k) (by simpa using h)]
    exact q
end SB
namespace SB
open PySem L2
/-! ### whom a hand of the law waits for -/
def moreBy (c d n m o0 k : Int) : Int := (o0 + 1 + n / (c + d * k) % m) % m
def othersBy (c d n m o0 : Int) : Nat → List Int
  | 0 => [o0]
  | i + 1 => if moreBy c d n m o0 (i : Nat) ∈ othersBy c d n m o0 i then othersBy c d n m o0 i else othersBy c d n m o0 i ++ [moreBy c d n m o0 (i : Nat)]
section
variable {c d n m o0 : Int}
theorem oth_0 : ∀ i : Nat, (othersBy c d n m o0 i)[0]? = some o0
  | 0 => rfl
  | i + 1 => by
    have ih := oth_0 i
    unfold othersBy
    split
    · exact ih
    · rw [List.getElem?_append_left (List.getElem?_eq_some_iff.mp ih).1]; exact ih
theorem oth_len : ∀ i : Nat, (othersBy c d n m o0 i).length ≤ i + 1
  | 0 => Nat.le_refl _
  | i + 1 => by
    have ih := oth_len i
    unfold othersBy
    split
    · omega
    · rw [List.length_append, List.length_singleton]; omega
theorem oth_ne (i : Nat) : othersBy c d n m o0 i ≠ [] := fun q => by
  have h := oth_0 (c := c) (d := d) (n := n) (m := m) (o0 := o0) i
  rw [q] at h
  cases h
theorem oth_nd : ∀ i : Nat, (othersBy c d n m o0 i).Nodup
  | 0 => by unfold othersBy; simp
  | i + 1 => by
    have ih := oth_nd i
    unfold othersBy
    split
    · exact ih
    · rename_i h
      rw [List.nodup_append]
      exact ⟨ih, by simp, fun a ha b hb => by
        rw [List.mem_singleton] at hb
        subst hb
        exact fun q => h (q ▸ ha)⟩
theorem more_in (hm : 0 < m) (k : Int) : 0 ≤ moreBy c d n m o0 k ∧ moreBy c d n m o0 k < m := ⟨Int.emod_nonneg _ (by omega), Int.emod_lt_of_pos _ hm⟩
theorem oth_in (hm : 0 < m) (h0 : 0 ≤ o0 ∧ o0 < m) : ∀ (i : Nat) (o : Int), o ∈ othersBy c d n m o0 i → 0 ≤ o ∧ o < m
  | 0, o, h => by
    unfold othersBy at h
    rw [List.mem_singleton] at h
    subst h
    exact h0
  | i + 1, o, h => by
    unfold othersBy at h
    split at h
    · exact oth_in hm h0 i o h
    · rcases List.mem_append.mp h with h | h
      · exact oth_in hm h0 i o h
      · rw [List.mem_singleton] at h
        subst h
        exact more_in hm _
theorem oth_ok (b : Bool) {z : Nat} (hz : m = (z : Int)) (hm : 0 < m) (h0 : 0 ≤ o0 ∧ o0 < m) (i : Nat) : okW z (some (b, othersBy c d n m o0 i)) :=
  ⟨oth_ne i, oth_nd i, fun o ho => by rw [← hz]; exact oth_in hm h0 i o ho⟩
end
/-- ["all", "any"][i] -/
theorem word_at {i : Int} (h0 : 0 ≤ i) (h1 : i < 2) : atI [V.str "all", V.str "any"] i = some (.str (wd (decide (i = 1)))) := by
  refine at_i h0 ?_
  rcases (show i = 0 ∨ i = 1 by omega) with e | e
  · subst e; rfl
  · subst e; rfl
/-- one hand waits for all hands, from any one on, backwards -/
def allBy (n w : Int) : List Int := (List.range n.toNat).map fun (k : Nat) => (n + w - (k : Int)) % n
theorem emod_inj {n c a b : Int} (ha : 0 ≤ a ∧ a < n) (hb : 0 ≤ b ∧ b < n) (h : (c - a) % n = (c - b) % n) : a = b := by
  have h1 : (b - a) % n = 0 := by
    have := Int.emod_eq_emod_iff_emod_sub_eq_zero.mp h
    rw [show c - a - (c - b) = b - a by omega] at this
    exact this
  have h2 : (a - b) % n = 0 := by
    have := Int.emod_eq_emod_iff_emod_sub_eq_zero.mp h.symm
    rw [show c - b - (c - a) = a - b by omega] at this
    exact this
  by_cases l : a ≤ b
  · rw [Int.emod_eq_of_lt (by omega) (by omega)] at h1; omega
  · rw [Int.emod_eq_of_lt (by omega) (by omega)] at h2; omega
theorem all_ok (b : Bool) {n w : Int} {z : Nat} (hz : n = (z : Int)) (hn : 0 < n) : okW z (some (b, allBy n w)) := by
  refine ⟨fun e => ?_, ?_, fun o m => ?_⟩
  · have : (allBy n w).length = n.toNat := by unfold allBy; rw [List.length_map, List.length_range]
    rw [e, List.length_nil] at this
    omega
  · unfold allBy
    rw [List.nodup_iff_pairwise_ne, List.pairwise_map]
    refine List.Pairwise.imp_of_mem (fun {a b} ha hb hne e => ?_) (List.nodup_iff_pairwise_ne.mp List.nodup_range)
    have := List.mem_range.mp ha
    have := List.mem_range.mp hb
    have := emod_inj (c := n + w) (a := (a : Int)) (b := (b : Int)) (n := n) (by omega) (by omega) e
    omega
  · unfold allBy at m
    obtain ⟨k, _, rfl⟩ := List.mem_map.mp m
    rw [← hz]
    exact ⟨Int.emod_nonneg _ (by omega), Int.emod_lt_of_pos _ hn⟩
theorem okws_set {ws : List Wt} {w : Wt} {j : Nat} (ok : OkWs ws) (h : okW ws.length w) : OkWs (ws.set j w) := by
  refine ⟨by rw [List.length_set]; exact ok.pos, by rw [List.length_set]; exact ok.most, fun x m => ?_⟩
  rw [List.length_set]
  rcases List.mem_or_eq_of_mem_set m with m | rfl
  · exact ok.all x m
  · exact h
end SB
namespace SB
open PySem L2
def mixBy (ns : List Int) (k s : Int) : Int := (cellAt ns k * 48271 + s * 7919) % 999983
theorem mix_nn (ns : List Int) (k s : Int) : 0 ≤ mixBy ns k s := Int.emod_nonneg _ (by decide)
def pr_mixed (K : PySem.W.Frag) (A : Ad) : V → V → V → Hp → VK → XK → Prop := fun a b c H Q _ => ∃ p ns k s, a = .ref p ∧ b = .int k ∧ c = .int s ∧ SqL K H p (ns.map V.int) ∧ 0 ≤ k ∧ Q (.int (mixBy ns k s)) H
abbrev sp_mixed (K : PySem.W.Frag) (A : Ad) : Sp := sp3 (pr_mixed K A)
def t_mixed (K : PySem.W.Frag) (A : Ad) : TS :=
    (tRet (tOp qMod (tOp qAdd (tOp qMul (tCall (sp_cell_at K A) [] E0 (tCons (tVar 0) (tCons (tVar 1) tNil))) (tC (.int 48271))) (tOp qMul (tVar 2) (tC (.int 7919)))) (tC (.int 999983))))
theorem rd_mixed {K : PySem.W.Frag} {A : Ad} {a b c : V} {H : Hp} {Q : VK} {E : XK} (h : pr_mixed K A a b c H Q E) : t_mixed K A { nx := fun _ H' => Q .non H', rt := Q } [some a, some b, some c] H := by
  obtain ⟨p, ns, k, s, rfl, rfl, rfl, hs, h0, q⟩ := h
  unfold t_mixed
  walk_at "rd"
  refine ⟨p, ns, k, rfl, rfl, hs, h0, ?_⟩
  walk_at "rd"
  exact q
def waitBy (n m : Int) : Wt := if n % 5 = 0 then none else some (decide (n % 2 = 1), othersBy 900 97 n m (n / 15 % m) (n / 5 % 3).toNat)
theorem wait_ok {n m : Int} {z : Nat} (hz : m = (z : Int)) (hm : 0 < m) : okW z (waitBy n m) := by
  unfold waitBy
  split
  · exact True.intro
  · exact oth_ok _ hz hm ⟨Int.emod_nonneg _ (by omega), Int.emod_lt_of_pos _ hm⟩ _
def pr_wait_by (K : PySem.W.Frag) (A : Ad) : V → V → Hp → VK → XK → Prop := fun a b H Q _ => ∃ F n m, Same F H ∧ a = .int n ∧ b = .int m ∧ 1 ≤ m ∧ m ≤ 40 ∧ 0 ≤ n ∧ Ret F H Q (dW (waitBy n m))
abbrev sp_wait_by (K : PySem.W.Frag) (A : Ad) : Sp := sp2 (pr_wait_by K A)
def t_wait_by (K : PySem.W.Frag) (A : Ad) : TS :=
    (tSeq (tIfS (tTest (tOp rEq (tOp qMod (tVar 0) (tC (.int 5))) (tC (.int 0))))
    (tRet (tC .non))
    tNext)
    (tSeq (tAsg (tLst (tCons (tOp qMod (tOp qDiv (tVar 0) (tC (.int 15))) (tVar 1)) tNil)) (gName 2))
    (tSeq (tFor (iRng1 (tCons (tOp qMod (tOp qDiv (tVar 0) (tC (.int 5))) (tC (.int 3))) tNil)) (gName 3)
    (tSeq (tAsg (tOp qMod (tOp qAdd (tOp qAdd (tOp (rIxL K) (tVar 2) (tC (.int 0))) (tC (.int 1))) (tOp qMod (tOp qDiv (tVar 0) (tOp qAdd (tC (.int 900)) (tOp qMul (tC (.int 97)) (tVar 3)))) (tVar 1))) (tVar 1)) (gName 4))
    (tIfS (tTest (tOp (rIn K true) (tVar 4) (tVar 2)))
    (tDrop (tBM K "list" rAppend (tVar 2) (tCons (tVar 4) tNil)))
    tNext)))
    (tRet (tTup (tCons (tOp (rIxL K) (tLst (tCons (tC (.str "all")) (tCons (tC (.str "any")) tNil))) (tOp qMod (tVar 0) (tC (.int 2)))) (tCons (tVar 2) tNil)))))))
theorem rd_wait_by {K : PySem.W.Frag} {A : Ad} {a b : V} {H : Hp} {Q : VK} {E : XK} (h : pr_wait_by K A a b H Q E) : t_wait_by K A { nx := fun _ H' => Q .non H', rt := Q } [some a, some b, none, none, none] H := by
  obtain ⟨F, n, m, sF, rfl, rfl, m1, m40, n0, q⟩ := h
  have Z : Zs F H F H [] := Zs.start sF
  unfold t_wait_by
  walk_at "rd"
  refine ifd (fun h => ?_) (fun h => ?_)
  · walk_at "rd"
    refine q F _ _ Z ?_
    unfold waitBy
    rw [if_pos h]
    exact .non
  · walk_at "rd"
    refine r_mk sz1 Z (fun l H1 Z1 => ?_)
    walk_at "rd"
    refine r_rng1 (by omega) (fun i σ' H' => ∃ x3 x4, σ' = [some (.int n), some (.int m), some (.ref l), x3, x4] ∧ Zs F H F H' [(l, .lst ((othersBy 900 97 n m (n / 15 % m) i).map V.int))]) ⟨none, none, rfl, Z1⟩ ?_ ?_
    · rintro i σ' H' hi ⟨x3, x4, rfl, Z⟩
      dsimp only [List.set_cons_succ, List.set_cons_zero]
      have hlen := oth_len (c := 900) (d := 97) (n := n) (m := m) (o0 := n / 15 % m) i
      walk_at "rd"
      refine r_ixL (SqL.of (Z.get (i := 0) rfl)) (v := .int (n / 15 % m)) (at_i (by decide) (by rw [List.getElem?_map, show (0 : Int).toNat = 0 from rfl, oth_0] <;> rfl)) ?_
      walk_at "rd"
      refine r_inL (SqL.of (Z.get (i := 0) rfl)) rfl (flat_ints _) ?_
      rw [if_pos rfl, inV_int]
      walk_at "rd"
      refine ifn (fun h2 => ?_) (fun h2 => ?_)
      · walk_at "rd"
        refine ⟨ty_l (SqL.of (Z.get (i := 0) rfl)), ?_⟩
        walk_at "rd"
        refine r_append 0 Z rfl (by rw [List.length_map]; omega) (fun H2 Z2 => ?_)
        walk_at "rd"
        refine ⟨_, _, rfl, ?_⟩
        unfold othersBy
        rw [if_neg (show ¬ moreBy 900 97 n m (n / 15 % m) (i : Nat) ∈ _ from h2), List.map_append]
        exact Z2
      · walk_at "rd"
        refine ⟨_, _, rfl, ?_⟩
        unfold othersBy
        rw [if_pos (show moreBy 900 97 n m (n / 15 % m) (i : Nat) ∈ _ from h2)]
        exact Z
    · rintro σ' H' ⟨x3, x4, rfl, Z⟩
      walk_at "rd"
      refine r_mk sz2 Z (fun p H2 Z2 => ?_)
      walk_at "rd"
      refine r_ixL (SqL.of (Z2.get (i := 0) rfl)) (word_at (by omega) (by omega)) ?_
      walk_at "rd"
      refine r_mk sz2 Z2.drop (fun t H3 Z3 => ?_)
      obtain ⟨F1, Z4, s1, e1⟩ := Z3.frzAt 1 rfl
      obtain ⟨F2, Z5, s2, e2⟩ := Z4.frzAt 0 rfl
      refine q F2 _ _ Z5 ?_
      unfold waitBy
      rw [if_neg h]
      exact Td.mk_w e2 (s2 _ _ e1)
end SB
namespace SB
open PySem L2
/-! ### the program: waits.py -/
/-- isinstance over data -/
def tyD : PyData → String
  | .none => "NoneType"
  | .bool _ => "bool"
  | .int _ => "int"
  | .str _ => "str"
  | .list _ => "list"
  | .tuple _ => "tuple"
  | .dict _ => "dict"
theorem ty_of {K : PySem.W.Frag} {H : Hp} {v : V} {d : PyData} (h : Td H v d) : TyX K H v (.type (tyD d)) := by
  cases h with
  | non => exact .base .non
  | bl b => exact .base (.bl b)
  | int i => exact .base (.int i)
  | str x => exact .base (.str x)
  | lst a b => exact .base (.lst a)
  | tup a b => exact .base (.tup a)
def isD (d : PyData) (n : String) : Bool := (kitB (tyD d) n).getD false
theorem r_isi {K : PySem.W.Frag} {H : Hp} {v : V} {d : PyData} {n : String} {b : Bool} {Q : VK} (h : Td H v d) (hb : kitB (tyD d) n = some b) (k : Q (.bl b) H) : rIsi K [v, .ty n] H Q :=
  ⟨v, .ty n, .type (tyD d), .type n, b, rfl, .ty n, ty_of h, kit_ty hb, k⟩
theorem ki_int : ∀ d : PyData, kitB (tyD d) "int" = some (match d with | .int _ => true | .bool _ => true | _ => false)
  | .none => by decide +kernel
  | .bool _ => by show kitB "bool" "int" = some true; decide +kernel
  | .int _ => by show kitB "int" "int" = some true; decide +kernel
  | .str _ => by show kitB "str" "int" = some false; decide +kernel
  | .list _ => by show kitB "list" "int" = some false; decide +kernel
  | .tuple _ => by show kitB "tuple" "int" = some false; decide +kernel
  | .dict _ => by show kitB "dict" "int" = some false; decide +kernel
theorem ki_bool : ∀ d : PyData, kitB (tyD d) "bool" = some (match d with | .bool _ => true | _ => false)
  | .none => by decide +kernel
  | .bool _ => by show kitB "bool" "bool" = some true; decide +kernel
  | .int _ => by show kitB "int" "bool" = some false; decide +kernel
  | .str _ => by show kitB "str" "bool" = some false; decide +kernel
  | .list _ => by show kitB "list" "bool" = some false; decide +kernel
  | .tuple _ => by show kitB "tuple" "bool" = some false; decide +kernel
  | .dict _ => by show kitB "dict" "bool" = some false; decide +kernel
theorem ki_str : ∀ d : PyData, kitB (tyD d) "str" = some (match d with | .str _ => true | _ => false)
  | .none => by decide +kernel
  | .bool _ => by show kitB "bool" "str" = some false; decide +kernel
  | .int _ => by show kitB "int" "str" = some false; decide +kernel
  | .str _ => by show kitB "str" "str" = some true; decide +kernel
  | .list _ => by show kitB "list" "str" = some false; decide +kernel
  | .tuple _ => by show kitB "tuple" "str" = some false; decide +kernel
  | .dict _ => by show kitB "dict" "str" = some false; decide +kernel
theorem ki_list : ∀ d : PyData, kitB (tyD d) "list" = some (match d with | .list _ => true | _ => false)
  | .none => by decide +kernel
  | .bool _ => by show kitB "bool" "list" = some false; decide +kernel
  | .int _ => by show kitB "int" "list" = some false; decide +kernel
  | .str _ => by show kitB "str" "list" = some false; decide +kernel
  | .list _ => by show kitB "list" "list" = some true; decide +kernel
  | .tuple _ => by show kitB "tuple" "list" = some false; decide +kernel
  | .dict _ => by show kitB "dict" "list" = some false; decide +kernel
theorem ki_tuple : ∀ d : PyData, kitB (tyD d) "tuple" = some (match d with | .tuple _ => true | _ => false)
  | .none => by decide +kernel
  | .bool _ => by show kitB "bool" "tuple" = some false; decide +kernel
  | .int _ => by show kitB "int" "tuple" = some false; decide +kernel
  | .str _ => by show kitB "str" "tuple" = some false; decide +kernel
  | .list _ => by show kitB "list" "tuple" = some false; decide +kernel
  | .tuple _ => by show kitB "tuple" "tuple" = some true; decide +kernel
  | .dict _ => by show kitB "dict" "tuple" = some false; decide +kernel

/-- is_hand -/
def handD : PyData → Int → Bool
  | .int i, m => decide (0 ≤ i) && decide (i < m)
  | _, _ => false
def pr_is_hand (K : PySem.W.Frag) (A : Ad) : V → V → Hp → VK → XK → Prop := fun a b H Q _ => ∃ d m, Td H a d ∧ b = .int m ∧ Q (.bl (handD d m)) H
abbrev sp_is_hand (K : PySem.W.Frag) (A : Ad) : Sp := sp2 (pr_is_hand K A)
def t_is_hand (K : PySem.W.Frag) (A : Ad) : TS :=
    (tRet (tAndV (tCB (rIsi K) (tCons (tVar 0) (tCons (tC (.ty "int")) tNil))) (tAndV (tNotV (tCB (rIsi K) (tCons (tVar 0) (tCons (tC (.ty "bool")) tNil)))) (tChain qLe qLt (tC (.int 0)) (tVar 0) (tVar 1)))))
theorem rd_is_hand {K : PySem.W.Frag} {A : Ad} {a b : V} {H : Hp} {Q : VK} {E : XK} (h : pr_is_hand K A a b H Q E) : t_is_hand K A { nx := fun _ H' => Q .non H', rt := Q } [some a, some b] H := by
  obtain ⟨d, m, hd, rfl, q⟩ := h
  unfold t_is_hand
  walk_at "rd"
  refine r_isi hd (ki_int d) ?_
  walk_at "rd"
  refine ifb (fun h => ?_) (fun h => ?_)
  · walk_at "rd"
    refine r_isi hd (ki_bool d) ?_
    walk_at "rd"
    refine ifnb (fun h2 => ?_) (fun h2 => ?_)
    · cases hd with
      | int i =>
        walk_at "rd"
        refine ifd (fun h3 => ?_) (fun h3 => ?_)
        · walk_at "rd"
          have e : handD (.int i) m = decide (i < m) := by
            show (decide (0 ≤ i) && decide (i < m)) = _
            rw [decide_eq_true h3, Bool.true_and]
          rw [← e]
          exact q
        · have e : handD (.int i) m = false := by
            show (decide (0 ≤ i) && decide (i < m)) = _
            rw [decide_eq_false h3, Bool.false_and]
          rw [← e]
          exact q
      | bl b => cases h2
      | non => cases h
      | str x => cases h
      | lst x y => cases h
      | tup x y => cases h
    · cases hd with
      | bl b => exact q
      | int i => cases h2
      | non => cases h
      | str x => cases h
      | lst x y => cases h
      | tup x y => cases h
  · cases hd with
    | bl b => cases h
    | int i => cases h
    | non => exact q
    | str x => exact q
    | lst x y => exact q
    | tup x y => exact q
/-- need_hand of a hand -/
def pr_need_hand (K : PySem.W.Frag) (A : Ad) : V → V → Hp → VK → XK → Prop := fun a b H Q _ => ∃ m i, a = .int m ∧ b = .int i ∧ 0 ≤ i ∧ i < m ∧ Q (.int i) H
abbrev sp_need_hand (K : PySem.W.Frag) (A : Ad) : Sp := sp2 (pr_need_hand K A)
def t_need_hand (K : PySem.W.Frag) (A : Ad) : TS :=
    (tSeq (tIfS (tNot (tB (tCall (sp_is_hand K A) [] E0 (tCons (tVar 1) (tCons (tVar 0) tNil)))))
    tNever
    tNext)
    (tRet (tVar 1)))
theorem rd_need_hand {K : PySem.W.Frag} {A : Ad} {a b : V} {H : Hp} {Q : VK} {E : XK} (h : pr_need_hand K A a b H Q E) : t_need_hand K A { nx := fun _ H' => Q .non H', rt := Q } [some a, some b] H := by
  obtain ⟨m, i, rfl, rfl, h0, h1, q⟩ := h
  unfold t_need_hand
  walk_at "rd"
  refine ⟨_, m, .int i, rfl, ?_⟩
  walk_at "rd"
  have e : handD (.int i) m = true := by
    show (decide (0 ≤ i) && decide (i < m)) = true
    rw [decide_eq_true h0, decide_eq_true h1] <;> rfl
  rw [e]
  refine ifF rfl ?_
  walk_at "rd"
  exact q
end SB
namespace SB
open PySem L2
/-! ### the program: is_wait of any data -/
def WaitP (d : PyData) (m : Nat) : Prop := ∃ w : Wt, d = dW w ∧ okW m w
noncomputable def waitD (d : PyData) (m : Nat) : Bool := @decide (WaitP d m) (Classical.propDecidable _)
theorem waitD_t {d : PyData} {m : Nat} (h : WaitP d m) : waitD d m = true := @decide_eq_true _ (Classical.propDecidable _) h
theorem waitD_f {d : PyData} {m : Nat} (h : ¬ WaitP d m) : waitD d m = false := @decide_eq_false _ (Classical.propDecidable _) h
def pr_is_wait (K : PySem.W.Frag) (A : Ad) : V → V → Hp → VK → XK → Prop := fun a b H Q _ => ∃ d m, Td H a d ∧ SeqAt.shaped d = true ∧ b = .int (m : Nat) ∧ ∀ H', Same H H' → Q (.bl (waitD d m)) H'
abbrev sp_is_wait (K : PySem.W.Frag) (A : Ad) : Sp := sp2 (pr_is_wait K A)
/-- what the top has laid: the words -/
def WordsOk (K : PySem.W.Frag) (A : Ad) : Prop := ∀ H, SqT K H A.words [.str "all", .str "any"]
def t_is_wait (K : PySem.W.Frag) (A : Ad) : TS :=
    (tSeq (tIfS (tTest (tOp qIsN (tVar 0) (tC .non)))
    (tRet (tC (.bl true)))
    tNext)
    (tSeq (tIfS (tOr (tNot (tB (tCB (rIsi K) (tCons (tVar 0) (tCons (tC (.ty "tuple")) tNil))))) (tOr (tTest (tOp rNe (tCB (qLen K) (tCons (tVar 0) tNil)) (tC (.int 2)))) (tOr (tNot (tB (tCB (rIsi K) (tCons (tOp (rIxT K) (tVar 0) (tC (.int 0))) (tCons (tC (.ty "str")) tNil))))) (tTest (tOp (rIn K true) (tOp (rIxT K) (tVar 0) (tC (.int 0))) (tC (.ref A.words)))))))
    (tRet (tC (.bl false)))
    tNext)
    (tSeq (tIfS (tOr (tNot (tB (tCB (rIsi K) (tCons (tOp (rIxT K) (tVar 0) (tC (.int 1))) (tCons (tC (.ty "list")) tNil))))) (tTest (tOp (rEqD K) (tOp (rIxT K) (tVar 0) (tC (.int 1))) (tLst tNil))))
    (tRet (tC (.bl false)))
    tNext)
    (tSeq (tFor (iEnum K (tCons (tOp (rIxT K) (tVar 0) (tC (.int 1))) tNil)) (gTup K 2 (gCons (gName 2) (gCons (gName 3) gNil)))
    (tIfS (tOr (tNot (tB (tCall (sp_is_hand K A) [] E0 (tCons (tVar 3) (tCons (tVar 1) tNil))))) (tTest (tOp (rIn K false) (tVar 3) (tSl (rSlL K) (tOp (rIxT K) (tVar 0) (tC (.int 1))) tNoPart (tPart (tVar 2))))))
    (tRet (tC (.bl false)))
    tNext))
    (tRet (tC (.bl true)))))))
theorem tup_inj2 {a b c d : PyData} (h : PyData.tuple [a, b] = .tuple [c, d]) : a = c ∧ b = d := by
  injection h with h
  injection h with h1 h2
  injection h2 with h2 _
  exact ⟨h1, h2⟩
theorem wd_inj {b c : Bool} (h : wd b = wd c) : b = c := by
  cases b <;> cases c <;> first | rfl | exact absurd h (by decide +kernel)
theorem words_in (x : Str) : inV (.str x) [.str "all", .str "any"] = true ↔ ∃ b, x = wd b := by
  unfold inV
  rw [List.any_cons, List.any_cons, List.any_nil, Bool.or_false]
  show (((("all" : Str) == x) || (("any" : Str) == x)) = true) ↔ _
  rw [Bool.or_eq_true, beq_iff_eq, beq_iff_eq]
  constructor
  · rintro (e | e)
    · exact ⟨false, e.symm⟩
    · exact ⟨true, e.symm⟩
  · rintro ⟨b, rfl⟩
    cases b
    · exact .inl rfl
    · exact .inr rfl
theorem rd_is_wait {K : PySem.W.Frag} {A : Ad} (W : WordsOk K A) {a b : V} {H : Hp} {Q : VK} {E : XK} (h : pr_is_wait K A a b H Q E) : t_is_wait K A { nx := fun _ H' => Q .non H', rt := Q } [some a, some b, none, none] H := by
  obtain ⟨d, m, hd, hsh, rfl, q⟩ := h
  have no : ¬ WaitP d m → ∀ H', Same H H' → Q (.bl false) H' := fun n H' s => by
    rw [← waitD_f n]; exact q H' s
  have yes : WaitP d m → ∀ H', Same H H' → Q (.bl true) H' := fun n H' s => by
    rw [← waitD_t n]; exact q H' s
  have Z : Zs H H H H [] := Zs.start (Same.refl _)
  unfold t_is_wait
  walk_at "rd"
  refine ifd (fun h => ?_) (fun h => ?_)
  · walk_at "rd"
    exact yes ⟨none, hd.non_iff.mp h, True.intro⟩ H (Same.refl _)
  have hn : ¬ d = .none := fun q => h (hd.non_iff.mpr q)
  walk_at "rd"
  refine r_isi hd (ki_tuple d) ?_
  walk_at "rd"
  refine ifnb (fun h1 => ?_) (fun h1 => ?_)
  · walk_at "rd"
    refine ifT rfl ?_
    walk_at "rd"
    refine no (fun ⟨w, e, _⟩ => ?_) H (Same.refl _)
    subst e
    cases w with
    | none => exact hn rfl
    | some p => cases h1
  obtain ⟨ds, rfl⟩ : ∃ ds, d = .tuple ds := by
    cases d <;> first | exact ⟨_, rfl⟩ | cases h1
  obtain ⟨p, xs, rfl, hp, hx⟩ := hd.inv_tup
  walk_at "rd"
  refine r_lenT (SqT.of hp) ?_
  walk_at "rd"
  refine ifn (fun h2 => ?_) (fun h2 => ?_)
  · walk_at "rd"
    refine ifT rfl ?_
    walk_at "rd"
    refine no (fun ⟨w, e, _⟩ => ?_) H (Same.refl _)
    cases w with
    | none => cases e
    | some p =>
      cases e
      exact h2 (by rw [hx.len] <;> rfl)
  obtain ⟨x0, x1, d0, d1, rfl, rfl, h0, h1'⟩ : ∃ x0 x1 d0 d1, xs = [x0, x1] ∧ ds = [d0, d1] ∧ Td H x0 d0 ∧ Td H x1 d1 := by
    cases hx with
    | nil => exact absurd h2 (by decide)
    | cons a hx =>
      cases hx with
      | nil => exact absurd h2 (by simp)
      | cons b hx =>
        cases hx with
        | nil => exact ⟨_, _, _, _, rfl, rfl, a, b⟩
        | cons c hx =>
          rw [List.length_cons, List.length_cons, List.length_cons] at h2
          omega
  walk_at "rd"
  refine r_ixT (SqT.of hp) (at_i (by decide) rfl) ?_
  walk_at "rd"
  refine r_isi h0 (ki_str d0) ?_
  walk_at "rd"
  refine ifnb (fun h3 => ?_) (fun h3 => ?_)
  · walk_at "rd"
    refine ifT rfl ?_
    walk_at "rd"
    refine no (fun ⟨w, e, _⟩ => ?_) H (Same.refl _)
    cases w with
    | none => cases e
    | some p => cases e; cases h3
  obtain ⟨s0, rfl⟩ : ∃ s, d0 = .str s := by
    cases d0 <;> first | exact ⟨_, rfl⟩ | cases h3
  cases h0
  walk_at "rd"
  refine r_ixT (SqT.of hp) (at_i (by decide) rfl) ?_
  walk_at "rd"
  refine r_inT (W H) rfl rfl ?_
  rw [if_pos rfl]
  walk_at "rd"
  refine ifnb (fun h4 => ?_) (fun h4 => ?_)
  · walk_at "rd"
    refine no (fun ⟨w, e, _⟩ => ?_) H (Same.refl _)
    cases w with
    | none => cases e
    | some p =>
      cases e
      rw [(words_in _).mpr ⟨p.1, rfl⟩] at h4
      cases h4
  obtain ⟨bw, rfl⟩ := (words_in _).mp h4
  walk_at "rd"
  refine r_ixT (SqT.of hp) (at_i (by decide) rfl) ?_
  walk_at "rd"
  refine r_isi h1' (ki_list d1) ?_
  walk_at "rd"
  refine ifnb (fun h5 => ?_) (fun h5 => ?_)
  · walk_at "rd"
    refine ifT rfl ?_
    walk_at "rd"
    refine no (fun ⟨w, e, _⟩ => ?_) H (Same.refl _)
    cases w with
    | none => cases e
    | some p => rw [(tup_inj2 e).2] at h5; cases h5
  obtain ⟨es, rfl⟩ : ∃ s, d1 = .list s := by
    cases d1 <;> first | exact ⟨_, rfl⟩ | cases h5
  obtain ⟨l, ys, rfl, hl, hy⟩ := h1'.inv_lst
  have shl : SeqAt.shaped (.list es) = true := shaped_t hsh (by simp)
  walk_at "rd"
  refine r_ixT (SqT.of hp) (at_i (by decide) rfl) ?_
  walk_at "rd"
  refine r_mk sz0 Z (fun p1 H1 Z1 => ?_)
  refine r_eqD (d := .list es) (e := .list []) (h1'.up Z1.hh) (.lst (Z1.get (i := 0) rfl) .nil) shl rfl ?_
  rw [eqv_nil]
  walk_at "rd"
  have fin : ∀ b os, PyData.tuple [.str (wd bw), .list es] = dW (some (b, os)) → es = os.map PyData.int := fun b os e => by
    have := (tup_inj2 e).2
    injection this
  refine ifb (fun h6 => ?_) (fun h6 => ?_)
  · walk_at "rd"
    refine no (fun ⟨w, e, k⟩ => ?_) H1 Z1.hh
    cases w with
    | none => cases e
    | some p =>
      have e2 := fin _ _ e
      have k1 := k.1
      cases hh : p.2 with
      | nil => exact k1 hh
      | cons x y => rw [e2, hh] at h6; cases h6
  walk_at "rd"
  refine r_ixT (SqT.of (Z1.fh _ _ hp)) (at_i (by decide) rfl) ?_
  walk_at "rd"
  have hlen := hy.len
  refine r_enumI (xs := ys) (SqL.of (Z1.fh _ _ hl)) (fun i σ' H' => ∃ x2 x3, σ' = [some (.ref p), some (.int (m : Nat)), x2, x3] ∧ Zs H H H H' [] ∧ ∃ os : List Int, es.take i = os.map PyData.int ∧ os.Nodup ∧ ∀ o ∈ os, 0 ≤ o ∧ o < (m : Int))
    ⟨none, none, rfl, Z1.nil, [], by simp, List.nodup_nil, fun _ q => (nomatch q)⟩ (fun i σ' H' _ ⟨_, _, _, Z', _⟩ => SqL.of (Z'.fh _ _ hl)) ?_ ?_
  · rintro i x T σ' H' hi ⟨x2, x3, rfl, Z', os, o1, o2, o3⟩ hT
    have Z2 := Z'.alloc (o := .tup [.int (i : Nat), x]) hT
    refine r_gt2 (SqT.of (Z2.get (i := 0) rfl)) ?_
    dsimp only [List.set_cons_succ, List.set_cons_zero]
    replace Z2 := Z2.drop
    obtain ⟨di, hdi, hxi⟩ := hy.at hi
    walk_at "rd"
    refine ⟨di, (m : Nat), hxi.up Z2.fh, rfl, ?_⟩
    walk_at "rd"
    have bad : ∀ os' : List Int, es = os'.map PyData.int → ∃ o, os'[i]? = some o ∧ di = .int o ∧ os = os'.take i := fun os' e => by
      subst e
      rw [List.getElem?_map] at hdi
      cases e2 : os'[i]? with
      | none => rw [e2] at hdi; cases hdi
      | some o =>
        rw [e2] at hdi
        refine ⟨o, rfl, (Option.some.inj hdi).symm, ?_⟩
        rw [← List.map_take] at o1
        exact ((List.map_inj_right (fun a b q => by cases q; rfl)).mp o1).symm
    refine ifnb (fun h7 => ?_) (fun h7 => ?_)
    · walk_at "rd"
      refine ifT rfl ?_
      walk_at "rd"
      refine no (fun ⟨w, e, k⟩ => ?_) _ Z2.hh
      cases w with
      | none => cases e
      | some p =>
        obtain ⟨o, ho, rfl, _⟩ := bad _ (fin _ _ e)
        have := k.2.2 o (List.mem_of_getElem? ho)
        have h7' : (decide (0 ≤ o) && decide (o < (m : Int))) = false := h7
        rw [decide_eq_true this.1, decide_eq_true this.2] at h7'
        cases h7'
    obtain ⟨o, rfl, h8, h9⟩ : ∃ o, di = .int o ∧ 0 ≤ o ∧ o < (m : Int) := by
      cases di with
      | int o =>
        have h7' : (decide (0 ≤ o) && decide (o < (m : Int))) = true := h7
        rw [Bool.and_eq_true] at h7'
        exact ⟨o, rfl, of_decide_eq_true h7'.1, of_decide_eq_true h7'.2⟩
      | _ => cases h7
    cases hxi
    walk_at "rd"
    refine r_ixT (SqT.of (Z2.fh _ _ hp)) (at_i (by decide) rfl) ?_
    walk_at "rd"
    refine r_slL Z2 (SqL.of (Z2.fh _ _ hl)) (fun p3 H3 Z3 => ?_)
    have ey : ys.take i = os.map V.int := by
      have := (hy.take i)
      rw [o1] at this
      exact this.of_ints
    rw [cut_take, ey] at Z3
    refine r_inL (SqL.of (Z3.get (i := 0) rfl)) rfl (flat_ints _) ?_
    rw [if_neg (by decide), inV_int]
    walk_at "rd"
    refine ifd (fun h10 => ?_) (fun h10 => ?_)
    · walk_at "rd"
      refine no (fun ⟨w, e, k⟩ => ?_) _ Z3.hh
      cases w with
      | none => cases e
      | some p =>
        obtain ⟨o', ho, e3, e4⟩ := bad _ (fin _ _ e)
        cases e3
        rw [e4] at h10
        have nd := k.2.1
        obtain ⟨j, hj⟩ := List.mem_iff_getElem?.mp h10
        rw [List.getElem?_take] at hj
        split at hj
        · rename_i lt
          have := nd_ix nd ho hj
          omega
        · cases hj
    · walk_at "rd"
      refine ⟨_, _, rfl, Z3.nil, os ++ [o], ?_, ?_, ?_⟩
      · rw [take_snoc hdi, o1, List.map_append] <;> rfl
      · rw [List.nodup_append]
        exact ⟨o2, by simp, fun a ha b hb => by
          rw [List.mem_singleton] at hb
          subst hb
          exact fun q => h10 (q ▸ ha)⟩
      · intro a ha
        rcases List.mem_append.mp ha with ha | ha
        · exact o3 a ha
        · rw [List.mem_singleton] at ha
          subst ha
          exact ⟨h8, h9⟩
  · rintro σ' H' ⟨x2, x3, rfl, Z', os, o1, o2, o3⟩
    rw [hlen, List.take_length] at o1
    walk_at "rd"
    refine yes ⟨some (bw, os), ?_, ?_, o2, o3⟩ _ Z'.hh
    · rw [o1] <;> rfl
    · intro e
      subst e
      rw [o1] at h6
      cases h6
end SB
/-! Attributes, methods, makings, dicts: readings over the state kit. -/
namespace SB
open PySem L2
/-! ### attributes -/
def FldQ (K : PySem.W.Frag) (f : Str) (Q : VK) : VK := fun x H1 => ∃ a C dx fs v, x = .ref a ∧ H1 a = some (.ins C dx fs) ∧ Cls K C ∧ NoAttr K C f ∧ fs.lookup f = some v ∧ Q v H1
def SFldQ (K : PySem.W.Frag) (f : Str) (y : V) (P : St → Hp → Prop) (σ : St) : VK := fun x H2 => ∃ a C dx fs, x = .ref a ∧ H2 a = some (.ins C dx fs) ∧ Cls K C ∧ NoAttr K C f ∧ fs.length < 1000 ∧ P σ (upd H2 a (.ins C dx (putF f y fs)))
def MethQ (C : Addr) (m : Str) (sp : Sp) (dvs : List V) (E : XK) (t : TA) (σ : St) (Q : VK) : VK := fun x H1 => ∃ a dx fs, x = .ref a ∧ H1 a = some (.ins C dx fs) ∧ fs.lookup m = none ∧ t σ H1 fun vs H2 => sp (x :: (vs ++ dvs)) H2 Q E
def MkQ (Q : VK) (x : Addr) : VK := fun v H2 => v = .non ∧ Q (.ref x) H2
def MakeQ (C : Addr) (sp : Sp) (dvs : List V) (E : XK) (Q : VK) (vs : List V) (H1 : Hp) : Prop := ∀ x dx, H1 x = none → H1 dx = none → dx ≠ x → sp (.ref x :: (vs ++ dvs)) (upd (upd H1 dx (.own x)) x (.ins C dx [])) (MkQ Q x) E
section
variable {K : PySem.W.Frag} {σ : St} {H : Hp} {Q : VK} {D : Ends} {ta tv : TE} {t : TA} {f m : Str} {C dx a : Addr} {fs : List (Str × V)} {v y : V} {P : St → Hp → Prop} {sp : Sp} {dvs : List V} {E : XK}
theorem r_fld (h : ta σ H (FldQ K f Q)) : tFld K ta f σ H Q := h
theorem r_fldQ (c : Cls K C) (n : NoAttr K C f) (e : H a = some (.ins C dx fs)) (l : fs.lookup f = some v) (k : Q v H) : FldQ K f Q (.ref a) H := ⟨a, C, dx, fs, v, rfl, e, c, n, l, k⟩
theorem r_sfld (h : tv σ H fun y H1 => ta σ H1 (SFldQ K f y D.nx σ)) : sFld K ta tv f D σ H := h
theorem r_sfldQ {F0 H0 F : Hp} {L : List (Addr × HO)} (c : Cls K C) (n : NoAttr K C f) (i : Nat) (Z : Zs F0 H0 F H L) (e : L[i]? = some (a, .ins C dx fs)) (hl : fs.length < 1000) (k : ∀ H', Zs F0 H0 F H' (L.set i (a, .ins C dx (putF f y fs))) → P σ H') : SFldQ K f y P σ (.ref a) H :=
  ⟨a, C, dx, fs, rfl, Z.get e, c, n, hl, k _ (Z.setAt i e)⟩
theorem r_meth (h : ta σ H (MethQ C m sp dvs E t σ Q)) : tMeth C m sp dvs E ta t σ H Q := h
theorem r_methQ (e : H a = some (.ins C dx fs)) (l : fs.lookup m = none) (h : t σ H fun vs H2 => sp (.ref a :: (vs ++ dvs)) H2 Q E) : MethQ C m sp dvs E t σ Q (.ref a) H := ⟨a, dx, fs, rfl, e, l, h⟩
theorem r_make (h : t σ H (MakeQ C sp dvs E Q)) : tMake C sp dvs E t σ H Q := h
theorem r_makeQ {F0 H0 F : Hp} {L : List (Addr × HO)} {vs : List V} (Z : Zs F0 H0 F H L) (k : ∀ x dx H', Zs F0 H0 F H' ((x, .ins C dx []) :: L) → sp (.ref x :: (vs ++ dvs)) H' (MkQ Q x) E) : MakeQ C sp dvs E Q vs H := by
  intro x dx hx hd ne
  have Z1 := Z.alloc (o := .own x) hd
  have Z2 := Z1.alloc (p := x) (o := .ins C dx []) (by rw [upd_ne ne.symm]; exact hx)
  exact k x dx _ (Z2.dropAt 1)
end
theorem Zs.perm {F0 H0 F H : Hp} {L L' : List (Addr × HO)} (Z : Zs F0 H0 F H L) (h : L.Perm L') : Zs F0 H0 F H L' := ⟨Z.ff, Z.hh, Z.fh, Z.sep, fun q hq => Z.led q (h.mem_iff.mpr hq), (h.map _).nodup Z.nd⟩
/-! ### dicts -/
section
variable {K : PySem.W.Frag} {σ : St} {H : Hp} {Q : VK} {D : Ends} {td ty tv te : TE} {a : Addr} {kvs : List (Key × V)} {x y v : V} {k : Key} {P : St → Hp → Prop}
def DGQ (Q : VK) (x : V) : VK := fun y H2 => ∃ a v, x = .ref a ∧ DGet H2 a y (some v) ∧ Q v H2
def DPQ (v : V) (P : St → Hp → Prop) (σ : St) (x : V) : VK := fun y H3 => ∃ a H4, x = .ref a ∧ DPut H3 a y v H4 ∧ P σ H4
theorem r_dget (h : td σ H fun x H1 => ty σ H1 (DGQ Q x)) : tDGet td ty σ H Q := h
theorem r_dgetQ {k : Str} (e : H a = some (.dK kvs)) (l : valV kvs (.inr k) = some v) (q : Q v H) : DGQ Q (.ref a) (.str k) H := ⟨a, v, rfl, by rw [← l]; exact DGet.k (k := .inr k) e, q⟩
theorem r_dput (h : tv σ H fun v H1 => td σ H1 fun x H2 => ty σ H2 (DPQ v D.nx σ x)) : sDPut td ty tv D σ H := h
theorem r_dputQ {F0 H0 F : Hp} {L : List (Addr × HO)} {k : Str} (i : Nat) (Z : Zs F0 H0 F H L) (e : L[i]? = some (a, .dK kvs)) (hl : kvs.length < 100000) (q : ∀ H', Zs F0 H0 F H' (L.set i (a, .dK (putK kvs (.inr k) v))) → P σ H') : DPQ v P σ (.ref a) (.str k) H :=
  ⟨a, _, rfl, DPut.k (k := .inr k) (Z.get e) (sz_lt hl), q _ (Z.setAt i e)⟩
/-- a display -/
def DispQ (Q : VK) (p : Addr) : List (V × V) → Hp → Prop := fun ps H2 => H2 p = some (.dK []) ∧ ∃ kvs : List (Key × V), ps = kvs.map (fun kv => (kV kv.1, kv.2)) ∧ kvs.length ≤ 15 ∧ Q (.ref p) (upd H2 p (.dK (mergeK [] kvs)))
def DispN (trs : List (TE × TE)) (σ : St) (Q : VK) (H : Hp) : Prop := ∀ p, H p = none → tPairs trs σ (upd H p (.dK [])) (DispQ Q p)
theorem r_disp {trs : List (TE × TE)} {F0 H0 F : Hp} {L : List (Addr × HO)} (Z : Zs F0 H0 F H L) (k : ∀ p H', Zs F0 H0 F H' ((p, .dK []) :: L) → tPairs trs σ H' (DispQ Q p)) : tDisp trs σ H Q := fun p hp => k p _ (Z.alloc hp)
theorem r_pnil {R : List (V × V) → Hp → Prop} (h : R [] H) : tPairs [] σ H R := h
theorem r_pcons {tr : List (TE × TE)} {R : List (V × V) → Hp → Prop} (h : td σ H fun x H1 => ty σ H1 fun y H2 => tPairs tr σ H2 fun ps H3 => R ((x, y) :: ps) H3) : tPairs ((td, ty) :: tr) σ H R := h
theorem r_dispQ {p : Addr} {F0 H0 F : Hp} {L : List (Addr × HO)} {ps : List (V × V)} (i : Nat) (kvs : List (Key × V)) (Z : Zs F0 H0 F H L) (e : L[i]? = some (p, .dK [])) (hp : ps = kvs.map (fun kv => (kV kv.1, kv.2))) (hl : kvs.length ≤ 15)
    (k : ∀ H', Zs F0 H0 F H' (L.set i (p, .dK (mergeK [] kvs))) → Q (.ref p) H') : DispQ Q p ps H := ⟨Z.get e, kvs, hp, hl, k _ (Z.setAt i e)⟩
end
/-! ### letters -/
/-- a letter: its word, who sent it, whom it is for -/
abbrev Lt := Str × Int × Int
def dLt (l : Lt) : PyData := .tuple [.str l.1, .int l.2.1, .int l.2.2]
def dLts (ls : List Lt) : List PyData := ls.map dLt
theorem Td.inv_lt {F : Hp} {v : V} {l : Lt} (h : Td F v (dLt l)) : ∃ a, v = .ref a ∧ F a = some (.tup [.str l.1, .int l.2.1, .int l.2.2]) := by
  obtain ⟨a, xs, rfl, h1, h2⟩ := Td.inv_tup h
  cases h2 with
  | cons k1 k2 =>
    cases k2 with
    | cons k3 k4 =>
      cases k4 with
      | cons k5 k6 =>
        cases k6
        cases k1
        cases k3
        cases k5
        exact ⟨a, rfl, h1⟩
theorem Td.mk_lt {F : Hp} {a : Addr} {l : Lt} (h : F a = some (.tup [.str l.1, .int l.2.1, .int l.2.2])) : Td F (.ref a) (dLt l) := .tup h (.cons (.str _) (.cons (.int _) (.cons (.int _) .nil)))
/-! ### remove, pop, reverse, clear -/
section
variable {K : PySem.W.Frag} {F0 H0 F H : Hp} {L : List (Addr × HO)} {Q : VK} {l : Addr} {xs : List V} {y : V}
theorem r_reverse (i : Nat) (Z : Zs F0 H0 F H L) (h : L[i]? = some (l, .lst xs)) (k : ∀ H', Zs F0 H0 F H' (L.set i (l, .lst xs.reverse)) → Q .non H') : rReverse (.ref l) [] H Q := ⟨l, xs, rfl, rfl, Z.get h, k _ (Z.setAt i h)⟩
theorem r_clear (i : Nat) (Z : Zs F0 H0 F H L) (h : L[i]? = some (l, .lst xs)) (k : ∀ H', Zs F0 H0 F H' (L.set i (l, .lst [])) → Q .non H') : rClear (.ref l) [] H Q := ⟨l, xs, rfl, rfl, Z.get h, k _ (Z.setAt i h)⟩
theorem r_popAt (i : Nat) {c : Int} {j : Nat} (Z : Zs F0 H0 F H L) (h : L[i]? = some (l, .lst xs)) (hc : c = (j : Int)) (hz : xs.length ≤ 100000) (hj : xs[j]? = some y) (k : ∀ H', Zs F0 H0 F H' (L.set i (l, .lst (xs.eraseIdx j))) → Q y H') : rPopAt (.ref l) [.int c] H Q := by
  have hlt := (List.getElem?_eq_some_iff.mp hj).1
  subst hc
  refine ⟨l, xs, (j : Int), j, y, rfl, rfl, Z.get h, by omega, by omega, ?_, hj, k _ (Z.setAt i h)⟩
  unfold PySem.seqIndex?
  have e1 : ¬ ((j : Int) < 0) := by omega
  have e2 : (0 : Int) ≤ (j : Int) := by omega
  have e3 : (j : Int) < (xs.length : Int) := by omega
  simp only [e1, if_false, e2, e3, decide_true, Bool.and_self, if_true, Int.toNat_natCast]
theorem r_remI (i : Nat) {ns : List Int} {n : Int} {j : Nat} (Z : Zs F0 H0 F H L) (h : L[i]? = some (l, .lst (ns.map V.int))) (hj : ns[j]? = some n) (hno : ∀ m : Nat, m < j → ns[m]? ≠ some n) (k : ∀ H', Zs F0 H0 F H' (L.set i (l, .lst ((ns.eraseIdx j).map V.int))) → Q .non H') : rRemI (.ref l) [.int n] H Q :=
  ⟨l, ns, n, j, rfl, rfl, Z.get h, hj, hno, k _ (Z.setAt i h)⟩
end
end SB
/-! Errors: own rules (B.__init__ of an own base; isinstance of a caught error with or without a dict), short names. -/
namespace SB
open PySem PySem.Spec PyProof.Rows L2
/-- B.__init__(e, ..), B an own class over ValueError that has none of its own -/
theorem pe_clinit {X : Cx} {x : Str} {B : Addr} {mc : Value} {e : Expr} {es : List Expr} {ta : TA} {p1 p2 pos : Pos} {pl : Sem Bool} (hg : Gl X x) (hm : X.mg x = some (.ref B)) (rd : PySem.W.readsIn X.K B mc = true)
    (ga : PySem.W.specialIn X.K (.ref B) "__getattribute__" = some (some (.builtin "type.__getattribute__"))) (vB : PySem.W.findCls X.K (.ref B) mc "__init__" = some (.val (.builtin "ValueError.__init__"))) (ha : PA X (e :: es) ta)
    (hdb : (x == ("__debug__" : Str)) = false := by decide)
    (hc : eval (.Call (.Attribute (.Name x p1) "__init__" p2) (e :: es) [] pos) X.env = (do
      let cls ← eval (.Name x p1) X.env
      standAt p2.atName
      let (fn, self) ← holding [cls] (getMethod cls "__init__" pl)
      callWith pos fn self (backTo pos (starEach (e :: es) X.env)) (backToKw pos (keywordEach [] X.env))) := by rfl)
    (h1 : starEach (e :: es) X.env = (false, eval e X.env) :: starEach es X.env := by rfl) (h2 : (backTo pos (starEach es X.env)).any (·.1) = false := by rfl) :
    PE X (.Call (.Attribute (.Name x p1) "__init__" p2) (e :: es) [] pos) (tVeI X.K ta) := by
  constructor
  intro pins s σ H Q I h
  refine PySem.W.methodCall_KW (ld_glob I hg hm ?_ hdb) hc
  refine PySem.W.method_cls I.kIn ga (PySem.W.cls_value I.kIn rd vB (by decide +kernel) ?_)
  show wpAny _ _ (callWith pos (Value.builtin "ValueError.__init__") [] (backTo pos (starEach (e :: es) X.env)) (backToKw pos (keywordEach [] X.env))) _ _ _
  refine PyProof.Rows.callWith_method1 (thn (ha.run pos pins _ σ H _ (I.tok _) h) fun us s1 hh => ?_) h1 h2
  obtain ⟨vs, H1, I1, r1, a, C, ws, ev, hl, T, ea, q⟩ := hh
  subst ev
  cases r1 with
  | @cons _ u0 _ ur ra rb =>
    obtain rfl : u0 = Value.ref a := ra
    have hz : ur.length ≤ sizeLine := by
      have := Paired.length rb
      rw [sizeLine_eq]
      omega
    exact oinit_ok T I1 ea hz fun s' J => ⟨.non, H1, J, rfl, q⟩
/-- isinstance(e, c), e the error that the suite holds: its class cls, its dict d, if any -/
structure ErrC (K : PySem.W.Frag) (D : Addr) : Prop where
  cl : PySem.W.isClsIn K D = true
  hg : PySem.W.findIn K (.ref D) "__getattribute__" = some (some (.builtin "BaseException.__getattribute__"))
  hk : PySem.W.findIn K (.ref D) "__getattr__" = some none
  hs : PySem.W.subIn K (.ref D) (.type "BaseException") = some true
  ha : PySem.W.findIn K (.ref D) "__class__" = some (some (.builtin "object.__class__"))
  hm : PySem.W.mroIn K D (.type "object") = some true
structure ErrG (K : PySem.W.Frag) : Prop where
  hn : PySem.W.specialIn K (.builtin "object.__class__") "__get__" = some (some (.builtin "getset_descriptor.__get__"))
  ht : PySem.W.takesIn K (.builtin "object.__class__") = some true
def qIsE (K : PySem.W.Frag) (a : Addr) (cls : Value) (d : Option Addr) : List V → Hp → VK → Prop := fun xs H Q => ∃ (D : Addr) (c : V) (cv : Value) (b : Bool), cls = .ref D ∧ ErrC K D ∧ (d = none ∨ ∃ dd fs, d = some dd ∧ H dd = some (.xd fs)) ∧ xs = [.ref a, c] ∧ (∀ u, RelV c u → u = cv) ∧ PySem.W.kitOne K (.ref D) cv = some b ∧ Q (.bl b) H
theorem call_isEq {X : Cx} {a : Addr} {oe : Obj} {cls : Value} {d : Option Addr} {pn : List (Addr × Obj)} (G : ErrG X.K) (hz : Zc cls d oe) (hf : ∃ vs, oe.data = .fields vs) : CallR (X.suite a ((a, oe) :: pn)) (.builtin "isinstance") (qIsE X.K a cls d) := by
  intro pins s σ H xs us Q I r h
  obtain ⟨D, c, cv, b, rfl, C, hdd, rfl, hcv, e, q⟩ := h
  cases r with
  | cons rx rr =>
    cases rr with
    | cons rt rr =>
      cases rr
      cases rx
      rw [hcv _ rt]
      have hget := (I.pin (a, oe) (List.mem_append.mpr (.inl List.mem_cons_self))).1
      obtain ⟨vs, hv⟩ := hf
      have hnc : PySem.W.notCls oe = true := by unfold PySem.W.notCls; rw [hv] <;> rfl
      have fin : ∀ od : Option Obj, PySem.W.InstAt s.heap a oe D od → wpAny (model X.prog X.w) (X.suite a ((a, oe) :: pn)).A (call (.builtin "isinstance") [.ref a, cv]) (EP (X.suite a ((a, oe) :: pn)) pins σ Q) (X.suite a ((a, oe) :: pn)).xe s := fun od J =>
        PySem.W.kia_one (PySem.W.kitx_exc (od := od) C.cl C.hg C.hk C.hs C.ha G.hn G.ht C.hm) I.kIn J e (fun z => nomatch z) fun tk => ⟨.bl b, H, I.kept (t' := tk) fun _ _ z => z, rfl, q⟩
      rcases hdd with rfl | ⟨dd, fs, rfl, hx⟩
      · exact fin none ⟨hget, hz.1, hnc, by rw [hz.2]; trivial⟩
      · have ho : ObjOk X.prog X.w H s.heap dd (.xd fs) := I.hok dd _ hx
        obtain ⟨mA, hns, _⟩ := ho
        obtain ⟨od, ho, _⟩ := lookIn_ns hns
        exact fin (some od) ⟨hget, hz.1, hnc, by rw [hz.2]; exact ho⟩
/-! ### raise, try -/
def tRaise (t : L2.St → Hp → XK → Prop) (E : XK) : TS := fun _ σ H => t σ H fun cls d H' => E cls d H'
def tMkN (C : Addr) : L2.St → Hp → XK → Prop := fun _ H Q => Q (.ref C) none H
def tTryAs (K : PySem.W.Frag) (c : Value) (i : Nat) (tb : WX → TS) (ts : Addr → Value → Option Addr → TS) : TS := fun D σ H => tb (wAs K c i ts (fun _ _ _ _ => False) D) D σ H
section
variable {K : PySem.W.Frag} {σ : L2.St} {H : Hp} {D : Ends} {E : XK} {C : Addr}
theorem r_raiseN (k : E (.ref C) none H) : tRaise (tMkN C) E D σ H := k
end
/-! ### what the program's errors are -/
structure ErrOk (K : PySem.W.Frag) (A : Ad) : Prop where
  ox : OexC K A.cBadWaits
  noAt : PySem.W.findIn K (.ref A.cBadWaits) "at" = some none
  xf : XfC K A.cBadWaits
  g : ErrG K
  cB : ErrC K A.cBadWaits
  bb : PySem.W.exmOne K (.ref A.cBadWaits) (.ref A.cBadWaits) = some true
  bl : PySem.W.exmOne K (.ref A.cBadWaits) (.ref A.cBellError) = some true
  kBH : PySem.W.kitOne K (.ref A.cBadWaits) (.ref A.cNoHand) = some false
  kBL : PySem.W.kitOne K (.ref A.cBadWaits) (.ref A.cNoLetter) = some false
  kBV : PySem.W.kitOne K (.ref A.cBadWaits) (.type "ValueError") = some true
def pr_BadWaits_init (K : PySem.W.Frag) (A : Ad) : V → V → Hp → VK → XK → Prop := fun a b H Q _ => ∃ (x C : Addr), a = .ref x ∧ OexC K C ∧ PySem.W.findIn K (.ref C) "at" = some none ∧ H x = some (exo x C none) ∧ ∀ dx, H dx = none → dx ≠ x → Q .non (upd (upd H dx (exd dx [("at", b)])) x (exo x C (some dx)))
abbrev sp_BadWaits_init (K : PySem.W.Frag) (A : Ad) : Sp := sp2 (pr_BadWaits_init K A)
def t_BadWaits_init (K : PySem.W.Frag) (A : Ad) : TS :=
    (tSeq (tDrop (tVeI K (tCons (tVar 0) (tCons (tC (.str "no waits")) tNil))))
    (tOst K "at" (tVar 0) (tVar 1)))
theorem rd_BadWaits_init {K : PySem.W.Frag} {A : Ad} {a b : V} {H : Hp} {Q : VK} {E : XK} (h : pr_BadWaits_init K A a b H Q E) : t_BadWaits_init K A { nx := fun _ H' => Q .non H', rt := Q } [some a, some b] H := by
  obtain ⟨x, C, rfl, ox, no, ex, q⟩ := h
  unfold t_BadWaits_init
  walk_at "rd"
  refine ⟨_, rfl, ?_⟩
  walk_at "rd"
  refine ⟨x, C, _, rfl, by decide, ox, ex, ?_⟩
  exact ⟨_, rfl, _, rfl, x, C, rfl, ox, no, .inl ⟨ex, fun dx h1 h2 => q dx h1 h2⟩⟩
/-- what is wished where BadWaits is raised -/
def BadE (A : Ad) (H : Hp) (E : XK) (v : V) : Prop := ∀ d H', Same H H' → H d = none → H' d = some (.xd [("at", v)]) → E (.ref A.cBadWaits) (some d) H'
theorem r_bad {K : PySem.W.Frag} {A : Ad} (O : ErrOk K A) {H : Hp} {E : XK} {v : V} (k : BadE A H E v) : [v].length ≤ 1000 ∧ ∀ a, H a = none → sp_BadWaits_init K A (.ref a :: ([v] ++ [])) (upd H a (exo a A.cBadWaits none))
    (fun v H2 => v = .non ∧ ∃ (d : Addr) (fs : List (Str × V)), H2 a = some (exo a A.cBadWaits (some d)) ∧ H2 d = some (exd d fs) ∧ H d = none ∧ E (.ref A.cBadWaits) (some d) (upd (del H2 a) d (.xd fs))) (fun _ _ _ => False) := by
  refine ⟨by show 1 ≤ 1000; decide, fun a ha => ⟨_, _, rfl, a, A.cBadWaits, rfl, O.ox, O.noAt, upd_same, fun dx hd hn => ?_⟩⟩
  have hd0 : H dx = none := by rw [upd_ne hn] at hd; exact hd
  refine ⟨rfl, dx, [("at", v)], upd_same, by rw [upd_ne hn, upd_same], hd0, k dx _ (fun b o hb => ?_) hd0 upd_same⟩
  have n1 : b ≠ dx := fun z => by rw [z, hd0] at hb; cases hb
  have n2 : b ≠ a := fun z => by rw [z, ha] at hb; cases hb
  rw [upd_ne n1, del_ne n2, upd_ne n2, upd_ne n1, upd_ne n2]
  exact hb
end SB
namespace SB
open PySem PySem.Spec PyProof.Rows L2
theorem ps_raiseX {X : Cx} {e : Expr} {t : L2.St → Hp → XK → Prop} {E : XK} {pos : Pos} (hc : X.calm = true) (tk : Takes X (fun cls d _ H => E cls d H)) (he : PMk X e t) : PS X (.Raise (some e) none pos) (tRaise t E) := ps_raise hc tk he
theorem ps_tryA {X : Cx} {x n : Str} {c : Value} {i : Nat} {body suite : List Stmt} {b₀ : Stmt} {np pos pos' : Pos} {tb : WX → TS} {ts : Addr → Value → Option Addr → TS}
    (hs : X.stack = X.env :: X.outer) (hf : X.env.frame = some X.env.locals) (hN : X.N.Nodup) (hi : X.N[i]? = some n) (hln : X.env.kindOf n = some .local) (hc : Names X x c) (tk : Takes X (fun _ _ _ _ => False))
    (hb : ∀ (W : WX) (pn : List (Addr × Obj)) (xe : Value → Shared → Prop), Takes (X.tr pn xe) W → PassesOwn (model X.prog X.w) X.A X.env xe → PSs (X.tr pn xe) body (tb W))
    (hsu : ∀ (a : Addr) (oe : Obj) (cls : Value) (d : Option Addr) (pn : List (Addr × Obj)), Zc cls d oe → (∃ vs, oe.data = .fields vs) → PSs (X.suite a ((a, oe) :: pn)) (b₀ :: suite) (ts a cls d)) :
    PS X (.Try body [.ExceptHandler (some (.Name x np)) (some n) (b₀ :: suite) pos'] [] [] pos) (tTryAs X.K c i tb ts) := ps_try_as hs hf hN hi hln hc tk hb hsu
abbrev qNeg : V → Hp → VK → Prop := rU fun i => .int (-i)
abbrev qPow : R2 := rI CPow fun i j => .int (i ^ j.toNat)
def qTupOf (K : PySem.W.Frag) : List V → Hp → VK → Prop := fun xs H Q => ∃ p ys, xs = [.ref p] ∧ ((SqL K H p ys ∧ ∀ l, H l = none → Q (.ref l) (upd H l (.tup ys))) ∨ (SqT K H p ys ∧ Q (.ref p) H))
def qInsert : V → List V → Hp → VK → Prop := fun x vs H Q => ∃ (l : Addr) (xs : List V) (i : Int) (y : V), x = .ref l ∧ vs = [.int i, y] ∧ H l = some (.lst xs) ∧ xs.length < sizeLine ∧ 0 ≤ i ∧ i < 2 ^ 63 ∧ Q .non (upd H l (.lst (xs.take i.toNat ++ [y] ++ xs.drop i.toNat)))
section
variable {X : Cx}
theorem call_tuple_ofq : CallR X (.type "tuple") (qTupOf X.K) := call_tuple_of
theorem mt_insertq : MtR X "list.insert" qInsert := mt_insert
end
section
variable {K : PySem.W.Frag} {σ : L2.St} {F0 H0 F H : Hp} {L : List (Addr × HO)} {Q : VK} {D : Ends} {E : XK} {C p : Addr} {sp : Sp} {dvs xs : List V} {ta : TA} {te : TE} {r : V → Hp → VK → Prop} {g : Int → V} {i : Int} {y : V}
theorem r_raiseO (h : ta σ H fun vs H1 => vs.length ≤ 1000 ∧ ∀ a, H1 a = none → sp (.ref a :: (vs ++ dvs)) (upd H1 a (exo a C none))
    (fun v H2 => v = .non ∧ ∃ (d : Addr) (fs : List (Str × V)), H2 a = some (exo a C (some d)) ∧ H2 d = some (exd d fs) ∧ H1 d = none ∧ E (.ref C) (some d) (upd (del H2 a) d (.xd fs))) (fun _ _ _ => False)) : tRaise (tMkO C sp dvs ta) E D σ H := h
theorem r_un (h : te σ H fun x H1 => r x H1 Q) : tUn r te σ H Q := h
theorem r_rU (k : Q (g i) H) : rU g (.int i) H Q := ⟨i, rfl, k⟩
theorem r_tupOfL (h : SqL K H p xs) (Z : Zs F0 H0 F H L) (k : ∀ l H', Zs F0 H0 F H' ((l, .tup xs) :: L) → Q (.ref l) H') : qTupOf K [.ref p] H Q := ⟨p, xs, rfl, .inl ⟨h, fun l hl => k l _ (Z.alloc hl)⟩⟩
theorem r_insert (j : Nat) {m : Nat} (Z : Zs F0 H0 F H L) (h : L[j]? = some (p, .lst xs)) (hi : i = (m : Int)) (hz : xs.length < 100000) (hm : m < 100000) (k : ∀ H', Zs F0 H0 F H' (L.set j (p, .lst (xs.take m ++ [y] ++ xs.drop m))) → Q .non H') : qInsert (.ref p) [.int i, y] H Q := by
  subst hi
  refine ⟨p, xs, (m : Int), y, rfl, rfl, Z.get h, sz_lt hz, by omega, by omega, ?_⟩
  rw [Int.toNat_natCast]
  exact k _ (Z.setAt j h)
end
end SB
/-! The program: need of any data. -/
namespace SB
open PySem L2
theorem BadE.up {A : Ad} {H H1 : Hp} {E : XK} {v : V} (h : BadE A H E v) (s : Same H H1) : BadE A H1 E v := fun d H' s' hd hx => h d H' (s.trans s') (same_none s hd) hx
/-- what is a list of a good length -/
def IsL (d : PyData) : Prop := ∃ ds, d = .list ds ∧ 1 ≤ ds.length ∧ ds.length ≤ 40
/-- the first thing that is none stands at i -/
def FirstBad (ds : List PyData) (i : Nat) : Prop := (∃ x, ds[i]? = some x ∧ ¬ WaitP x ds.length) ∧ ∀ j y, j < i → ds[j]? = some y → WaitP y ds.length
def pr_need (K : PySem.W.Frag) (A : Ad) : V → Hp → VK → XK → Prop := fun a H Q E => ∃ d, Td H a d ∧ SeqAt.shaped d = true ∧ (¬ IsL d → BadE A H E .non) ∧
  ∀ ds, d = .list ds → IsL d → (∀ i, FirstBad ds i → BadE A H E (.int (i : Nat))) ∧ ((∀ x ∈ ds, WaitP x ds.length) → ∀ H', Same H H' → Q (.bl true) H')
abbrev sp_need (K : PySem.W.Frag) (A : Ad) : Sp := sp1 (pr_need K A)
def t_need (K : PySem.W.Frag) (A : Ad) (E : XK) : TS :=
    (tSeq (tIfS (tOr (tNot (tB (tCB (rIsi K) (tCons (tVar 0) (tCons (tC (.ty "list")) tNil))))) (tNot (tTest (tChain qLe qLe (tC (.int 1)) (tCB (qLen K) (tCons (tVar 0) tNil)) (tC (.int 40))))))
    (tRaise (tMkO A.cBadWaits (sp_BadWaits_init K A) [] (tCons (tC .non) tNil)) E)
    tNext)
    (tSeq (tFor (iEnum K (tCons (tVar 0) tNil)) (gTup K 2 (gCons (gName 1) (gCons (gName 2) gNil)))
    (tIfS (tNot (tB (tCall (sp_is_wait K A) [] E0 (tCons (tVar 2) (tCons (tCB (qLen K) (tCons (tVar 0) tNil)) tNil)))))
    (tRaise (tMkO A.cBadWaits (sp_BadWaits_init K A) [] (tCons (tVar 1) tNil)) E)
    tNext))
    (tRet (tC (.bl true)))))
theorem rd_need {K : PySem.W.Frag} {A : Ad} (O : ErrOk K A) {a : V} {H : Hp} {Q : VK} {E : XK} (h : pr_need K A a H Q E) : t_need K A E { nx := fun _ H' => Q .non H', rt := Q } [some a, none, none] H := by
  obtain ⟨d, hd, hsh, hno, hq⟩ := h
  have Z : Zs H H H H [] := Zs.start (Same.refl _)
  unfold t_need
  walk_at "rd"
  refine r_isi hd (ki_list d) ?_
  walk_at "rd"
  by_cases hl : ∃ ds, d = .list ds
  · obtain ⟨ds, rfl⟩ := hl
    obtain ⟨p, xs, rfl, hp, hx⟩ := hd.inv_lst
    have hlen := hx.len
    refine ifF rfl ?_
    walk_at "rd"
    refine r_lenL (SqL.of hp) ?_
    walk_at "rd"
    refine ifd (fun h1 => ?_) (fun h1 => ?_)
    · walk_at "rd"
      refine ifn (fun h2 => ?_) (fun h2 => ?_)
      · refine r_raiseO ?_
        walk_at "rd"
        refine r_bad O (hno ?_)
        rintro ⟨ds', e, _, h3⟩
        cases e
        omega
      · have isl : IsL (.list ds) := ⟨ds, rfl, by omega, by omega⟩
        obtain ⟨hbad, hgood⟩ := hq ds rfl isl
        walk_at "rd"
        refine r_enumI (xs := xs) (SqL.of hp) (fun i σ' H' => ∃ x1 x2, σ' = [some (.ref p), x1, x2] ∧ Zs H H H H' [] ∧ ∀ j y, j < i → ds[j]? = some y → WaitP y ds.length) ⟨none, none, rfl, Z, fun j y h => absurd h (Nat.not_lt_zero _)⟩ (fun i σ' H' _ ⟨_, _, _, Z', _⟩ => SqL.of (Z'.fh _ _ hp)) ?_ ?_
        · rintro i x T σ' H' hi ⟨x1, x2, rfl, Z', hw⟩ hT
          have Z2 := Z'.alloc (o := .tup [.int (i : Nat), x]) hT
          refine r_gt2 (SqT.of (Z2.get (i := 0) rfl)) ?_
          dsimp only [List.set_cons_succ, List.set_cons_zero]
          replace Z2 := Z2.drop
          obtain ⟨di, hdi, hxi⟩ := hx.at hi
          walk_at "rd"
          refine r_lenL (SqL.of (Z2.fh _ _ hp)) ?_
          walk_at "rd"
          refine ⟨di, ds.length, hxi.up Z2.fh, shaped_l hsh (List.mem_of_getElem? hdi), by rw [hlen], fun H3 s3 => ?_⟩
          walk_at "rd"
          by_cases hwp : WaitP di ds.length
          · rw [waitD_t hwp]
            refine ifF rfl ?_
            walk_at "rd"
            refine ⟨_, _, rfl, Z2.ext s3, fun j y hj hy => ?_⟩
            by_cases e : j = i
            · rw [e, hdi] at hy
              cases hy
              exact hwp
            · exact hw j y (by omega) hy
          · rw [waitD_f hwp]
            refine ifT rfl ?_
            refine r_raiseO ?_
            walk_at "rd"
            exact r_bad O ((hbad i ⟨⟨di, hdi, hwp⟩, hw⟩).up (Z2.hh.trans s3))
        · rintro σ' H' ⟨x1, x2, rfl, Z', hw⟩
          walk_at "rd"
          refine hgood (fun x hxm => ?_) _ Z'.hh
          obtain ⟨j, hj⟩ := List.mem_iff_getElem?.mp hxm
          exact hw j x (by rw [hlen]; exact (List.getElem?_eq_some_iff.mp hj).1) hj
    · walk_at "rd"
      refine ifT rfl ?_
      refine r_raiseO ?_
      walk_at "rd"
      refine r_bad O (hno ?_)
      rintro ⟨ds', e, h3, _⟩
      cases e
      omega
  · refine ifT (by cases d <;> first | rfl | exact absurd ⟨_, rfl⟩ hl) ?_
    walk_at "rd"
    refine ifT rfl ?_
    refine r_raiseO ?_
    walk_at "rd"
    refine r_bad O (hno ?_)
    rintro ⟨ds, e, _⟩
    exact hl ⟨ds, e⟩
end SB
/-! Law k01: a thing that is no wait. -/
namespace SB
open PySem L2
def insD {α : Type} (row : List α) (p : Nat) (y : α) : List α := row.take p ++ [y] ++ row.drop p
def placeBy (more : Int) (n : Nat) : Nat := (more / 6 % ((n : Int) + 1)).toNat
def strangeV (size more : Int) : V := [V.int size, .int (-1), .bl true, .non, .str "0", .int ((10 : Int) ^ (30 : Int).toNat)].getD (more % 6).toNat .non
def strangeD (size more : Int) : PyData := [PyData.int size, .int (-1), .bool true, .none, .str "0", .int ((10 : Int) ^ (30 : Int).toNat)].getD (more % 6).toNat .none
def oddWord (more : Int) : Str := [("each" : Str), "", "All", "ANY", "any ", " all", "none", "al"].getD (more / 6 % 8).toNat ""
def dupBy (more : Int) (others : List Int) : Int := others.getD (more % (others.length : Int)).toNat 0
def oddD (k : Nat) (more size : Int) (others : List Int) : PyData :=
  match k with
  | 0 => .tuple [.str (wd false), .list (insD (others.map PyData.int) (placeBy more others.length) (strangeD size more))]
  | 1 => .tuple [.str (wd false), .list (insD (others.map PyData.int) (placeBy more others.length) (.int (dupBy more others)))]
  | 2 => .tuple [.str (wd true), .list (insD (others.map PyData.int) (placeBy more others.length) (strangeD size more))]
  | 3 => .tuple [.str (wd true), .list (insD (others.map PyData.int) (placeBy more others.length) (.int (dupBy more others)))]
  | 4 => .tuple [.str "all", .list []]
  | 5 => .tuple [.str "any", .list []]
  | 6 => .tuple [.str (oddWord more), .list (others.map PyData.int)]
  | 7 => .tuple [.str (oddWord more), .list (others.map PyData.int)]
  | 8 => .tuple [.str "any", .tuple (others.map PyData.int)]
  | 9 => .list [.str "any", .list (others.map PyData.int)]
  | 10 => .tuple [.str "any", .list (others.map PyData.int), .list (others.map PyData.int)]
  | 11 => .tuple [.str "any"]
  | 12 => .tuple [.int 1, .list (others.map PyData.int)]
  | 13 => .tuple [.str "any", .int 0]
  | 14 => .str "any"
  | 15 => .int 0
  | 16 => .bool true
  | 17 => .tuple []
  | 18 => .tuple [.none, .list (others.map PyData.int)]
  | _ => .none
theorem six (more : Int) : more % 6 = 0 ∨ more % 6 = 1 ∨ more % 6 = 2 ∨ more % 6 = 3 ∨ more % 6 = 4 ∨ more % 6 = 5 := by omega
theorem eight (x : Int) : x % 8 = 0 ∨ x % 8 = 1 ∨ x % 8 = 2 ∨ x % 8 = 3 ∨ x % 8 = 4 ∨ x % 8 = 5 ∨ x % 8 = 6 ∨ x % 8 = 7 := by omega
theorem strange_at (size more : Int) : atI [V.int size, .int (-1), .bl true, .non, .str "0", .int ((10 : Int) ^ (30 : Int).toNat)] (more % 6) = some (strangeV size more) := by
  refine at_i (by omega) ?_
  unfold strangeV
  rcases six more with e | e | e | e | e | e <;> rw [e] <;> rfl
theorem strange_td {F : Hp} (size more : Int) : Td F (strangeV size more) (strangeD size more) := by
  unfold strangeV strangeD
  rcases six more with e | e | e | e | e | e <;> rw [e]
  · exact .int _
  · exact .int _
  · exact .bl _
  · exact .non
  · exact .str _
  · exact .int _
theorem strange_no {size more : Int} {o : Int} (hs : size ≤ 40) (e : strangeD size more = .int o) : ¬ (0 ≤ o ∧ o < size) := by
  unfold strangeD at e
  rcases six more with z | z | z | z | z | z <;> rw [z] at e
  · have e2 : PyData.int size = .int o := e
    cases e2
    omega
  · have e2 : PyData.int (-1) = .int o := e
    cases e2
    omega
  · have e2 : PyData.bool true = .int o := e
    cases e2
  · have e2 : PyData.none = .int o := e
    cases e2
  · have e2 : PyData.str "0" = .int o := e
    cases e2
  · have e2 : PyData.int ((10 : Int) ^ (30 : Int).toNat) = .int o := e
    have e3 : ((10 : Int) ^ (30 : Int).toNat) = o := by cases e2; rfl
    have e4 : (40 : Int) < (10 : Int) ^ (30 : Int).toNat := by decide +kernel
    omega
theorem word_at8 (more : Int) : atI [V.str "each", .str "", .str "All", .str "ANY", .str "any ", .str " all", .str "none", .str "al"] (more / 6 % 8) = some (.str (oddWord more)) := by
  refine at_i (by omega) ?_
  unfold oddWord
  rcases eight (more / 6) with e | e | e | e | e | e | e | e <;> rw [e] <;> rfl
theorem word_no (more : Int) (b : Bool) : oddWord more ≠ wd b := by
  unfold oddWord
  rcases eight (more / 6) with e | e | e | e | e | e | e | e <;> rw [e] <;> cases b <;> decide +kernel
theorem word_lay (more : Int) : (PyData.str (oddWord more)).canLay0 = true := by
  unfold oddWord
  rcases eight (more / 6) with e | e | e | e | e | e | e | e <;> rw [e] <;> decide +kernel
theorem waitP_inv {x : Str} {es : List PyData} {m : Nat} (h : WaitP (.tuple [.str x, .list es]) m) : (∃ b, x = wd b) ∧ ∃ os : List Int, es = os.map PyData.int ∧ os ≠ [] ∧ os.Nodup ∧ ∀ o ∈ os, 0 ≤ o ∧ o < (m : Int) := by
  obtain ⟨w, e, k⟩ := h
  cases w with
  | none => cases e
  | some p =>
    obtain ⟨b, os⟩ := p
    obtain ⟨e1, e2⟩ := tup_inj2 e
    refine ⟨⟨b, ?_⟩, os, ?_, k.1, k.2.1, k.2.2⟩
    · injection e1
    · injection e2
theorem ins_mem {α : Type} (row : List α) (p : Nat) (y : α) : y ∈ insD row p y := by
  unfold insD
  exact List.mem_append.mpr (.inl (List.mem_append.mpr (.inr (List.mem_singleton.mpr rfl))))
theorem ins_perm {α : Type} (row : List α) (p : Nat) (y : α) : (insD row p y).Perm (y :: row) := by
  unfold insD
  rw [List.append_assoc]
  refine (List.perm_middle (a := y) (l₁ := row.take p) (l₂ := row.drop p)).trans ?_
  rw [List.take_append_drop]
theorem dup_mem {more : Int} {others : List Int} (hne : others ≠ []) : (others.map V.int)[(more % (others.length : Int)).toNat]? = some (.int (dupBy more others)) ∧ dupBy more others ∈ others := by
  have hl : 0 < others.length := List.length_pos_iff.mpr hne
  have h0 := Int.emod_nonneg more (show (others.length : Int) ≠ 0 by omega)
  have h1 := Int.emod_lt_of_pos more (show 0 < (others.length : Int) by omega)
  have h2 : (more % (others.length : Int)).toNat < others.length := by omega
  have e : dupBy more others = others[(more % (others.length : Int)).toNat] := by
    unfold dupBy
    rw [List.getD_eq_getElem?_getD, List.getElem?_eq_getElem h2] <;> rfl
  rw [e]
  exact ⟨get_ints h2, List.getElem_mem h2⟩
theorem odd_no {k : Nat} {more : Int} {others : List Int} {m : Nat} (hk : k < 19) (hm : m ≤ 40) (hne : others ≠ []) : ¬ WaitP (oddD k more (m : Int) others) m := by
  have st : ∀ b, ¬ WaitP (.tuple [.str (wd b), .list (insD (others.map PyData.int) (placeBy more others.length) (strangeD (m : Int) more))]) m := fun b h => by
    obtain ⟨_, os, e, _, _, hr⟩ := waitP_inv h
    have hmem := ins_mem (others.map PyData.int) (placeBy more others.length) (strangeD (m : Int) more)
    rw [e] at hmem
    obtain ⟨o, ho, e2⟩ := List.mem_map.mp hmem
    exact strange_no (by omega) e2.symm (hr o ho)
  have du : ∀ b, ¬ WaitP (.tuple [.str (wd b), .list (insD (others.map PyData.int) (placeBy more others.length) (.int (dupBy more others)))]) m := fun b h => by
    obtain ⟨_, os, e, _, nd, _⟩ := waitP_inv h
    have hp := ins_perm (others.map PyData.int) (placeBy more others.length) (.int (dupBy more others))
    have hnd : (os.map PyData.int).Nodup := by
      rw [List.nodup_iff_pairwise_ne, List.pairwise_map]
      exact (List.nodup_iff_pairwise_ne.mp nd).imp fun h q => h (by injection q)
    rw [← e, hp.nodup_iff] at hnd
    exact (List.nodup_cons.mp hnd).1 (List.mem_map.mpr ⟨_, (dup_mem (more := more) hne).2, rfl⟩)
  have wo : ¬ WaitP (.tuple [.str (oddWord more), .list (others.map PyData.int)]) m := fun h => by
    obtain ⟨⟨b, e⟩, _⟩ := waitP_inv h
    exact word_no more b e
  have em : ∀ x, ¬ WaitP (.tuple [.str x, .list []]) m := fun x h => by
    obtain ⟨_, os, e, hn, _⟩ := waitP_inv h
    cases os with
    | nil => exact hn rfl
    | cons a l => cases e
  have other : ∀ d : PyData, d ≠ .none → (∀ b os, d ≠ dW (some (b, os))) → ¬ WaitP d m := fun d h1 h2 => by
    rintro ⟨w, e, _⟩
    cases w with
    | none => exact h1 e
    | some p => exact h2 p.1 p.2 e
  match k, hk with
  | 0, _ => exact st false
  | 1, _ => exact du false
  | 2, _ => exact st true
  | 3, _ => exact du true
  | 4, _ => exact em _
  | 5, _ => exact em _
  | 6, _ => exact wo
  | 7, _ => exact wo
  | 8, _ => exact other _ (fun z => nomatch z) fun b os e => nomatch (tup_inj2 e).2
  | 9, _ => exact other _ (fun z => nomatch z) fun b os e => nomatch e
  | 10, _ =>
    refine other _ (fun z => nomatch z) fun b os e => ?_
    have e : PyData.tuple [.str "any", .list (others.map PyData.int), .list (others.map PyData.int)] = .tuple [.str (wd b), .list (os.map PyData.int)] := e
    injection e with e
    injection e with _ e
    injection e with _ e
    cases e
  | 11, _ =>
    refine other _ (fun z => nomatch z) fun b os e => ?_
    have e : PyData.tuple [.str "any"] = .tuple [.str (wd b), .list (os.map PyData.int)] := e
    injection e with e
    injection e with _ e
    cases e
  | 12, _ => exact other _ (fun z => nomatch z) fun b os e => nomatch (tup_inj2 e).1
  | 13, _ => exact other _ (fun z => nomatch z) fun b os e => nomatch (tup_inj2 e).2
  | 14, _ => exact other _ (fun z => nomatch z) fun b os e => nomatch e
  | 15, _ => exact other _ (fun z => nomatch z) fun b os e => nomatch e
  | 16, _ => exact other _ (fun z => nomatch z) fun b os e => nomatch e
  | 17, _ => exact other _ (fun z => nomatch z) fun b os e => nomatch e
  | 18, _ => exact other _ (fun z => nomatch z) fun b os e => nomatch (tup_inj2 e).1
  | n + 19, h => exact absurd h (by omega)
/-! ### its shape -/
def flat2 (d : PyData) : Prop := d.canLay0 = true ∧ d.depth ≤ 3
theorem layAll_append : ∀ a b : List PyData, PyData.canLayAll0 (a ++ b) = (PyData.canLayAll0 a && PyData.canLayAll0 b)
  | [], b => rfl
  | x :: a, b => by
    show (x.canLay0 && PyData.canLayAll0 (a ++ b)) = ((x.canLay0 && PyData.canLayAll0 a) && PyData.canLayAll0 b)
    rw [layAll_append a b, Bool.and_assoc]
theorem depAll_append : ∀ a b : List PyData, PyData.depthAll (a ++ b) = max (PyData.depthAll a) (PyData.depthAll b)
  | [], b => by show PyData.depthAll b = max 0 _; omega
  | x :: a, b => by
    show max x.depth (PyData.depthAll (a ++ b)) = max (max x.depth (PyData.depthAll a)) (PyData.depthAll b)
    rw [depAll_append a b]
    omega
theorem layAll_mem : ∀ {l : List PyData}, (∀ x ∈ l, x.canLay0 = true) → PyData.canLayAll0 l = true
  | [], _ => rfl
  | a :: l, h => by
    show (a.canLay0 && PyData.canLayAll0 l) = true
    rw [h a List.mem_cons_self, layAll_mem fun x hx => h x (List.mem_cons_of_mem _ hx)] <;> rfl
theorem depAll_mem {n : Nat} : ∀ {l : List PyData}, (∀ x ∈ l, x.depth ≤ n) → PyData.depthAll l ≤ n
  | [], _ => Nat.zero_le _
  | a :: l, h => by
    have h1 := h a List.mem_cons_self
    have h2 := depAll_mem (n := n) (l := l) fun x hx => h x (List.mem_cons_of_mem _ hx)
    show max a.depth (PyData.depthAll l) ≤ n
    omega
theorem strange_flat (size more : Int) : (strangeD size more).canLay0 = true ∧ (strangeD size more).depth = 0 := by
  unfold strangeD
  have h0 : (PyData.str "0").canLay0 = true := by decide +kernel
  rcases six more with e | e | e | e | e | e <;> rw [e] <;> exact ⟨by first | rfl | exact h0, rfl⟩
theorem tup2_flat {x : Str} {es : List PyData} (h1 : (PyData.str x).canLay0 = true) (h2 : PyData.canLayAll0 es = true) (h3 : PyData.depthAll es ≤ 1) : flat2 (.tuple [.str x, .list es]) := by
  constructor
  · show ((PyData.str x).canLay0 && (PyData.canLayAll0 es && true)) = true
    rw [h1, h2] <;> rfl
  · show max 0 (max (PyData.depthAll es + 1) 0) + 1 ≤ 3
    omega
theorem odd_flat (k : Nat) (more size : Int) (others : List Int) : flat2 (oddD k more size others) := by
  have hl : PyData.canLayAll0 (others.map PyData.int) = true := lay_map (fun _ => rfl) others
  have hd : PyData.depthAll (others.map PyData.int) ≤ 0 := dep_map (f := PyData.int) (n := 0) (fun _ => Nat.le_refl 0) others
  have hw : ∀ b, (PyData.str (wd b)).canLay0 = true := fun b => by cases b <;> decide +kernel
  have ha : (PyData.str "any").canLay0 = true := hw true
  have hins : ∀ y : PyData, y.canLay0 = true → y.depth = 0 → PyData.canLayAll0 (insD (others.map PyData.int) (placeBy more others.length) y) = true ∧ PyData.depthAll (insD (others.map PyData.int) (placeBy more others.length) y) ≤ 1 := fun y h1 h2 => by
    have hm : ∀ x ∈ insD (others.map PyData.int) (placeBy more others.length) y, x.canLay0 = true ∧ x.depth ≤ 1 := fun x hx => by
      rcases List.mem_cons.mp ((ins_perm _ _ _).mem_iff.mp hx) with rfl | hx
      · exact ⟨h1, by omega⟩
      · obtain ⟨o, _, rfl⟩ := List.mem_map.mp hx
        exact ⟨rfl, Nat.zero_le _⟩
    exact ⟨layAll_mem fun x hx => (hm x hx).1, depAll_mem fun x hx => (hm x hx).2⟩
  have st := hins _ (strange_flat size more).1 (strange_flat size more).2
  have du := hins (.int (dupBy more others)) rfl rfl
  have e0 : PyData.canLayAll0 [] = true := rfl
  match k with
  | 0 => exact tup2_flat (hw _) st.1 st.2
  | 1 => exact tup2_flat (hw _) du.1 du.2
  | 2 => exact tup2_flat (hw _) st.1 st.2
  | 3 => exact tup2_flat (hw _) du.1 du.2
  | 4 => exact tup2_flat (hw false) rfl (Nat.zero_le _)
  | 5 => exact tup2_flat (hw true) rfl (Nat.zero_le _)
  | 6 => exact tup2_flat (word_lay _) hl (by omega)
  | 7 => exact tup2_flat (word_lay _) hl (by omega)
  | 8 =>
    constructor
    · show ((PyData.str "any").canLay0 && (PyData.canLayAll0 (others.map PyData.int) && true)) = true
      rw [ha, hl] <;> rfl
    · show max 0 (max (PyData.depthAll (others.map PyData.int) + 1) 0) + 1 ≤ 3
      omega
  | 9 =>
    constructor
    · show ((PyData.str "any").canLay0 && (PyData.canLayAll0 (others.map PyData.int) && true)) = true
      rw [ha, hl] <;> rfl
    · show max 0 (max (PyData.depthAll (others.map PyData.int) + 1) 0) + 1 ≤ 3
      omega
  | 10 =>
    constructor
    · show ((PyData.str "any").canLay0 && (PyData.canLayAll0 (others.map PyData.int) && (PyData.canLayAll0 (others.map PyData.int) && true))) = true
      rw [ha, hl] <;> rfl
    · show max 0 (max (PyData.depthAll (others.map PyData.int) + 1) (max (PyData.depthAll (others.map PyData.int) + 1) 0)) + 1 ≤ 3
      omega
  | 11 => exact ⟨by show ((PyData.str "any").canLay0 && true) = true; rw [ha] <;> rfl, by show max 0 0 + 1 ≤ 3; omega⟩
  | 12 =>
    constructor
    · show (true && (PyData.canLayAll0 (others.map PyData.int) && true)) = true
      rw [hl] <;> rfl
    · show max 0 (max (PyData.depthAll (others.map PyData.int) + 1) 0) + 1 ≤ 3
      omega
  | 13 => exact ⟨by show ((PyData.str "any").canLay0 && (true && true)) = true; rw [ha] <;> rfl, by show max 0 (max 0 0) + 1 ≤ 3; omega⟩
  | 14 => exact ⟨ha, Nat.zero_le _⟩
  | 15 => exact ⟨rfl, Nat.zero_le _⟩
  | 16 => exact ⟨rfl, Nat.zero_le _⟩
  | 17 => exact ⟨rfl, by show 0 + 1 ≤ 3; omega⟩
  | 18 =>
    constructor
    · show (true && (PyData.canLayAll0 (others.map PyData.int) && true)) = true
      rw [hl] <;> rfl
    · show max 0 (max (PyData.depthAll (others.map PyData.int) + 1) 0) + 1 ≤ 3
      omega
  | n + 19 => exact ⟨rfl, Nat.zero_le _⟩
end SB
/-! Law k01: the walk of such a thing's making. -/
namespace SB
open PySem L2
def pr_odd (K : PySem.W.Frag) (A : Ad) : V → V → V → V → Hp → VK → XK → Prop := fun a b c d H Q _ => ∃ (F : Hp) (k : Nat) (more size : Int) (others : List Int) (po : Addr), Same F H ∧ a = .int (k : Nat) ∧ b = .int more ∧ c = .int size ∧ d = .ref po ∧ SqL K H po (others.map V.int) ∧ k < 19 ∧ others ≠ [] ∧ others.length ≤ 1000 ∧ Ret F H Q (oddD k more size others)
abbrev sp_odd (K : PySem.W.Frag) (A : Ad) : Sp := sp4 (pr_odd K A)
theorem td_ins {F : Hp} {others : List Int} {m : Nat} {y : V} {d : PyData} (h : Td F y d) : TdA F (insD (others.map V.int) m y) (insD (others.map PyData.int) m d) :=
  (((TdA.ints others).take m).append (.cons h .nil)).append ((TdA.ints others).drop m)
def t_odd (K : PySem.W.Frag) (A : Ad) : TS :=
    (tSeq (tAsg (tOp (rIxL K) (tLst (tCons (tVar 2) (tCons (tUn qNeg (tC (.int 1))) (tCons (tC (.bl true)) (tCons (tC .non) (tCons (tC (.str "0")) (tCons (tOp qPow (tC (.int 10)) (tC (.int 30))) tNil))))))) (tOp qMod (tVar 1) (tC (.int 6)))) (gName 4))
    (tSeq (tAsg (tCB (qListOf K) (tCons (tVar 3) tNil)) (gName 5))
    (tSeq (tIfS (tTest (tOp qLt (tVar 0) (tC (.int 4))))
    (tSeq (tDrop (tBM K "list" qInsert (tVar 5) (tCons (tOp qMod (tOp qDiv (tVar 1) (tC (.int 6))) (tOp qAdd (tCB (qLen K) (tCons (tVar 5) tNil)) (tC (.int 1)))) (tCons (tOp (rIxL K) (tLst (tCons (tVar 4) (tCons (tOp (rIxL K) (tVar 5) (tOp qMod (tVar 1) (tCB (qLen K) (tCons (tVar 5) tNil)))) tNil))) (tOp qMod (tVar 0) (tC (.int 2)))) tNil))))
    (tRet (tTup (tCons (tOp (rIxL K) (tLst (tCons (tC (.str "all")) (tCons (tC (.str "any")) tNil))) (tOp qDiv (tVar 0) (tC (.int 2)))) (tCons (tVar 5) tNil)))))
    tNext)
    (tSeq (tIfS (tTest (tOp qLt (tVar 0) (tC (.int 8))))
    (tSeq (tAsg (tOp (rIxL K) (tLst (tCons (tC (.str "each")) (tCons (tC (.str "")) (tCons (tC (.str "All")) (tCons (tC (.str "ANY")) (tCons (tC (.str "any ")) (tCons (tC (.str " all")) (tCons (tC (.str "none")) (tCons (tC (.str "al")) tNil))))))))) (tOp qMod (tOp qDiv (tVar 1) (tC (.int 6))) (tC (.int 8)))) (gName 6))
    (tRet (tOp (rIxL K) (tLst (tCons (tTup (tCons (tC (.str "all")) (tCons (tLst tNil) tNil))) (tCons (tTup (tCons (tC (.str "any")) (tCons (tLst tNil) tNil))) (tCons (tTup (tCons (tVar 6) (tCons (tVar 5) tNil))) (tCons (tTup (tCons (tVar 6) (tCons (tVar 5) tNil))) tNil))))) (tOp qSub (tVar 0) (tC (.int 4))))))
    tNext)
    (tSeq (tIfS (tTest (tOp qLt (tVar 0) (tC (.int 12))))
    (tRet (tOp (rIxL K) (tLst (tCons (tTup (tCons (tC (.str "any")) (tCons (tCB (qTupOf K) (tCons (tVar 5) tNil)) tNil))) (tCons (tLst (tCons (tC (.str "any")) (tCons (tVar 5) tNil))) (tCons (tTup (tCons (tC (.str "any")) (tCons (tVar 5) (tCons (tVar 5) tNil)))) (tCons (tTup (tCons (tC (.str "any")) tNil)) tNil))))) (tOp qSub (tVar 0) (tC (.int 8)))))
    tNext)
    (tRet (tOp (rIxL K) (tLst (tCons (tTup (tCons (tC (.int 1)) (tCons (tVar 5) tNil))) (tCons (tTup (tCons (tC (.str "any")) (tCons (tC (.int 0)) tNil))) (tCons (tC (.str "any")) (tCons (tC (.int 0)) (tCons (tC (.bl true)) (tCons (tTup tNil) (tCons (tTup (tCons (tC .non) (tCons (tVar 5) tNil))) tNil)))))))) (tOp qSub (tVar 0) (tC (.int 12))))))))))
theorem rd_odd {K : PySem.W.Frag} {A : Ad} {a b c d : V} {H : Hp} {Q : VK} {E : XK} (h : pr_odd K A a b c d H Q E) : t_odd K A { nx := fun _ H' => Q .non H', rt := Q } [some a, some b, some c, some d, none, none, none] H := by
  obtain ⟨F, k, more, size, others, po, sF, rfl, rfl, rfl, rfl, hs, hk, hne, hl, q⟩ := h
  have Z : Zs F H F H [] := Zs.start sF
  have hpos : 0 < others.length := List.length_pos_iff.mpr hne
  unfold t_odd
  walk_at "rd"
  refine r_un ?_
  refine r_c ?_
  refine r_rU ?_
  walk_at "rd"
  refine r_I ⟨by decide, by decide, by decide⟩ ?_
  walk_at "rd"
  refine r_mk (by show 6 ≤ sizeLine; decide) Z ?_
  intro p1 H1 Z1
  walk_at "rd"
  refine r_ixL (SqL.of (Z1.get (i := 0) rfl)) (strange_at size more) ?_
  replace Z1 := Z1.drop
  walk_at "rd"
  refine r_listL (Z1.hh.seq hs) Z1 ?_
  intro pr H2 Z
  walk_at "rd"
  refine ifd (fun h4 => ?_) (fun h4 => ?_)
  · -- a hand that is none, or twice
    have hk4 : k < 4 := by omega
    obtain ⟨y, yd, hy, hyd, hod⟩ : ∃ (y : V) (yd : PyData), atI [strangeV size more, .int (dupBy more others)] ((k : Int) % 2) = some y ∧ (∀ F, Td F y yd) ∧ oddD k more size others = .tuple [.str (wd (decide ((k : Int) / 2 = 1))), .list (insD (others.map PyData.int) (placeBy more others.length) yd)] := by
      rcases (show k = 0 ∨ k = 1 ∨ k = 2 ∨ k = 3 by omega) with rfl | rfl | rfl | rfl
      · exact ⟨_, _, at_i (by decide) rfl, fun F => strange_td size more, rfl⟩
      · exact ⟨_, _, at_i (by decide) rfl, fun F => .int _, rfl⟩
      · exact ⟨_, _, at_i (by decide) rfl, fun F => strange_td size more, rfl⟩
      · exact ⟨_, _, at_i (by decide) rfl, fun F => .int _, rfl⟩
    rw [hod] at q
    walk_at "rd"
    refine ⟨ty_l (SqL.of (Z.get (i := 0) rfl)), ?_⟩
    walk_at "rd"
    refine r_lenL (SqL.of (Z.get (i := 0) rfl)) ?_
    rw [List.length_map]
    walk_at "rd"
    refine r_lenL (SqL.of (Z.get (i := 0) rfl)) ?_
    rw [List.length_map]
    walk_at "rd"
    refine r_ixL (SqL.of (Z.get (i := 0) rfl)) (at_i (Int.emod_nonneg _ (by omega)) (dup_mem hne).1) ?_
    walk_at "rd"
    refine r_mk sz2 Z ?_
    intro p3 H3 Z3
    walk_at "rd"
    refine r_ixL (SqL.of (Z3.get (i := 0) rfl)) hy ?_
    replace Z3 := Z3.drop
    walk_at "rd"
    have hm : (more / 6 % ((others.length : Int) + 1)) = ((placeBy more others.length : Nat) : Int) := by
      unfold placeBy
      have := Int.emod_nonneg (more / 6) (show ((others.length : Int) + 1) ≠ 0 by omega)
      omega
    have hm2 : placeBy more others.length < 100000 := by
      have := Int.emod_lt_of_pos (more / 6) (show 0 < ((others.length : Int) + 1) by omega)
      omega
    refine r_insert 0 Z3 rfl hm (by rw [List.length_map]; omega) hm2 ?_
    intro H4 Z4
    walk_at "rd"
    refine r_mk sz2 Z4 ?_
    intro p5 H5 Z5
    walk_at "rd"
    refine r_ixL (SqL.of (Z5.get (i := 0) rfl)) (word_at (by omega) (by omega)) ?_
    replace Z5 := Z5.drop
    walk_at "rd"
    refine r_mk sz2 Z5 ?_
    intro t H6 Z6
    obtain ⟨F7, Z7, s7, e7⟩ := Z6.frzAt 1 rfl
    obtain ⟨F8, Z8, s8, e8⟩ := Z7.frzAt 0 rfl
    refine q F8 _ _ Z8 (.tup e8 (.cons (.str _) (.cons (.lst (s8 _ _ e7) (td_ins (hyd F8))) .nil)))
  walk_at "rd"
  refine ifd (fun h8 => ?_) (fun h8 => ?_)
  · walk_at "rd"
    refine r_mk (by show 8 ≤ sizeLine; decide) Z ?_
    intro p3 H3 Z3
    walk_at "rd"
    refine r_ixL (SqL.of (Z3.get (i := 0) rfl)) (word_at8 more) ?_
    replace Z3 := Z3.drop
    walk_at "rd"
    refine r_mk sz0 Z3 ?_
    intro l1 H4 Z4
    refine r_mk sz2 Z4 ?_
    intro t1 H5 Z5
    walk_at "rd"
    refine r_mk sz0 Z5 ?_
    intro l2 H6 Z6
    refine r_mk sz2 Z6 ?_
    intro t2 H7 Z7
    walk_at "rd"
    refine r_mk sz2 Z7 ?_
    intro t3 H8 Z8
    walk_at "rd"
    refine r_mk sz2 Z8 ?_
    intro t4 H9 Z9
    walk_at "rd"
    refine r_mk (by show 4 ≤ sizeLine; decide) Z9 ?_
    intro p10 H10 Z10
    walk_at "rd"
    rcases (show k = 4 ∨ k = 5 ∨ k = 6 ∨ k = 7 by omega) with rfl | rfl | rfl | rfl
    · refine r_ixL (SqL.of (Z10.get (i := 0) rfl)) (at_i (by decide) rfl) ?_
      obtain ⟨Fa, Za, sa, ea⟩ := Z10.frzAt 6 rfl
      obtain ⟨Fb, Zb, sb, eb⟩ := Za.frzAt 5 rfl
      exact q Fb _ _ Zb.nil (.tup eb (.cons (.str _) (.cons (.lst (sb _ _ ea) .nil) .nil)))
    · refine r_ixL (SqL.of (Z10.get (i := 0) rfl)) (at_i (by decide) rfl) ?_
      obtain ⟨Fa, Za, sa, ea⟩ := Z10.frzAt 4 rfl
      obtain ⟨Fb, Zb, sb, eb⟩ := Za.frzAt 3 rfl
      exact q Fb _ _ Zb.nil (.tup eb (.cons (.str _) (.cons (.lst (sb _ _ ea) .nil) .nil)))
    · refine r_ixL (SqL.of (Z10.get (i := 0) rfl)) (at_i (by decide) rfl) ?_
      obtain ⟨Fa, Za, sa, ea⟩ := Z10.frzAt 7 rfl
      obtain ⟨Fb, Zb, sb, eb⟩ := Za.frzAt 2 rfl
      exact q Fb _ _ Zb.nil (.tup eb (.cons (.str _) (.cons (.lst (sb _ _ ea) (TdA.ints _)) .nil)))
    · refine r_ixL (SqL.of (Z10.get (i := 0) rfl)) (at_i (by decide) rfl) ?_
      obtain ⟨Fa, Za, sa, ea⟩ := Z10.frzAt 7 rfl
      obtain ⟨Fb, Zb, sb, eb⟩ := Za.frzAt 1 rfl
      exact q Fb _ _ Zb.nil (.tup eb (.cons (.str _) (.cons (.lst (sb _ _ ea) (TdA.ints _)) .nil)))
  walk_at "rd"
  refine ifd (fun h12 => ?_) (fun h12 => ?_)
  · walk_at "rd"
    refine r_tupOfL (SqL.of (Z.get (i := 0) rfl)) Z ?_
    intro u1 H3 Z3
    walk_at "rd"
    refine r_mk sz2 Z3 ?_
    intro t1 H4 Z4
    walk_at "rd"
    refine r_mk sz2 Z4 ?_
    intro t2 H5 Z5
    walk_at "rd"
    refine r_mk sz3 Z5 ?_
    intro t3 H6 Z6
    walk_at "rd"
    refine r_mk sz1 Z6 ?_
    intro t4 H7 Z7
    walk_at "rd"
    refine r_mk (by show 4 ≤ sizeLine; decide) Z7 ?_
    intro p8 H8 Z8
    walk_at "rd"
    rcases (show k = 8 ∨ k = 9 ∨ k = 10 ∨ k = 11 by omega) with rfl | rfl | rfl | rfl
    · refine r_ixL (SqL.of (Z8.get (i := 0) rfl)) (at_i (by decide) rfl) ?_
      obtain ⟨Fa, Za, sa, ea⟩ := Z8.frzAt 5 rfl
      obtain ⟨Fb, Zb, sb, eb⟩ := Za.frzAt 4 rfl
      exact q Fb _ _ Zb.nil (.tup eb (.cons (.str _) (.cons (.tup (sb _ _ ea) (TdA.ints _)) .nil)))
    · refine r_ixL (SqL.of (Z8.get (i := 0) rfl)) (at_i (by decide) rfl) ?_
      obtain ⟨Fa, Za, sa, ea⟩ := Z8.frzAt 6 rfl
      obtain ⟨Fb, Zb, sb, eb⟩ := Za.frzAt 3 rfl
      exact q Fb _ _ Zb.nil (.lst eb (.cons (.str _) (.cons (.lst (sb _ _ ea) (TdA.ints _)) .nil)))
    · refine r_ixL (SqL.of (Z8.get (i := 0) rfl)) (at_i (by decide) rfl) ?_
      obtain ⟨Fa, Za, sa, ea⟩ := Z8.frzAt 6 rfl
      obtain ⟨Fb, Zb, sb, eb⟩ := Za.frzAt 2 rfl
      exact q Fb _ _ Zb.nil (.tup eb (.cons (.str _) (.cons (.lst (sb _ _ ea) (TdA.ints _)) (.cons (.lst (sb _ _ ea) (TdA.ints _)) .nil))))
    · refine r_ixL (SqL.of (Z8.get (i := 0) rfl)) (at_i (by decide) rfl) ?_
      obtain ⟨Fb, Zb, sb, eb⟩ := Z8.frzAt 1 rfl
      exact q Fb _ _ Zb.nil (.tup eb (.cons (.str _) .nil))
  walk_at "rd"
  refine r_mk sz2 Z ?_
  intro t1 H3 Z3
  walk_at "rd"
  refine r_mk sz2 Z3 ?_
  intro t2 H4 Z4
  walk_at "rd"
  refine r_mk sz0 Z4 ?_
  intro t3 H5 Z5
  walk_at "rd"
  refine r_mk sz2 Z5 ?_
  intro t4 H6 Z6
  walk_at "rd"
  refine r_mk (by show 7 ≤ sizeLine; decide) Z6 ?_
  intro p7 H7 Z7
  walk_at "rd"
  rcases (show k = 12 ∨ k = 13 ∨ k = 14 ∨ k = 15 ∨ k = 16 ∨ k = 17 ∨ k = 18 by omega) with rfl | rfl | rfl | rfl | rfl | rfl | rfl
  · refine r_ixL (SqL.of (Z7.get (i := 0) rfl)) (at_i (by decide) rfl) ?_
    obtain ⟨Fa, Za, sa, ea⟩ := Z7.frzAt 5 rfl
    obtain ⟨Fb, Zb, sb, eb⟩ := Za.frzAt 4 rfl
    exact q Fb _ _ Zb.nil (.tup eb (.cons (.int _) (.cons (.lst (sb _ _ ea) (TdA.ints _)) .nil)))
  · refine r_ixL (SqL.of (Z7.get (i := 0) rfl)) (at_i (by decide) rfl) ?_
    obtain ⟨Fb, Zb, sb, eb⟩ := Z7.frzAt 3 rfl
    exact q Fb _ _ Zb.nil (.tup eb (.cons (.str _) (.cons (.int _) .nil)))
  · refine r_ixL (SqL.of (Z7.get (i := 0) rfl)) (at_i (by decide) rfl) ?_
    exact q _ _ _ Z7.nil (.str _)
  · refine r_ixL (SqL.of (Z7.get (i := 0) rfl)) (at_i (by decide) rfl) ?_
    exact q _ _ _ Z7.nil (.int _)
  · refine r_ixL (SqL.of (Z7.get (i := 0) rfl)) (at_i (by decide) rfl) ?_
    exact q _ _ _ Z7.nil (.bl _)
  · refine r_ixL (SqL.of (Z7.get (i := 0) rfl)) (at_i (by decide) rfl) ?_
    obtain ⟨Fb, Zb, sb, eb⟩ := Z7.frzAt 2 rfl
    exact q Fb _ _ Zb.nil (.tup eb .nil)
  · refine r_ixL (SqL.of (Z7.get (i := 0) rfl)) (at_i (by decide) rfl) ?_
    obtain ⟨Fa, Za, sa, ea⟩ := Z7.frzAt 5 rfl
    obtain ⟨Fb, Zb, sb, eb⟩ := Za.frzAt 1 rfl
    exact q Fb _ _ Zb.nil (.tup eb (.cons .non (.cons (.lst (sb _ _ ea) (TdA.ints _)) .nil)))
end SB
/-! Law k01: what is made. -/
namespace SB
open PySem L2
def sizeBy (ns : List Int) : Int := if cellAt ns 0 / 7 % 4 = 1 then 1 + cellAt ns 0 / 28 % 40 else 1 + cellAt ns 0 % 7
theorem size_in (ns : List Int) : 1 ≤ sizeBy ns ∧ sizeBy ns ≤ 40 := by unfold sizeBy; split <;> omega
def waitAt (ns : List Int) (i : Nat) : Wt := waitBy (mixBy ns (4 + (i : Int) % 40) i) (sizeBy ns)
def waits0 (ns : List Int) : List Wt := (List.range (sizeBy ns).toNat).map (waitAt ns)
def waits1 (ns : List Int) : List Wt := if cellAt ns 0 / 1120 % 4 = 1 then (waits0 ns).set (cellAt ns 0 / 4480 % sizeBy ns).toNat (some (false, allBy (sizeBy ns) (cellAt ns 0 / 4480))) else waits0 ns
theorem waits0_len (ns : List Int) : (waits0 ns).length = (sizeBy ns).toNat := by unfold waits0; rw [List.length_map, List.length_range]
theorem waits1_len (ns : List Int) : (waits1 ns).length = (sizeBy ns).toNat := by
  unfold waits1
  split
  · rw [List.length_set, waits0_len]
  · exact waits0_len ns
theorem waits0_ok (ns : List Int) : OkWs (waits0 ns) := by
  have h := size_in ns
  refine ⟨by rw [waits0_len]; omega, by rw [waits0_len]; omega, fun w hw => ?_⟩
  obtain ⟨i, _, rfl⟩ := List.mem_map.mp hw
  exact wait_ok (by rw [waits0_len]; omega) (by omega)
theorem waits1_ok (ns : List Int) : OkWs (waits1 ns) := by
  have h := size_in ns
  unfold waits1
  split
  · exact okws_set (waits0_ok ns) (all_ok _ (by rw [waits0_len]; omega) (by omega))
  · exact waits0_ok ns
/-! ### spoiled -/
def othersAt (at' more size : Int) : List Int := (List.range (1 + more / 42 % size).toNat).map fun (k : Nat) => (at' + (k : Int)) % size
def ds1 (ns : List Int) (ws : List Wt) (k : Nat) : List PyData := (ws.map dW).set (cellAt ns 2 % (ws.length : Int)).toNat (oddD k (cellAt ns 3) (ws.length : Int) (othersAt (cellAt ns 2 % (ws.length : Int)) (cellAt ns 3) (ws.length : Int)))
def ds2 (ns : List Int) (ws : List Wt) (k : Nat) : List PyData := if cellAt ns 3 / 7 % 4 = 1 then (ds1 ns ws k).set (cellAt ns 2 % (ws.length : Int) + cellAt ns 3 % ((ws.length : Int) - cellAt ns 2 % (ws.length : Int))).toNat (oddD k (cellAt ns 3) (ws.length : Int) [0]) else ds1 ns ws k
def spoilD (ns : List Int) (ws : List Wt) : PyData × PyData :=
  if cellAt ns 1 % 26 < 19 then (.list (ds2 ns ws (cellAt ns 1 % 26).toNat), .int (cellAt ns 2 % (ws.length : Int)))
  else if cellAt ns 1 % 26 = 19 then (.tuple (ws.map dW), .none)
  else if cellAt ns 1 % 26 = 20 then (.none, .none)
  else if cellAt ns 1 % 26 = 21 then (.list [], .none)
  else if cellAt ns 1 % 26 = 22 then (.list (List.replicate 41 .none), .none)
  else (.list (ws.map dW), .str "good")
def madeD (ns : List Int) : PyData × PyData := spoilD ns (waits1 ns)
/-- all is good, or there is no list, or the first thing that is none stands there -/
def MadeP (D a : PyData) : Prop := (a = .str "good" ∧ ∃ ds, D = .list ds ∧ IsL D ∧ ∀ x ∈ ds, WaitP x ds.length) ∨ (a = .none ∧ ¬ IsL D) ∨ (∃ (i : Nat) (ds : List PyData), a = .int (i : Int) ∧ D = .list ds ∧ IsL D ∧ FirstBad ds i)
theorem oth_ne0 (at' more size : Int) (h : 0 < size) : othersAt at' more size ≠ [] := fun e => by
  have h1 := congrArg List.length e
  unfold othersAt at h1
  rw [List.length_map, List.length_range, List.length_nil] at h1
  have := Int.emod_nonneg (more / 42) (show size ≠ 0 by omega)
  omega
theorem spoil_ok {ns : List Int} {ws : List Wt} (ok : OkWs ws) : MadeP (spoilD ns ws).1 (spoilD ns ws).2 := by
  have o1 := ok.pos
  have o2 := ok.most
  unfold spoilD
  split
  · rename_i hk
    have hk0 : 0 ≤ cellAt ns 1 % 26 := by omega
    generalize ek : (cellAt ns 1 % 26).toNat = k
    have hk2 : k < 19 := by omega
    have a0 := Int.emod_nonneg (cellAt ns 2) (show (ws.length : Int) ≠ 0 by omega)
    have a1 := Int.emod_lt_of_pos (cellAt ns 2) (show 0 < (ws.length : Int) by omega)
    have hl1 : (ds1 ns ws k).length = ws.length := by unfold ds1; rw [List.length_set, List.length_map]
    have hl : (ds2 ns ws k).length = ws.length := by
      unfold ds2
      split
      · rw [List.length_set, hl1]
      · exact hl1
    have hodd1 := odd_no (k := k) (more := cellAt ns 3) (m := ws.length) hk2 o2 (oth_ne0 (cellAt ns 2 % (ws.length : Int)) (cellAt ns 3) (ws.length : Int) (by omega))
    have hodd2 := odd_no (k := k) (more := cellAt ns 3) (others := [0]) (m := ws.length) hk2 o2 (fun z => nomatch z)
    have h1i : (ds1 ns ws k)[(cellAt ns 2 % (ws.length : Int)).toNat]? = some (oddD k (cellAt ns 3) (ws.length : Int) (othersAt (cellAt ns 2 % (ws.length : Int)) (cellAt ns 3) (ws.length : Int))) := by
      unfold ds1
      rw [List.getElem?_set_self (by rw [List.length_map]; omega)]
    have h1j : ∀ j, j < (cellAt ns 2 % (ws.length : Int)).toNat → (ds1 ns ws k)[j]? = (ws.map dW)[j]? := fun j hj => by
      unfold ds1
      rw [List.getElem?_set_ne (by omega)]
    have hgood : ∀ (j : Nat) (y : PyData), (ws.map dW)[j]? = some y → WaitP y ws.length := fun j y hy => by
      rw [List.getElem?_map] at hy
      cases e : ws[j]? with
      | none => rw [e] at hy; cases hy
      | some w =>
        rw [e] at hy
        cases hy
        exact ⟨w, rfl, ok.all w (List.mem_of_getElem? e)⟩
    refine .inr (.inr ⟨(cellAt ns 2 % (ws.length : Int)).toNat, ds2 ns ws k, by show PyData.int _ = PyData.int _; rw [Int.toNat_of_nonneg a0], rfl, ⟨_, rfl, by omega, by omega⟩, ?_, ?_⟩)
    · rw [hl]
      unfold ds2
      split
      · have m0 := Int.emod_nonneg (cellAt ns 3) (show (ws.length : Int) - cellAt ns 2 % (ws.length : Int) ≠ 0 by omega)
        by_cases e : (cellAt ns 2 % (ws.length : Int) + cellAt ns 3 % ((ws.length : Int) - cellAt ns 2 % (ws.length : Int))).toNat = (cellAt ns 2 % (ws.length : Int)).toNat
        · rw [e, List.getElem?_set_self (by rw [hl1]; omega)]
          exact ⟨_, rfl, hodd2⟩
        · rw [List.getElem?_set_ne e, h1i]
          exact ⟨_, rfl, hodd1⟩
      · rw [h1i]
        exact ⟨_, rfl, hodd1⟩
    · intro j y hj hy
      rw [hl]
      unfold ds2 at hy
      split at hy
      · have m0 := Int.emod_nonneg (cellAt ns 3) (show (ws.length : Int) - cellAt ns 2 % (ws.length : Int) ≠ 0 by omega)
        rw [List.getElem?_set_ne (by omega), h1j j hj] at hy
        exact hgood j y hy
      · rw [h1j j hj] at hy
        exact hgood j y hy
  · split
    · exact .inr (.inl ⟨rfl, fun ⟨ds, e, _⟩ => by cases e⟩)
    · split
      · exact .inr (.inl ⟨rfl, fun ⟨ds, e, _⟩ => by cases e⟩)
      · split
        · refine .inr (.inl ⟨rfl, fun ⟨ds, e, h, _⟩ => ?_⟩)
          cases e
          exact absurd h (by decide)
        · split
          · refine .inr (.inl ⟨rfl, fun ⟨ds, e, _, h⟩ => ?_⟩)
            cases e
            rw [List.length_replicate] at h
            omega
          · refine .inl ⟨rfl, ws.map dW, rfl, ⟨_, rfl, by rw [List.length_map]; exact o1, by rw [List.length_map]; exact o2⟩, fun x hx => ?_⟩
            obtain ⟨w, hw, rfl⟩ := List.mem_map.mp hx
            rw [List.length_map]
            exact ⟨w, rfl, ok.all w hw⟩
theorem dW_flat (w : Wt) : flat2 (dW w) := ⟨dW_lay w, by have := dW_dep w; omega⟩
theorem set_flat {l : List PyData} {i : Nat} {d : PyData} (h : ∀ x ∈ l, flat2 x) (hd : flat2 d) : ∀ x ∈ l.set i d, flat2 x := fun x hx => by
  rcases List.mem_or_eq_of_mem_set hx with hx | rfl
  · exact h x hx
  · exact hd
theorem ws_flat (ws : List Wt) : ∀ x ∈ ws.map dW, flat2 x := fun x hx => by
  obtain ⟨w, _, rfl⟩ := List.mem_map.mp hx
  exact dW_flat w
theorem list_lay {l : List PyData} (h : ∀ x ∈ l, flat2 x) : PyData.canLayAll0 l = true ∧ PyData.depthAll l ≤ 3 := ⟨layAll_mem fun x hx => (h x hx).1, depAll_mem fun x hx => (h x hx).2⟩
theorem spoil_flat (ns : List Int) (ws : List Wt) : ((spoilD ns ws).1.canLay0 = true ∧ (spoilD ns ws).1.depth ≤ 4) ∧ (spoilD ns ws).2.canLay0 = true ∧ (spoilD ns ws).2.depth = 0 := by
  have hd2 : ∀ k, ∀ x ∈ ds2 ns ws k, flat2 x := fun k => by
    have h1 : ∀ x ∈ ds1 ns ws k, flat2 x := set_flat (ws_flat ws) (odd_flat _ _ _ _)
    unfold ds2
    split
    · exact set_flat h1 (odd_flat _ _ _ _)
    · exact h1
  have hw := list_lay (ws_flat ws)
  have hg : (PyData.str "good").canLay0 = true := by decide +kernel
  unfold spoilD
  split
  · have h := list_lay (hd2 (cellAt ns 1 % 26).toNat)
    exact ⟨⟨h.1, by show PyData.depthAll _ + 1 ≤ 4; omega⟩, rfl, rfl⟩
  · split
    · exact ⟨⟨hw.1, by show PyData.depthAll _ + 1 ≤ 4; omega⟩, rfl, rfl⟩
    · split
      · exact ⟨⟨rfl, Nat.zero_le _⟩, rfl, rfl⟩
      · split
        · exact ⟨⟨rfl, by show 0 + 1 ≤ 4; omega⟩, rfl, rfl⟩
        · split
          · have h := list_lay (l := List.replicate 41 PyData.none) fun x hx => by
              rw [(List.mem_replicate.mp hx).2]
              exact ⟨rfl, Nat.zero_le _⟩
            exact ⟨⟨h.1, by show PyData.depthAll _ + 1 ≤ 4; omega⟩, rfl, rfl⟩
          · exact ⟨⟨hw.1, by show PyData.depthAll _ + 1 ≤ 4; omega⟩, hg, rfl⟩
theorem spoil_shaped (ns : List Int) (ws : List Wt) : SeqAt.shaped (spoilD ns ws).1 = true ∧ SeqAt.shaped (spoilD ns ws).2 = true := by
  obtain ⟨⟨a, b⟩, c, d⟩ := spoil_flat ns ws
  exact ⟨shaped_of a (by omega), shaped_of c (by omega)⟩
theorem td_rep {F : Hp} {v : V} {d : PyData} (h : Td F v d) : ∀ n : Nat, TdA F (List.replicate n v) (List.replicate n d)
  | 0 => .nil
  | n + 1 => .cons h (td_rep h n)
def pr_spoiled (K : PySem.W.Frag) (A : Ad) : V → V → Hp → VK → XK → Prop := fun a b H Q _ => ∃ (F0 H0 F : Hp) (p pw : Addr) (ns : List Int) (xs : List V) (ws : List Wt), a = .ref p ∧ b = .ref pw ∧ SqL K H0 p (ns.map V.int) ∧ Zs F0 H0 F H [(pw, .lst xs)] ∧ TdA F xs (ws.map dW) ∧ OkWs ws ∧
  ∀ F' H' v, Zs F0 H0 F' H' [] → Td F' v (.tuple [(spoilD ns ws).1, (spoilD ns ws).2]) → Q v H'
abbrev sp_spoiled (K : PySem.W.Frag) (A : Ad) : Sp := sp2 (pr_spoiled K A)
def t_spoiled (K : PySem.W.Frag) (A : Ad) : TS :=
    (tSeq (tAsg (tCB (qLen K) (tCons (tVar 1) tNil)) (gName 2))
    (tSeq (tAsg (tOp qMod (tCall (sp_cell_at K A) [] E0 (tCons (tVar 0) (tCons (tC (.int 1)) tNil))) (tC (.int 26))) (gName 3))
    (tSeq (tAsg (tOp qMod (tCall (sp_cell_at K A) [] E0 (tCons (tVar 0) (tCons (tC (.int 2)) tNil))) (tVar 2)) (gName 4))
    (tSeq (tAsg (tCall (sp_cell_at K A) [] E0 (tCons (tVar 0) (tCons (tC (.int 3)) tNil))) (gName 5))
    (tSeq (tIfS (tTest (tOp qLt (tVar 3) (tC (.int 19))))
    (tSeq (tAsg (tCall (sp_odd K A) [] E0 (tCons (tVar 3) (tCons (tVar 5) (tCons (tVar 2) (tCons (tLc (iRng1 (tCons (tOp qAdd (tC (.int 1)) (tOp qMod (tOp qDiv (tVar 5) (tC (.int 42))) (tVar 2))) tNil)) (gName 6) tYes (tOp qMod (tOp qAdd (tVar 4) (tVar 6)) (tVar 2)) [6]) tNil))))) (gSub (tVar 1) (tVar 4) rSetL))
    (Evl.tCut (tIfS (tTest (tOp rEq (tOp qMod (tOp qDiv (tVar 5) (tC (.int 7))) (tC (.int 4))) (tC (.int 1))))
    (tAsg (tCall (sp_odd K A) [] E0 (tCons (tVar 3) (tCons (tVar 5) (tCons (tVar 2) (tCons (tLst (tCons (tC (.int 0)) tNil)) tNil))))) (gSub (tVar 1) (tOp qAdd (tVar 4) (tOp qMod (tVar 5) (tOp qSub (tVar 2) (tVar 4)))) rSetL))
    tNext)
    (tRet (tTup (tCons (tVar 1) (tCons (tVar 4) tNil))))))
    tNext)
    (tSeq (tIfS (tTest (tOp qLt (tVar 3) (tC (.int 22))))
    (tRet (tTup (tCons (tOp (rIxL K) (tLst (tCons (tCB (qTupOf K) (tCons (tVar 1) tNil)) (tCons (tC .non) (tCons (tLst tNil) tNil)))) (tOp qSub (tVar 3) (tC (.int 19)))) (tCons (tC .non) tNil))))
    tNext)
    (tSeq (tIfS (tTest (tOp rEq (tVar 3) (tC (.int 22))))
    (tRet (tTup (tCons (tOp rRep (tLst (tCons (tC .non) tNil)) (tC (.int 41))) (tCons (tC .non) tNil))))
    tNext)
    (tRet (tTup (tCons (tVar 1) (tCons (tC (.str "good")) tNil)))))))))))
theorem rd_spoiled {K : PySem.W.Frag} {A : Ad} {a b : V} {H : Hp} {Q : VK} {E : XK} (h : pr_spoiled K A a b H Q E) : t_spoiled K A { nx := fun _ H' => Q .non H', rt := Q } [some a, some b, none, none, none, none, none] H := by
  obtain ⟨F0, H0, F, p, pw, ns, xs, ws, rfl, rfl, hs, Z, hx, ok, q⟩ := h
  have o1 := ok.pos
  have o2 := ok.most
  have hl : xs.length = ws.length := by rw [hx.len, List.length_map]
  unfold t_spoiled
  walk_at "rd"
  refine r_lenL (SqL.of (Z.get (i := 0) rfl)) ?_
  rw [hl]
  walk_at "rd"
  refine ⟨p, ns, 1, rfl, rfl, Z.hh.seq hs, by decide, ?_⟩
  walk_at "rd"
  refine ⟨p, ns, 2, rfl, rfl, Z.hh.seq hs, by decide, ?_⟩
  walk_at "rd"
  refine ⟨p, ns, 3, rfl, rfl, Z.hh.seq hs, by decide, ?_⟩
  walk_at "rd"
  have a0 := Int.emod_nonneg (cellAt ns 2) (show (ws.length : Int) ≠ 0 by omega)
  have a1 := Int.emod_lt_of_pos (cellAt ns 2) (show 0 < (ws.length : Int) by omega)
  have k0 : 0 ≤ cellAt ns 1 % 26 ∧ cellAt ns 1 % 26 < 26 := by omega
  refine ifd (fun hk => ?_) (fun hk => ?_)
  · have esp : spoilD ns ws = (.list (ds2 ns ws (cellAt ns 1 % 26).toNat), .int (cellAt ns 2 % (ws.length : Int))) := by
      unfold spoilD
      rw [if_pos hk]
    rw [esp] at q
    have ekk : cellAt ns 1 % 26 = (((cellAt ns 1 % 26).toNat : Nat) : Int) := by omega
    generalize (cellAt ns 1 % 26).toNat = k at q ekk
    rw [ekk] at hk k0 ⊢
    have m0 := Int.emod_nonneg (cellAt ns 3 / 42) (show (ws.length : Int) ≠ 0 by omega)
    have m1 := Int.emod_lt_of_pos (cellAt ns 3 / 42) (show 0 < (ws.length : Int) by omega)
    walk_at "rd"
    refine lc_rng (by omega) Z (fun i acc F' => acc = ((List.range i).map fun (k : Nat) => (cellAt ns 2 % (ws.length : Int) + (k : Int)) % (ws.length : Int)).map V.int) (fun _ => rfl) rfl ?_ ?_
    · rintro i Dl F' H' acc hi Z' sm hacc rfl
      dsimp only [wipe]
      walk_at "rd"
      refine ifT rfl ?_
      walk_at "rd"
      refine cy Z' sm hacc (by omega) ?_
      rw [List.range_succ, List.map_append, List.map_append] <;> rfl
    rintro D1 F1 H1 acc1 Z1 s1 rfl
    replace Z1 : Zs F0 H0 F1 H1 [(D1, .lst ((othersAt (cellAt ns 2 % (ws.length : Int)) (cellAt ns 3) (ws.length : Int)).map V.int)), (pw, .lst xs)] := Z1
    have hol : (othersAt (cellAt ns 2 % (ws.length : Int)) (cellAt ns 3) (ws.length : Int)).length ≤ 1000 := by
      unfold othersAt
      rw [List.length_map, List.length_range]
      omega
    walk_at "rd"
    refine ⟨F1, k, _, _, _, D1, Z1.fh, rfl, rfl, rfl, rfl, SqL.of (Z1.get (i := 0) rfl), by omega, oth_ne0 _ _ _ (by omega), hol, fun F2 H2 v Z2 hv => ?_⟩
    have Z3 : Zs F0 H0 F2 H2 [(pw, .lst xs)] := (Z1.call Z2).drop
    have hx3 := (hx.up s1).up Z2.ff
    walk_at "rd"
    refine r_setL (j := (cellAt ns 2 % (ws.length : Int)).toNat) 0 Z3 rfl (by omega) (by omega) ?_
    intro H4 Z4
    have hx4 : TdA F2 (xs.set (cellAt ns 2 % (ws.length : Int)).toNat v) (ds1 ns ws k) := TdA.set _ hx3 hv
    replace Z4 : Zs F0 H0 F2 H4 [(pw, .lst (xs.set (cellAt ns 2 % (ws.length : Int)).toNat v))] := Z4
    have hl4 : (xs.set (cellAt ns 2 % (ws.length : Int)).toNat v).length = ws.length := by rw [List.length_set, hl]
    generalize xs.set (cellAt ns 2 % (ws.length : Int)).toNat v = xs4 at Z4 hx4 hl4
    refine r_cut (fun σ' H' => ∃ (F' : Hp) (xs' : List V), σ' = [some (.ref p), some (.ref pw), some (.int (ws.length : Int)), some (.int (k : Int)), some (.int (cellAt ns 2 % (ws.length : Int))), some (.int (cellAt ns 3)), none] ∧ Zs F0 H0 F' H' [(pw, .lst xs')] ∧ TdA F' xs' (ds2 ns ws k)) ?_ ?_
    · walk_at "rd"
      refine ifd (fun h7 => ?_) (fun h7 => ?_)
      · walk_at "rd"
        refine r_mk sz1 Z4 ?_
        intro pz H5 Z5
        walk_at "rd"
        refine ⟨F2, k, _, _, [0], pz, Z5.fh, rfl, rfl, rfl, rfl, SqL.of (Z5.get (i := 0) rfl), by omega, (fun z => nomatch z), by decide, fun F6 H6 v6 Z6 hv6 => ?_⟩
        have Z7 : Zs F0 H0 F6 H6 [(pw, .lst xs4)] := (Z5.call Z6).drop
        have n0 := Int.emod_nonneg (cellAt ns 3) (show (ws.length : Int) - cellAt ns 2 % (ws.length : Int) ≠ 0 by omega)
        have n1 := Int.emod_lt_of_pos (cellAt ns 3) (show 0 < (ws.length : Int) - cellAt ns 2 % (ws.length : Int) by omega)
        walk_at "rd"
        refine r_setL (j := (cellAt ns 2 % (ws.length : Int) + cellAt ns 3 % ((ws.length : Int) - cellAt ns 2 % (ws.length : Int))).toNat) 0 Z7 rfl (by omega) (by omega) ?_
        intro H8 Z8
        refine ⟨F6, _, rfl, Z8, ?_⟩
        unfold ds2
        rw [if_pos h7]
        exact TdA.set _ (hx4.up Z6.ff) hv6
      · walk_at "rd"
        refine ⟨F2, xs4, rfl, Z4, ?_⟩
        unfold ds2
        rw [if_neg h7]
        exact hx4
    rintro σ' H5 ⟨F5, xs5, rfl, Z5, hx5⟩
    walk_at "rd"
    refine r_mk sz2 Z5 ?_
    intro t H6 Z6
    obtain ⟨Fa, Za, sa, ea⟩ := Z6.frzAt 1 rfl
    obtain ⟨Fb, Zb, sb, eb⟩ := Za.frzAt 0 rfl
    exact q Fb _ _ Zb (.tup eb (.cons (.lst (sb _ _ ea) ((hx5.up sa).up sb)) (.cons (.int _) .nil)))
  · have fin : ∀ (F' H' : Hp) (L : List (Addr × HO)) (v : V) (R : Hp → V → Prop), Zs F0 H0 F' H' L → Td F' v (spoilD ns ws).1 → (spoilD ns ws).2 = .none → [v, .non].length ≤ sizeLine ∧ NewO (.tup [v, .non]) H' Q := fun F' H' L v R Z' hv he => by
      refine r_mk sz2 Z' ?_
      intro t H6 Z6
      obtain ⟨Fb, Zb, sb, eb⟩ := Z6.frzAt 0 rfl
      refine q Fb _ _ Zb.nil (.tup eb (.cons (hv.up sb) (.cons ?_ .nil)))
      rw [he]
      exact .non
    walk_at "rd"
    refine ifd (fun h22 => ?_) (fun h22 => ?_)
    · walk_at "rd"
      refine r_tupOfL (SqL.of (Z.get (i := 0) rfl)) Z ?_
      intro u1 H1 Z1
      walk_at "rd"
      refine r_mk sz0 Z1 ?_
      intro u2 H2 Z2
      walk_at "rd"
      refine r_mk sz3 Z2 ?_
      intro u3 H3 Z3
      walk_at "rd"
      rcases (show cellAt ns 1 % 26 = 19 ∨ cellAt ns 1 % 26 = 20 ∨ cellAt ns 1 % 26 = 21 by omega) with e | e | e
      · have esp : spoilD ns ws = (.tuple (ws.map dW), .none) := by
          unfold spoilD
          rw [if_neg (by omega), if_pos e]
        rw [e]
        refine r_ixL (SqL.of (Z3.get (i := 0) rfl)) (at_i (by decide) rfl) ?_
        walk_at "rd"
        obtain ⟨Fa, Za, sa, ea⟩ := Z3.frzAt 2 rfl
        exact fin Fa H3 _ _ (fun _ _ => True) Za (by rw [esp]; exact .tup ea (hx.up sa)) (by rw [esp])
      · have esp : spoilD ns ws = (.none, .none) := by
          unfold spoilD
          rw [if_neg (by omega), if_neg (by omega), if_pos e]
        rw [e]
        refine r_ixL (SqL.of (Z3.get (i := 0) rfl)) (at_i (by decide) rfl) ?_
        walk_at "rd"
        exact fin _ H3 _ _ (fun _ _ => True) Z3 (by rw [esp]; exact .non) (by rw [esp])
      · have esp : spoilD ns ws = (.list [], .none) := by
          unfold spoilD
          rw [if_neg (by omega), if_neg (by omega), if_neg (by omega), if_pos e]
        rw [e]
        refine r_ixL (SqL.of (Z3.get (i := 0) rfl)) (at_i (by decide) rfl) ?_
        walk_at "rd"
        obtain ⟨Fa, Za, sa, ea⟩ := Z3.frzAt 1 rfl
        exact fin Fa H3 _ _ (fun _ _ => True) Za (by rw [esp]; exact .lst ea .nil) (by rw [esp])
    · walk_at "rd"
      refine ifd (fun e => ?_) (fun e => ?_)
      · have esp : spoilD ns ws = (.list (List.replicate 41 .none), .none) := by
          unfold spoilD
          rw [if_neg (by omega), if_neg (by omega), if_neg (by omega), if_neg (by omega), if_pos e]
        walk_at "rd"
        refine r_mk sz1 Z ?_
        intro u1 H1 Z1
        walk_at "rd"
        refine r_rep Z1 (Z1.get (i := 0) rfl) (by decide) (by decide) (by decide) ?_
        intro u2 H2 Z2
        rw [rep_flat] at Z2
        walk_at "rd"
        obtain ⟨Fa, Za, sa, ea⟩ := Z2.frzAt 0 rfl
        exact fin Fa H2 _ _ (fun _ _ => True) Za (by rw [esp]; exact .lst ea (td_rep .non _)) (by rw [esp])
      · have esp : spoilD ns ws = (.list (ws.map dW), .str "good") := by
          unfold spoilD
          rw [if_neg (by omega), if_neg (by omega), if_neg (by omega), if_neg (by omega), if_neg e]
        rw [esp] at q
        walk_at "rd"
        refine r_mk sz2 Z ?_
        intro t H6 Z6
        obtain ⟨Fa, Za, sa, ea⟩ := Z6.frzAt 1 rfl
        obtain ⟨Fb, Zb, sb, eb⟩ := Za.frzAt 0 rfl
        exact q Fb _ _ Zb (.tup eb (.cons (.lst (sb _ _ ea) ((hx.up sa).up sb)) (.cons (.str _) .nil)))
def pr_made (K : PySem.W.Frag) (A : Ad) : V → Hp → VK → XK → Prop := fun a H Q _ => ∃ F p ns, Same F H ∧ a = .ref p ∧ SqL K H p (ns.map V.int) ∧ Ret F H Q (.tuple [(madeD ns).1, (madeD ns).2])
abbrev sp_made (K : PySem.W.Frag) (A : Ad) : Sp := sp1 (pr_made K A)
def t_made (K : PySem.W.Frag) (A : Ad) : TS :=
    (tSeq (tAsg (tCall (sp_cell_at K A) [] E0 (tCons (tVar 0) (tCons (tC (.int 0)) tNil))) (gName 1))
    (tSeq (tAsg (tOp qAdd (tC (.int 1)) (tOp qMod (tVar 1) (tC (.int 7)))) (gName 2))
    (Evl.tCut (tIfS (tTest (tOp rEq (tOp qMod (tOp qDiv (tVar 1) (tC (.int 7))) (tC (.int 4))) (tC (.int 1))))
    (tAsg (tOp qAdd (tC (.int 1)) (tOp qMod (tOp qDiv (tVar 1) (tC (.int 28))) (tC (.int 40)))) (gName 2))
    tNext)
    (tSeq (tAsg (tLc (iRng1 (tCons (tVar 2) tNil)) (gName 3) tYes (tCall (sp_wait_by K A) [] E0 (tCons (tCall (sp_mixed K A) [] E0 (tCons (tVar 0) (tCons (tOp qAdd (tC (.int 4)) (tOp qMod (tVar 3) (tC (.int 40)))) (tCons (tVar 3) tNil)))) (tCons (tVar 2) tNil))) [3]) (gName 4))
    (Evl.tCut (tIfS (tTest (tOp rEq (tOp qMod (tOp qDiv (tVar 1) (tC (.int 1120))) (tC (.int 4))) (tC (.int 1))))
    (tAsg (tTup (tCons (tC (.str "all")) (tCons (tLc (iRng1 (tCons (tVar 2) tNil)) (gName 3) tYes (tOp qMod (tOp qSub (tOp qAdd (tVar 2) (tOp qDiv (tVar 1) (tC (.int 4480)))) (tVar 3)) (tVar 2)) [3]) tNil))) (gSub (tVar 4) (tOp qMod (tOp qDiv (tVar 1) (tC (.int 4480))) (tVar 2)) rSetL))
    tNext)
    (tRet (tCall (sp_spoiled K A) [] E0 (tCons (tVar 0) (tCons (tVar 4) tNil)))))))))
theorem rd_made {K : PySem.W.Frag} {A : Ad} {a : V} {H : Hp} {Q : VK} {E : XK} (h : pr_made K A a H Q E) : t_made K A { nx := fun _ H' => Q .non H', rt := Q } [some a, none, none, none, none] H := by
  obtain ⟨F, p, ns, sF, rfl, hs, q⟩ := h
  have Z : Zs F H F H [] := Zs.start sF
  have hsz := size_in ns
  unfold t_made
  walk_at "rd"
  refine ⟨p, ns, 0, rfl, rfl, hs, by decide, ?_⟩
  walk_at "rd"
  refine r_cut (fun σ' H' => σ' = [some (.ref p), some (.int (cellAt ns 0)), some (.int (sizeBy ns)), none, none] ∧ H = H') ?_ ?_
  · walk_at "rd"
    refine ifd (fun h => ?_) (fun h => ?_)
    · walk_at "rd"
      exact ⟨by unfold sizeBy; rw [if_pos h], rfl⟩
    · walk_at "rd"
      exact ⟨by unfold sizeBy; rw [if_neg h], rfl⟩
  rintro σ' H' ⟨rfl, rfl⟩
  walk_at "rd"
  refine lc_rng (by omega) Z (fun i acc F' => TdA F' acc (((List.range i).map (waitAt ns)).map dW)) (fun _ => rfl) .nil ?_ ?_
  · intro i Dl F' H' acc hi Z' s hacc hP
    dsimp only [wipe]
    walk_at "rd"
    refine ifT rfl ?_
    walk_at "rd"
    refine ⟨p, ns, _, _, rfl, rfl, rfl, Z'.hh.seq hs, by omega, ?_⟩
    walk_at "rd"
    refine ⟨F', _, _, Z'.fh, rfl, rfl, hsz.1, by omega, mix_nn _ _ _, fun F2 H2 v Z2 hv => ?_⟩
    refine cy (Z'.call Z2) (s.trans Z2.ff) hacc (by omega) ?_
    show TdA F2 _ _
    rw [List.range_succ, List.map_append, List.map_append]
    exact (hP.up Z2.ff).snoc hv
  intro D1 F1 H1 acc1 Z1 s1 hP1
  have hal : acc1.length = (sizeBy ns).toNat := by rw [hP1.len, List.length_map, List.length_map, List.length_range]
  walk_at "rd"
  refine r_cut (fun σ' H' => ∃ (F' : Hp) (acc : List V), σ' = [some (.ref p), some (.int (cellAt ns 0)), some (.int (sizeBy ns)), none, some (.ref D1)] ∧ Zs F H F' H' [(D1, .lst acc)] ∧ TdA F' acc ((waits1 ns).map dW)) ?_ ?_
  · walk_at "rd"
    refine ifd (fun h => ?_) (fun h => ?_)
    · walk_at "rd"
      refine lc_rng (by omega) Z1 (fun j acc F' => acc = ((List.range j).map fun (k : Nat) => (sizeBy ns + cellAt ns 0 / 4480 - (k : Int)) % sizeBy ns).map V.int) (fun _ => rfl) rfl ?_ ?_
      · rintro j Dl F' H7 acc hj Z7 s hacc rfl
        dsimp only [wipe]
        walk_at "rd"
        refine ifT rfl ?_
        walk_at "rd"
        refine cy Z7 s hacc (by omega) ?_
        rw [List.range_succ, List.map_append, List.map_append] <;> rfl
      · rintro Dl F' H7 acc Z7 s rfl
        walk_at "rd"
        refine r_mk sz2 Z7 (fun t H8 Z8 => ?_)
        obtain ⟨F3, Z9, s3, e3⟩ := Z8.frzAt 1 rfl
        obtain ⟨F4, Z10, s4, e4⟩ := Z9.frzAt 0 rfl
        have hm := Int.emod_nonneg (cellAt ns 0 / 4480) (b := sizeBy ns) (by omega)
        have hm2 := Int.emod_lt_of_pos (cellAt ns 0 / 4480) (b := sizeBy ns) (by omega)
        walk_at "rd"
        refine r_setL (j := (cellAt ns 0 / 4480 % sizeBy ns).toNat) 0 Z10 rfl (by omega) (by omega) (fun H11 Z11 => ?_)
        refine ⟨F4, _, rfl, Z11, ?_⟩
        have e : waits1 ns = (waits0 ns).set (cellAt ns 0 / 4480 % sizeBy ns).toNat (some (false, allBy (sizeBy ns) (cellAt ns 0 / 4480))) := by
          unfold waits1
          rw [if_pos h]
        rw [e, List.map_set]
        exact TdA.set _ (((hP1.up s).up s3).up s4) (Td.mk_w (b := false) e4 (s4 _ _ e3))
    · walk_at "rd"
      refine ⟨F1, acc1, rfl, Z1, ?_⟩
      have e : waits1 ns = waits0 ns := by unfold waits1; rw [if_neg h]
      rw [e]
      exact hP1
  rintro σ' H3 ⟨F3, acc3, rfl, Z3, hP3⟩
  walk_at "rd"
  exact ⟨F, H, F3, p, D1, ns, acc3, waits1 ns, rfl, rfl, hs, Z3, hP3, waits1_ok ns, q⟩
end SB
/-! Law k01: what need says, caught. -/
namespace SB
open PySem L2
section
variable {K : PySem.W.Frag} {σ : St} {H : Hp} {Q : VK} {sp : Sp} {Es : St → XK} {t : TA} {a b : V} {E : XK} {C p : Addr} {cls : Value} {d : Option Addr} {D : Ends}
theorem r_callS (h : t σ H fun vs H1 => sp vs H1 Q (Es σ)) : tCallS sp Es t σ H Q := h
theorem r_spS1 {f : V → Hp → VK → XK → Prop} (h : f a H Q E) : sp1 f [a] H Q E := ⟨a, rfl, h⟩
theorem r_tryAs {c : Value} {i : Nat} {tb : WX → TS} {ts : Addr → Value → Option Addr → TS} (h : tb (wAs K c i ts (fun _ _ _ _ => False) D) D σ H) : tTryAs K c i tb ts D σ H := h
theorem r_at {dd : Addr} {n : Nat} {v : V} (h1 : σ[n]? = some (some (.ref p))) (h2 : H dd = some (.xd [("at", v)])) (k : Q v H) : tXf p (.ref C) (some dd) C "at" (tVar n) σ H Q :=
  ⟨.ref p, h1, rfl, rfl, dd, [("at", v)], v, rfl, h2, rfl, k⟩
end
def pr_said (K : PySem.W.Frag) (A : Ad) : V → V → Hp → VK → XK → Prop := fun a b H Q _ => ∃ (F : Hp) (d : PyData) (way : Int), Same F H ∧ Td F a d ∧ SeqAt.shaped d = true ∧ b = .int way ∧ (¬ IsL d → Ret F H Q (.tuple [.str "bad", .none])) ∧
  ∀ ds, d = .list ds → IsL d → (∀ i, FirstBad ds i → Ret F H Q (.tuple [.str "bad", .int (i : Nat)])) ∧ ((∀ x ∈ ds, WaitP x ds.length) → Ret F H Q (.tuple [.str "good", .bool true]))
abbrev sp_said (K : PySem.W.Frag) (A : Ad) : Sp := sp2 (pr_said K A)
def t_said (K : PySem.W.Frag) (A : Ad) : TS :=
    (Evl.tCut (tIfS (tTest (tOp rEq (tVar 1) (tC (.int 0))))
    (tTryAs K (.ref A.cBadWaits) 2 (fun W => (tRet (tTup (tCons (tC (.str "good")) (tCons (tCallS (sp_need K A) (WE W) (tCons (tVar 0) tNil)) tNil)))))
    (fun a cls d => (tRet (tTup (tCons (tC (.str "bad")) (tCons (tXf a cls d A.cBadWaits "at" (tVar 2)) tNil))))))
    tNext)
    (tTryAs K (.ref A.cBellError) 2 (fun W => (tRet (tTup (tCons (tC (.str "good")) (tCons (tCallS (sp_need K A) (WE W) (tCons (tVar 0) tNil)) tNil)))))
    (fun a cls d => (tSeq (tIfS (tOr (tB (tCB (qIsE K a cls d) (tCons (tVar 2) (tCons (tC (.ref A.cNoHand)) tNil)))) (tOr (tB (tCB (qIsE K a cls d) (tCons (tVar 2) (tCons (tC (.ref A.cNoLetter)) tNil)))) (tNot (tB (tCB (qIsE K a cls d) (tCons (tVar 2) (tCons (tC (.ty "ValueError")) tNil)))))))
    (tRet (tTup (tCons (tC (.str "other")) (tCons (tC .non) tNil))))
    tNext)
    (tRet (tTup (tCons (tC (.str "bad")) (tCons (tXf a cls d A.cBadWaits "at" (tVar 2)) tNil))))))))
theorem rd_said {K : PySem.W.Frag} {A : Ad} (O : ErrOk K A) {a b : V} {H : Hp} {Q : VK} {E : XK} (h : pr_said K A a b H Q E) : t_said K A { nx := fun _ H' => Q .non H', rt := Q } [some a, some b, none] H := by
  obtain ⟨F, d, way, sF, hd, hsh, rfl, hno, hq⟩ := h
  have Z0 : Zs F H F H [] := Zs.start sF
  have bad : ∀ (H' : Hp) (v : V) (dv : PyData), Same H H' → Td F v dv → Ret F H Q (.tuple [.str "bad", dv]) → ([V.str "bad", v] : List V).length ≤ sizeLine ∧ NewO (.tup [.str "bad", v]) H' Q := fun H' v dv s hv q => by
    refine r_mk sz2 (Z0.ext s) ?_
    intro t H6 Z6
    obtain ⟨Fb, Zb, sb, eb⟩ := Z6.frzAt 0 rfl
    exact q Fb _ _ Zb (.tup eb (.cons (.str _) (.cons (hv.up sb) .nil)))
  have good : Ret F H Q (.tuple [.str "good", .bool true]) → ∀ H', Same H H' → ([V.str "good", V.bl true] : List V).length ≤ sizeLine ∧ NewO (.tup [.str "good", .bl true]) H' Q := fun q H' s => by
    refine r_mk sz2 (Z0.ext s) ?_
    intro t H6 Z6
    obtain ⟨Fb, Zb, sb, eb⟩ := Z6.frzAt 0 rfl
    exact q Fb _ _ Zb (.tup eb (.cons (.str _) (.cons (.bl _) .nil)))
  unfold t_said
  refine r_cut (fun σ' H' => σ' = [some a, some (.int way), none] ∧ H' = H) ?_ ?_
  · walk_at "rd"
    refine ifd (fun h => ?_) (fun h => ?_)
    · refine r_tryAs ?_
      walk_at "rd"
      refine r_callS ?_
      walk_at "rd"
      refine r_spS1 ?_
      have wish : ∀ (v : V) (dv : PyData), Td F v dv → Ret F H Q (.tuple [.str "bad", dv]) → BadE A H (WE (wAs K (.ref A.cBadWaits) 2 (fun a cls d => (tRet (tTup (tCons (tC (.str "bad")) (tCons (tXf a cls d A.cBadWaits "at" (tVar 2)) tNil))))) (fun _ _ _ _ => False) { nx := fun σ' H' => σ' = [some a, some (.int way), none] ∧ H' = H, rt := Q }) [some a, some (.int way), none]) v := by
        intro v dv hv q dd H' s hdd hx
        refine ⟨true, O.bb, fun _ p hp => ?_, fun z => nomatch z⟩
        walk_at "rd"
        refine r_at rfl hx ?_
        walk_at "rd"
        exact bad H' v dv s hv q
      refine ⟨d, hd.up sF, hsh, fun hn => wish _ _ .non (hno hn), fun ds e isl => ⟨fun i hf => wish _ _ (.int _) ((hq ds e isl).1 i hf), fun hg H' s => ?_⟩⟩
      walk_at "rd"
      exact good ((hq ds e isl).2 hg) H' s
    · walk_at "rd"
      exact ⟨rfl, rfl⟩
  rintro σ' H' ⟨rfl, rfl⟩
  refine r_tryAs ?_
  walk_at "rd"
  refine r_callS ?_
  walk_at "rd"
  refine r_spS1 ?_
  have wish : ∀ (v : V) (dv : PyData), Td F v dv → Ret F H' Q (.tuple [.str "bad", dv]) → BadE A H' (WE (wAs K (.ref A.cBellError) 2 (fun a cls d => (tSeq (tIfS (tOr (tB (tCB (qIsE K a cls d) (tCons (tVar 2) (tCons (tC (.ref A.cNoHand)) tNil)))) (tOr (tB (tCB (qIsE K a cls d) (tCons (tVar 2) (tCons (tC (.ref A.cNoLetter)) tNil)))) (tNot (tB (tCB (qIsE K a cls d) (tCons (tVar 2) (tCons (tC (.ty "ValueError")) tNil)))))))
    (tRet (tTup (tCons (tC (.str "other")) (tCons (tC .non) tNil))))
    tNext)
    (tRet (tTup (tCons (tC (.str "bad")) (tCons (tXf a cls d A.cBadWaits "at" (tVar 2)) tNil)))))) (fun _ _ _ _ => False) { nx := fun _ H' => Q .non H', rt := Q }) [some a, some (.int way), none]) v := by
    intro v dv hv q dd H2 s hdd hx
    refine ⟨true, O.bl, fun _ p hp => ?_, fun z => nomatch z⟩
    walk_at "rd"
    refine ⟨A.cBadWaits, .ref A.cNoHand, _, false, rfl, O.cB, .inr ⟨dd, _, rfl, hx⟩, rfl, fun u h => h, O.kBH, ?_⟩
    walk_at "rd"
    refine ifF rfl ?_
    walk_at "rd"
    refine ⟨A.cBadWaits, .ref A.cNoLetter, _, false, rfl, O.cB, .inr ⟨dd, _, rfl, hx⟩, rfl, fun u h => h, O.kBL, ?_⟩
    walk_at "rd"
    refine ifF rfl ?_
    walk_at "rd"
    refine ⟨A.cBadWaits, .ty "ValueError", _, true, rfl, O.cB, .inr ⟨dd, _, rfl, hx⟩, rfl, fun u h => h, O.kBV, ?_⟩
    walk_at "rd"
    refine ifF rfl ?_
    walk_at "rd"
    refine r_at rfl hx ?_
    walk_at "rd"
    exact bad H2 v dv s hv q
  refine ⟨d, hd.up sF, hsh, fun hn => wish _ _ .non (hno hn), fun ds e isl => ⟨fun i hf => wish _ _ (.int _) ((hq ds e isl).1 i hf), fun hg H2 s => ?_⟩⟩
  walk_at "rd"
  exact good ((hq ds e isl).2 hg) H2 s
end SB
/-! Law k01: the law. -/
namespace SB
open PySem L2
def t_law (K : PySem.W.Frag) (A : Ad) : TS :=
    (tSeq (tAsg (tCall (sp_made K A) [] E0 (tCons (tVar 0) tNil)) (gName 1))
    (tSeq (tAsg (tCall (sp_said K A) [] E0 (tCons (tOp (rIxT K) (tVar 1) (tC (.int 0))) (tCons (tOp qMod (tOp qDiv (tCall (sp_cell_at K A) [] E0 (tCons (tVar 0) (tCons (tC (.int 1)) tNil))) (tC (.int 26))) (tC (.int 2))) tNil))) (gName 2))
    (tSeq (tIfS (tTest (tOp (rNeD K) (tOp (rIxT K) (tVar 1) (tC (.int 0))) (tOp (rIxT K) (tCall (sp_made K A) [] E0 (tCons (tVar 0) tNil)) (tC (.int 0)))))
    (tRet (tC (.bl false)))
    tNext)
    (tSeq (tIfS (tTest (tOp (rEqD K) (tOp (rIxT K) (tVar 1) (tC (.int 1))) (tC (.str "good"))))
    (tRet (tAndV (tOp (rEqD K) (tVar 2) (tTup (tCons (tC (.str "good")) (tCons (tC (.bl true)) tNil)))) (tAndV (tCB (rIsi K) (tCons (tOp (rIxT K) (tVar 2) (tC (.int 1))) (tCons (tC (.ty "bool")) tNil))) (tOp rEq (tC (.int 40)) (tC (.int 40))))))
    tNext)
    (tSeq (tIfS (tOr (tTest (tOp rNe (tOp (rIxT K) (tVar 2) (tC (.int 0))) (tC (.str "bad")))) (tTest (tOp qIsN (tOp (rIxT K) (tVar 1) (tC (.int 1))) (tC .non))))
    (tRet (tOp (rEqD K) (tVar 2) (tTup (tCons (tC (.str "bad")) (tCons (tC .non) tNil)))))
    tNext)
    (tRet (tAndV (tCB (rIsi K) (tCons (tOp (rIxT K) (tVar 2) (tC (.int 1))) (tCons (tC (.ty "int")) tNil))) (tAndV (tNotV (tCB (rIsi K) (tCons (tOp (rIxT K) (tVar 2) (tC (.int 1))) (tCons (tC (.ty "bool")) tNil)))) (tOp (rEqD K) (tOp (rIxT K) (tVar 2) (tC (.int 1))) (tOp (rIxT K) (tVar 1) (tC (.int 1))))))))))))
theorem rd_law {K : PySem.W.Frag} {A : Ad} {a : V} {H : Hp} {Q : VK} {E : XK} (h : pr_law K a H Q E) : t_law K A { nx := fun _ H' => Q .non H', rt := Q } [some a, none, none] H := by
  obtain ⟨p, ns, rfl, hs, hn63, q⟩ := h
  unfold t_law
  walk_at "rd"
  refine ⟨H, p, ns, Same.refl _, rfl, hs, fun F1 H1 v1 Z1 hv1 => ?_⟩
  have mp := spoil_ok (ns := ns) (waits1_ok ns)
  have hsh := spoil_shaped ns (waits1 ns)
  have hmd : madeD ns = spoilD ns (waits1 ns) := rfl
  rw [hmd] at hv1
  obtain ⟨t1, xs1, rfl, ht1, hx1⟩ := hv1.inv_tup
  obtain ⟨x0, x1, rfl, h0, h1⟩ : ∃ x0 x1, xs1 = [x0, x1] ∧ Td F1 x0 (spoilD ns (waits1 ns)).1 ∧ Td F1 x1 (spoilD ns (waits1 ns)).2 := by
    cases hx1 with
    | cons a hx =>
      cases hx with
      | cons b hx =>
        cases hx
        exact ⟨_, _, rfl, a, b⟩
  generalize eD : (spoilD ns (waits1 ns)).1 = D at *
  generalize eA : (spoilD ns (waits1 ns)).2 = at' at *
  walk_at "rd"
  refine r_ixT (SqT.of (Z1.fix ht1)) (at_i (by decide) rfl) ?_
  walk_at "rd"
  refine ⟨p, ns, 1, rfl, rfl, Z1.hh.seq hs, by decide, ?_⟩
  walk_at "rd"
  -- behind what need says: the found tuple
  have rest : ∀ (F2 H2 : Hp) (v2 : V) (dv : PyData) (w : Str), Zs F1 H1 F2 H2 [] → Td F2 v2 (.tuple [.str w, dv]) → SeqAt.shaped (.tuple [.str w, dv]) = true →
      (∀ (F3 H3 : Hp), Zs H H F3 H3 [] → Same F2 F3 →
        (tSeq (tIfS (tTest (tOp (rEqD K) (tOp (rIxT K) (tVar 1) (tC (.int 1))) (tC (.str "good"))))
        (tRet (tAndV (tOp (rEqD K) (tVar 2) (tTup (tCons (tC (.str "good")) (tCons (tC (.bl true)) tNil)))) (tAndV (tCB (rIsi K) (tCons (tOp (rIxT K) (tVar 2) (tC (.int 1))) (tCons (tC (.ty "bool")) tNil))) (tOp rEq (tC (.int 40)) (tC (.int 40))))))
        tNext)
        (tSeq (tIfS (tOr (tTest (tOp rNe (tOp (rIxT K) (tVar 2) (tC (.int 0))) (tC (.str "bad")))) (tTest (tOp qIsN (tOp (rIxT K) (tVar 1) (tC (.int 1))) (tC .non))))
        (tRet (tOp (rEqD K) (tVar 2) (tTup (tCons (tC (.str "bad")) (tCons (tC .non) tNil)))))
        tNext)
        (tRet (tAndV (tCB (rIsi K) (tCons (tOp (rIxT K) (tVar 2) (tC (.int 1))) (tCons (tC (.ty "int")) tNil))) (tAndV (tNotV (tCB (rIsi K) (tCons (tOp (rIxT K) (tVar 2) (tC (.int 1))) (tCons (tC (.ty "bool")) tNil)))) (tOp (rEqD K) (tOp (rIxT K) (tVar 2) (tC (.int 1))) (tOp (rIxT K) (tVar 1) (tC (.int 1)))))))))
        { nx := fun _ H' => Q .non H', rt := Q } [some (.ref p), some (.ref t1), some v2] H3) →
      (tSeq (tIfS (tTest (tOp (rNeD K) (tOp (rIxT K) (tVar 1) (tC (.int 0))) (tOp (rIxT K) (tCall (sp_made K A) [] E0 (tCons (tVar 0) tNil)) (tC (.int 0)))))
      (tRet (tC (.bl false)))
      tNext)
      (tSeq (tIfS (tTest (tOp (rEqD K) (tOp (rIxT K) (tVar 1) (tC (.int 1))) (tC (.str "good"))))
      (tRet (tAndV (tOp (rEqD K) (tVar 2) (tTup (tCons (tC (.str "good")) (tCons (tC (.bl true)) tNil)))) (tAndV (tCB (rIsi K) (tCons (tOp (rIxT K) (tVar 2) (tC (.int 1))) (tCons (tC (.ty "bool")) tNil))) (tOp rEq (tC (.int 40)) (tC (.int 40))))))
      tNext)
      (tSeq (tIfS (tOr (tTest (tOp rNe (tOp (rIxT K) (tVar 2) (tC (.int 0))) (tC (.str "bad")))) (tTest (tOp qIsN (tOp (rIxT K) (tVar 1) (tC (.int 1))) (tC .non))))
      (tRet (tOp (rEqD K) (tVar 2) (tTup (tCons (tC (.str "bad")) (tCons (tC .non) tNil)))))
      tNext)
      (tRet (tAndV (tCB (rIsi K) (tCons (tOp (rIxT K) (tVar 2) (tC (.int 1))) (tCons (tC (.ty "int")) tNil))) (tAndV (tNotV (tCB (rIsi K) (tCons (tOp (rIxT K) (tVar 2) (tC (.int 1))) (tCons (tC (.ty "bool")) tNil)))) (tOp (rEqD K) (tOp (rIxT K) (tVar 2) (tC (.int 1))) (tOp (rIxT K) (tVar 1) (tC (.int 1))))))))))
      { nx := fun _ H' => Q .non H', rt := Q } [some (.ref p), some (.ref t1), some v2] H2 := by
    intro F2 H2 v2 dv w Z2 hv2 hsh2 k
    have ZZ : Zs H H F2 H2 [] := Z1.call Z2
    walk_at "rd"
    refine r_ixT (SqT.of (ZZ.fix (Z2.ff _ _ ht1))) (at_i (by decide) rfl) ?_
    walk_at "rd"
    refine ⟨F2, p, ns, ZZ.fh, rfl, ZZ.hh.seq hs, fun F3 H3 v3 Z3 hv3 => ?_⟩
    rw [hmd, eD, eA] at hv3
    obtain ⟨t3, xs3, rfl, ht3, hx3⟩ := hv3.inv_tup
    obtain ⟨y0, y1, rfl, g0, g1⟩ : ∃ x0 x1, xs3 = [x0, x1] ∧ Td F3 x0 D ∧ Td F3 x1 at' := by
      cases hx3 with
      | cons a hx =>
        cases hx with
        | cons b hx =>
          cases hx
          exact ⟨_, _, rfl, a, b⟩
    walk_at "rd"
    refine r_ixT (SqT.of (Z3.fix ht3)) (at_i (by decide) rfl) ?_
    refine r_neD (((h0.up Z2.ff).up Z3.ff).up Z3.fh) (g0.up Z3.fh) hsh.1 hsh.1 ?_
    rw [eqv_refl hsh.1]
    walk_at "rd"
    refine ifF rfl ?_
    refine r_next ?_
    exact k F3 H3 (ZZ.call Z3) Z3.ff
  have hgs : SeqAt.shaped (.tuple [.str "good", .bool true]) = true := by decide +kernel
  have hbn : SeqAt.shaped (.tuple [.str "bad", .none]) = true := by decide +kernel
  have hgd : SeqAt.shaped (.str "good") = true := by decide +kernel
  have hbi : ∀ i : Int, SeqAt.shaped (.tuple [.str "bad", .int i]) = true := fun i => by
    have h1 : (PyData.str "bad").canLay0 = true := by decide +kernel
    refine shaped_of ?_ ?_
    · show ((PyData.str "bad").canLay0 && (true && true)) = true
      rw [h1] <;> rfl
    · show max 0 (max 0 0) + 1 ≤ 64
      omega
  have hinv : ∀ {F2 : Hp} {v2 : V} {w : Str} {dv : PyData}, Td F2 v2 (.tuple [.str w, dv]) → ∃ t2 x, v2 = .ref t2 ∧ F2 t2 = some (.tup [.str w, x]) ∧ Td F2 x dv := fun {F2 v2 w dv} hv => by
    obtain ⟨t2, xs2, rfl, ht2, hx2⟩ := hv.inv_tup
    cases hx2 with
    | cons a hx =>
      cases hx with
      | cons b hx =>
        cases hx
        cases a
        exact ⟨t2, _, rfl, ht2, b⟩
  refine ⟨F1, D, _, Z1.fh, h0, hsh.1, rfl, fun hn F2 H2 v2 Z2 hv2 => ?_, fun ds e isl => ⟨fun i hf F2 H2 v2 Z2 hv2 => ?_, fun hg F2 H2 v2 Z2 hv2 => ?_⟩⟩
  · -- no list
    have ha : at' = .none := by
      rcases mp with ⟨_, ds, e, isl, _⟩ | ⟨e, _⟩ | ⟨i, ds, _, e, isl, _⟩
      · exact absurd isl hn
      · exact e
      · exact absurd isl hn
    refine rest F2 H2 v2 _ _ Z2 hv2 hbn fun F3 H3 Z3 s3 => ?_
    obtain ⟨t2, x, rfl, ht2, hx⟩ := hinv hv2
    have e1 : x1 = .non := by rw [ha] at h1; exact h1.inv_non
    walk_at "rd"
    refine r_ixT (SqT.of (Z3.fix (s3 _ _ (Z2.ff _ _ ht1)))) (at_i (by decide) rfl) ?_
    walk_at "rd"
    refine r_eqD (d := at') (e := .str "good") (((h1.up Z2.ff).up s3).up Z3.fh) (.str _) hsh.2 hgd ?_
    rw [ha]
    walk_at "rd"
    refine ifF rfl ?_
    walk_at "rd"
    refine r_ixT (SqT.of (Z3.fix (s3 _ _ ht2))) (at_i (by decide) rfl) ?_
    walk_at "rd"
    refine ifF rfl ?_
    walk_at "rd"
    refine r_ixT (SqT.of (Z3.fix (s3 _ _ (Z2.ff _ _ ht1)))) (at_i (by decide) rfl) ?_
    rw [e1]
    walk_at "rd"
    refine ifT rfl ?_
    walk_at "rd"
    refine r_mk sz2 Z3 ?_
    intro t4 H4 Z4
    refine r_eqD (d := .tuple [.str "bad", .none]) (e := .tuple [.str "bad", .none]) ((hv2.up s3).up Z4.fh) (.tup (Z4.get (i := 0) rfl) (.cons (.str _) (.cons .non .nil))) hbn hbn ?_
    rw [eqv_refl hbn]
    exact q _
  · -- the first thing that is none stands at i
    have ha : at' = .int (i : Int) := by
      rcases mp with ⟨_, ds', e', _, hall⟩ | ⟨_, hnl⟩ | ⟨j, ds', e1, e', _, hf'⟩
      · rw [e] at e'
        cases e'
        obtain ⟨⟨x, hx, hb⟩, _⟩ := hf
        exact absurd (hall x (List.mem_of_getElem? hx)) hb
      · exact absurd isl hnl
      · rw [e] at e'
        cases e'
        have : i = j := by
          obtain ⟨⟨x, hx, hb⟩, hlt⟩ := hf
          obtain ⟨⟨y, hy, hb'⟩, hlt'⟩ := hf'
          rcases Nat.lt_trichotomy i j with h | h | h
          · exact absurd (hlt' i x h hx) hb
          · exact h
          · exact absurd (hlt j y h hy) hb'
        rw [this]
        exact e1
    refine rest F2 H2 v2 _ _ Z2 hv2 (hbi _) fun F3 H3 Z3 s3 => ?_
    obtain ⟨t2, x, rfl, ht2, hx⟩ := hinv hv2
    have e1 : x1 = .int (i : Int) := by rw [ha] at h1; exact h1.inv_int
    have e2 : x = .int (i : Int) := hx.inv_int
    subst e2
    walk_at "rd"
    refine r_ixT (SqT.of (Z3.fix (s3 _ _ (Z2.ff _ _ ht1)))) (at_i (by decide) rfl) ?_
    walk_at "rd"
    refine r_eqD (d := at') (e := .str "good") (((h1.up Z2.ff).up s3).up Z3.fh) (.str _) hsh.2 hgd ?_
    rw [ha]
    walk_at "rd"
    refine ifF rfl ?_
    walk_at "rd"
    refine r_ixT (SqT.of (Z3.fix (s3 _ _ ht2))) (at_i (by decide) rfl) ?_
    walk_at "rd"
    refine ifF rfl ?_
    walk_at "rd"
    refine r_ixT (SqT.of (Z3.fix (s3 _ _ (Z2.ff _ _ ht1)))) (at_i (by decide) rfl) ?_
    rw [e1]
    walk_at "rd"
    refine ifF rfl ?_
    walk_at "rd"
    refine r_ixT (SqT.of (Z3.fix (s3 _ _ ht2))) (at_i (by decide) rfl) ?_
    walk_at "rd"
    refine r_isi (.int _) (ki_int _) ?_
    walk_at "rd"
    refine ifT rfl ?_
    walk_at "rd"
    refine r_ixT (SqT.of (Z3.fix (s3 _ _ ht2))) (at_i (by decide) rfl) ?_
    walk_at "rd"
    refine r_isi (.int _) (ki_bool _) ?_
    walk_at "rd"
    refine ifT rfl ?_
    walk_at "rd"
    refine r_ixT (SqT.of (Z3.fix (s3 _ _ ht2))) (at_i (by decide) rfl) ?_
    walk_at "rd"
    refine r_ixT (SqT.of (Z3.fix (s3 _ _ (Z2.ff _ _ ht1)))) (at_i (by decide) rfl) ?_
    rw [e1]
    refine r_eqD (d := .int (i : Int)) (e := .int (i : Int)) (.int _) (.int _) rfl rfl ?_
    rw [eqv_refl (d := .int (i : Int)) rfl]
    exact q _
  · -- all is good
    have ha : at' = .str "good" := by
      rcases mp with ⟨e, _⟩ | ⟨_, hnl⟩ | ⟨j, ds', _, e', _, hf'⟩
      · exact e
      · exact absurd isl hnl
      · rw [e] at e'
        cases e'
        obtain ⟨⟨x, hx, hb⟩, _⟩ := hf'
        exact absurd (hg x (List.mem_of_getElem? hx)) hb
    refine rest F2 H2 v2 _ _ Z2 hv2 hgs fun F3 H3 Z3 s3 => ?_
    obtain ⟨t2, x, rfl, ht2, hx⟩ := hinv hv2
    have e2 : x = .bl true := hx.inv_bl
    subst e2
    walk_at "rd"
    refine r_ixT (SqT.of (Z3.fix (s3 _ _ (Z2.ff _ _ ht1)))) (at_i (by decide) rfl) ?_
    walk_at "rd"
    refine r_eqD (d := at') (e := .str "good") (((h1.up Z2.ff).up s3).up Z3.fh) (.str _) hsh.2 hgd ?_
    rw [ha, eqv_refl hgd]
    walk_at "rd"
    refine ifT rfl ?_
    walk_at "rd"
    refine r_mk sz2 Z3 ?_
    intro t4 H4 Z4
    refine r_eqD (d := .tuple [.str "good", .bool true]) (e := .tuple [.str "good", .bool true]) ((hv2.up s3).up Z4.fh) (.tup (Z4.get (i := 0) rfl) (.cons (.str _) (.cons (.bl _) .nil))) hgs hgs ?_
    rw [eqv_refl hgs]
    walk_at "rd"
    refine ifT rfl ?_
    walk_at "rd"
    refine r_ixT (SqT.of (Z4.fix (s3 _ _ ht2))) (at_i (by decide) rfl) ?_
    walk_at "rd"
    refine r_isi (.bl _) (ki_bool _) ?_
    walk_at "rd"
    refine ifT rfl ?_
    walk_at "rd"
    exact q _
end SB
/-! ## the text, by places -/
namespace SB
open PySem L2
def top (i : Nat) : Stmt := PySem.Challenge.pw_stuckbell_k01_waits_let_by.main.body.getD i (.Pass ⟨0, 0, 0, 0⟩)
abbrev s_BadWaits_init : Stmt := inClass (top 2) 0
theorem sc_BadWaits_init : FnScope ["self", "at"] ["self", "at"] (defScope s_BadWaits_init) := ⟨rfl, rfl, rfl, by decide +kernel, rfl, by decide +kernel, by decide +kernel⟩
abbrev s_is_hand : Stmt := top 8
theorem sc_is_hand : FnScope ["thing", "many"] ["thing", "many"] (defScope s_is_hand) := ⟨rfl, rfl, rfl, by decide +kernel, rfl, by decide +kernel, by decide +kernel⟩
abbrev s_is_wait : Stmt := top 9
theorem sc_is_wait : FnScope ["wait", "many", "place", "one"] ["wait", "many"] (defScope s_is_wait) := ⟨rfl, rfl, rfl, by decide +kernel, rfl, by decide +kernel, by decide +kernel⟩
abbrev s_need : Stmt := top 10
theorem sc_need : FnScope ["waits", "at", "wait"] ["waits"] (defScope s_need) := ⟨rfl, rfl, rfl, by decide +kernel, rfl, by decide +kernel, by decide +kernel⟩
abbrev s_cell_at : Stmt := top 12
theorem sc_cell_at : FnScope ["_law_script", "_law_k"] ["_law_script", "_law_k"] (defScope s_cell_at) := ⟨rfl, rfl, rfl, by decide +kernel, rfl, by decide +kernel, by decide +kernel⟩
abbrev s_mixed : Stmt := top 13
theorem sc_mixed : FnScope ["_law_script", "_law_k", "_law_salt"] ["_law_script", "_law_k", "_law_salt"] (defScope s_mixed) := ⟨rfl, rfl, rfl, by decide +kernel, rfl, by decide +kernel, by decide +kernel⟩
abbrev s_wait_by : Stmt := top 14
theorem sc_wait_by : FnScope ["_law_number", "_law_size", "_law_others", "_law_k", "_law_more"] ["_law_number", "_law_size"] (defScope s_wait_by) := ⟨rfl, rfl, rfl, by decide +kernel, rfl, by decide +kernel, by decide +kernel⟩
abbrev s_odd : Stmt := top 15
theorem sc_odd : FnScope ["_law_kind", "_law_more", "_law_size", "_law_others", "_law_strange", "_law_row", "_law_word"] ["_law_kind", "_law_more", "_law_size", "_law_others"] (defScope s_odd) := ⟨rfl, rfl, rfl, by decide +kernel, rfl, by decide +kernel, by decide +kernel⟩
abbrev s_said : Stmt := top 16
theorem sc_said : FnScope ["_law_waits", "_law_way", "error"] ["_law_waits", "_law_way"] (defScope s_said) := ⟨rfl, rfl, rfl, by decide +kernel, rfl, by decide +kernel, by decide +kernel⟩
abbrev s_spoiled : Stmt := top 17
theorem sc_spoiled : FnScope ["_law_script", "_law_waits", "_law_size", "_law_kind", "_law_at", "_law_more", "_law_k"] ["_law_script", "_law_waits"] (defScope s_spoiled) := ⟨rfl, rfl, rfl, by decide +kernel, rfl, by decide +kernel, by decide +kernel⟩
abbrev s_made : Stmt := top 18
theorem sc_made : FnScope ["_law_script", "_law_cell", "_law_size", "_law_k", "_law_waits"] ["_law_script"] (defScope s_made) := ⟨rfl, rfl, rfl, by decide +kernel, rfl, by decide +kernel, by decide +kernel⟩
abbrev s_law : Stmt := top 19
theorem sc_law : FnScope ["_law_script", "_law_made_here", "_law_found"] ["_law_script"] (defScope s_law) := ⟨rfl, rfl, rfl, by decide +kernel, rfl, by decide +kernel, by decide +kernel⟩
/-- what the top has left -/
structure Tx (K : PySem.W.Frag) (mg : Str → Option Value) (A : Ad) where
  f_BadWaits_init : Addr
  fd_BadWaits_init : FuncData
  F_BadWaits_init : Fun K "__init__" "BadWaits.__init__" s_BadWaits_init f_BadWaits_init fd_BadWaits_init
  b_BadWaits_init : Binds K fd_BadWaits_init ["self", "at"] []
  i_BadWaits : PySem.W.findIn K (.ref A.cBadWaits) "__init__" = some (some (.ref f_BadWaits_init))
  ti_BadWaits : PySem.W.typeIn K (.ref f_BadWaits_init) = some (.type "function")
  f_is_hand : Addr
  fd_is_hand : FuncData
  F_is_hand : Fun K "is_hand" "is_hand" s_is_hand f_is_hand fd_is_hand
  b_is_hand : Binds K fd_is_hand ["thing", "many"] []
  m_is_hand : mg "is_hand" = some (.ref f_is_hand)
  f_is_wait : Addr
  fd_is_wait : FuncData
  F_is_wait : Fun K "is_wait" "is_wait" s_is_wait f_is_wait fd_is_wait
  b_is_wait : Binds K fd_is_wait ["wait", "many"] []
  m_is_wait : mg "is_wait" = some (.ref f_is_wait)
  f_need : Addr
  fd_need : FuncData
  F_need : Fun K "need" "need" s_need f_need fd_need
  b_need : Binds K fd_need ["waits"] []
  m_need : mg "need" = some (.ref f_need)
  f_cell_at : Addr
  fd_cell_at : FuncData
  F_cell_at : Fun K "_law_cell_at" "_law_cell_at" s_cell_at f_cell_at fd_cell_at
  b_cell_at : Binds K fd_cell_at ["_law_script", "_law_k"] []
  m_cell_at : mg "_law_cell_at" = some (.ref f_cell_at)
  f_mixed : Addr
  fd_mixed : FuncData
  F_mixed : Fun K "_law_mixed" "_law_mixed" s_mixed f_mixed fd_mixed
  b_mixed : Binds K fd_mixed ["_law_script", "_law_k", "_law_salt"] []
  m_mixed : mg "_law_mixed" = some (.ref f_mixed)
  f_wait_by : Addr
  fd_wait_by : FuncData
  F_wait_by : Fun K "_law_wait_by" "_law_wait_by" s_wait_by f_wait_by fd_wait_by
  b_wait_by : Binds K fd_wait_by ["_law_number", "_law_size"] []
  m_wait_by : mg "_law_wait_by" = some (.ref f_wait_by)
  f_odd : Addr
  fd_odd : FuncData
  F_odd : Fun K "_law_odd" "_law_odd" s_odd f_odd fd_odd
  b_odd : Binds K fd_odd ["_law_kind", "_law_more", "_law_size", "_law_others"] []
  m_odd : mg "_law_odd" = some (.ref f_odd)
  f_said : Addr
  fd_said : FuncData
  F_said : Fun K "_law_said" "_law_said" s_said f_said fd_said
  b_said : Binds K fd_said ["_law_waits", "_law_way"] []
  m_said : mg "_law_said" = some (.ref f_said)
  f_spoiled : Addr
  fd_spoiled : FuncData
  F_spoiled : Fun K "_law_spoiled" "_law_spoiled" s_spoiled f_spoiled fd_spoiled
  b_spoiled : Binds K fd_spoiled ["_law_script", "_law_waits"] []
  m_spoiled : mg "_law_spoiled" = some (.ref f_spoiled)
  f_made : Addr
  fd_made : FuncData
  F_made : Fun K "_law_made" "_law_made" s_made f_made fd_made
  b_made : Binds K fd_made ["_law_script"] []
  m_made : mg "_law_made" = some (.ref f_made)
  f_law : Addr
  fd_law : FuncData
  F_law : Fun K "law" "law" s_law f_law fd_law
  b_law : Binds K fd_law ["_law_script"] []
  m_law : mg "law" = some (.ref f_law)
  err : ErrOk K A
  gc_BellError : mg "BellError" = some (.ref A.cBellError)
  gc_BadWaits : mg "BadWaits" = some (.ref A.cBadWaits)
  gc_NoHand : mg "NoHand" = some (.ref A.cNoHand)
  gc_NoLetter : mg "NoLetter" = some (.ref A.cNoLetter)
  rd_BellError : PySem.W.readsIn K A.cBellError (.type "type") = true
  ga_BellError : PySem.W.specialIn K (.ref A.cBellError) "__getattribute__" = some (some (.builtin "type.__getattribute__"))
  v_BellError : PySem.W.findCls K (.ref A.cBellError) (.type "type") "__init__" = some (.val (.builtin "ValueError.__init__"))
  t_MOST_HANDS : Tok
  co_MOST_HANDS : mg "MOST_HANDS" = some (.int 40 t_MOST_HANDS)
  co_WORDS : mg "WORDS" = some (.ref A.words)
  words : WordsOk K A
  bi_ValueError : mg "ValueError" = none
  bi_bool : mg "bool" = none
  bi_enumerate : mg "enumerate" = none
  bi_int : mg "int" = none
  bi_isinstance : mg "isinstance" = none
  bi_len : mg "len" = none
  bi_list : mg "list" = none
  bi_range : mg "range" = none
  bi_str : mg "str" = none
  bi_tuple : mg "tuple" = none
section
variable {P : Program} {w : World} {K : PySem.W.Frag} {mg : Str → Option Value} {base : Heap} {A : Ad}
theorem ok_BadWaits_init (T : Tx K mg A) : FnOk P w K mg base CX0 1 T.f_BadWaits_init T.fd_BadWaits_init ["self", "at"] (sp_BadWaits_init K A) := by
  refine T.F_BadWaits_init.ok sc_BadWaits_init (fun vs H Q E h => by obtain ⟨a, b, rfl, h⟩ := h; rfl) (fun cdv A0 outer s H vs Q E hr h => ?_)
  have hu := hu_of hr
  obtain ⟨a, b, rfl, h⟩ := h
  exact ⟨t_BadWaits_init K A, (pss_cons (ps_expr (pe_clinit rfl T.gc_BellError T.rd_BellError T.ga_BellError T.v_BellError (pa_cons (pv 0) (pa_cons pe_str pa_nil))))
    (pss_one (ps_ost (pv 0) (pv 1)))),
    rd_BadWaits_init h⟩
theorem ok_is_hand (T : Tx K mg A) : FnOk P w K mg base CX0 1 T.f_is_hand T.fd_is_hand ["thing", "many"] (sp_is_hand K A) := by
  refine T.F_is_hand.ok sc_is_hand (fun vs H Q E h => by obtain ⟨a, b, rfl, h⟩ := h; rfl) (fun cdv A0 outer s H vs Q E hr h => ?_)
  have hu := hu_of hr
  obtain ⟨a, b, rfl, h⟩ := h
  exact ⟨t_is_hand K A, (pss_one (ps_ret (pe_and (pe_callB call_isi (by rfl) T.bi_isinstance (by decide +kernel) (pa_cons (pv 0) (pa_cons (pe_bltn (by rfl) T.bi_int (by decide +kernel) rfl) pa_nil))) (pe_and (pe_not (pe_callB call_isi (by rfl) T.bi_isinstance (by decide +kernel) (pa_cons (pv 0) (pa_cons (pe_bltn (by rfl) T.bi_bool (by decide +kernel) rfl) pa_nil)))) (pe_one (pe_chain op_le op_lt pe_int (pv 0) (pv 1))))))),
    rd_is_hand h⟩
theorem ok_is_wait (T : Tx K mg A) : FnOk P w K mg base CX0 2 T.f_is_wait T.fd_is_wait ["wait", "many"] (sp_is_wait K A) := by
  refine T.F_is_wait.ok sc_is_wait (fun vs H Q E h => by obtain ⟨a, b, rfl, h⟩ := h; rfl) (fun cdv A0 outer s H vs Q E hr h => ?_)
  have hu := hu_of hr
  obtain ⟨a, b, rfl, h⟩ := h
  exact ⟨t_is_wait K A, (pss_cons (ps_if (pt_cmpR op_isNq (pv 0) pe_non (nomark _))
    (pss_one (ps_ret pe_bl))
    pss_nil)
    (pss_cons (ps_if (PW.pt (pw_or (pt_not (pt_val (pe_callB call_isi (by rfl) T.bi_isinstance (by decide +kernel) (pa_cons (pv 0) (pa_cons (pe_bltn (by rfl) T.bi_tuple (by decide +kernel) rfl) pa_nil))))) (pw_or (pt_cmpR op_ne (pe_callB call_lenq (by rfl) T.bi_len PySem.boot_len (pa_cons (pv 0) pa_nil)) pe_int (nomark _)) (pw_or (pt_not (pt_val (pe_callB call_isi (by rfl) T.bi_isinstance (by decide +kernel) (pa_cons (pe_ix ix_tup (pv 0) pe_int (fun _ _ => rfl)) (pa_cons (pe_bltn (by rfl) T.bi_str (by decide +kernel) rfl) pa_nil))))) (pw_or1 (pt_cmpR op_notIn_seq (pe_ix ix_tup (pv 0) pe_int (fun _ _ => rfl)) (pe_glob rfl T.co_WORDS rfl) rfl))))))
    (pss_one (ps_ret pe_bl))
    pss_nil)
    (pss_cons (ps_if (PW.pt (pw_or (pt_not (pt_val (pe_callB call_isi (by rfl) T.bi_isinstance (by decide +kernel) (pa_cons (pe_ix ix_tup (pv 0) pe_int (fun _ _ => rfl)) (pa_cons (pe_bltn (by rfl) T.bi_list (by decide +kernel) rfl) pa_nil))))) (pw_or1 (pt_cmpR (op_eqD hr.units) (pe_ix ix_tup (pv 0) pe_int (fun _ _ => rfl)) (pe_lst pa_nil) (nomark _)))))
    (pss_one (ps_ret pe_bl))
    pss_nil)
    (pss_cons (ps_for PassesOwn.never rfl (pi_enum (by rfl) T.bi_enumerate (pa_cons (pe_ix ix_tup (pv 0) pe_int (fun _ _ => rfl)) pa_nil)) (pg_tup (by rfl) (pgs_cons (pg_name (i := 2) sc_is_wait.nd rfl (Or.inl rfl)) (pgs_cons (pg_name (i := 3) sc_is_wait.nd rfl (Or.inl rfl)) pgs_nil)))
    (pss_one (ps_if (PW.pt (pw_or (pt_not (pt_val (pe_call (ok_is_hand T) (hr.mono (by decide)) rfl T.m_is_hand T.F_is_hand.kp T.b_is_hand .nil pass0 (pa_cons (pv 3) (pa_cons (pv 1) pa_nil))))) (pw_or1 (pt_cmpR op_in_seq (pv 3) (pe_slice sl_list (pe_ix ix_tup (pv 0) pe_int (fun _ _ => rfl)) po_none (po_some (pv 2))) rfl))))
    (pss_one (ps_ret pe_bl))
    pss_nil)))
    (pss_one (ps_ret pe_bl)))))),
    rd_is_wait T.words h⟩
theorem ok_need (T : Tx K mg A) : FnOk P w K mg base (L2.CX P w) 3 T.f_need T.fd_need ["waits"] (sp_need K A) := by
  refine T.F_need.okX sc_need (fun vs H Q E h => by obtain ⟨a, rfl, h⟩ := h; rfl) (fun cdv A0 outer s H vs Q E hr h => ?_)
  have hu := hu_of hr
  obtain ⟨a, rfl, h⟩ := h
  exact ⟨t_need K A E, (pss_cons (ps_if (PW.pt (pw_or (pt_not (pt_val (pe_callB call_isi (by rfl) T.bi_isinstance (by decide +kernel) (pa_cons (pv 0) (pa_cons (pe_bltn (by rfl) T.bi_list (by decide +kernel) rfl) pa_nil))))) (pw_or1 (pt_not (pt_chain op_le op_le pe_int (pe_callB call_lenq (by rfl) T.bi_len PySem.boot_len (pa_cons (pv 0) pa_nil)) (pe_glob rfl T.co_MOST_HANDS ⟨_, rfl⟩))))))
    (pss_one (ps_raiseX rfl (takes_of rfl rfl rfl rfl) (pmk_oex T.err.ox T.i_BadWaits T.ti_BadWaits (ok_BadWaits_init T) (hr.mono (by decide)) T.b_BadWaits_init .nil pass0 rfl T.gc_BadWaits (pa_cons pe_non pa_nil))))
    pss_nil)
    (pss_cons (ps_for (passes_of rfl) rfl (pi_enum (by rfl) T.bi_enumerate (pa_cons (pv 0) pa_nil)) (pg_tup (by rfl) (pgs_cons (pg_name (i := 1) sc_need.nd rfl (Or.inl rfl)) (pgs_cons (pg_name (i := 2) sc_need.nd rfl (Or.inl rfl)) pgs_nil)))
    (pss_one (ps_if (pt_not (pt_val (pe_call (ok_is_wait T) (hr.mono (by decide)) rfl T.m_is_wait T.F_is_wait.kp T.b_is_wait .nil pass0 (pa_cons (pv 2) (pa_cons (pe_callB call_lenq (by rfl) T.bi_len PySem.boot_len (pa_cons (pv 0) pa_nil)) pa_nil)))))
    (pss_one (ps_raiseX rfl (takes_of rfl rfl rfl rfl) (pmk_oex T.err.ox T.i_BadWaits T.ti_BadWaits (ok_BadWaits_init T) (hr.mono (by decide)) T.b_BadWaits_init .nil pass0 rfl T.gc_BadWaits (pa_cons (pv 1) pa_nil))))
    pss_nil)))
    (pss_one (ps_ret pe_bl)))),
    rd_need T.err h⟩
theorem ok_cell_at (T : Tx K mg A) : FnOk P w K mg base CX0 1 T.f_cell_at T.fd_cell_at ["_law_script", "_law_k"] (sp_cell_at K A) := by
  refine T.F_cell_at.ok sc_cell_at (fun vs H Q E h => by obtain ⟨a, b, rfl, h⟩ := h; rfl) (fun cdv A0 outer s H vs Q E hr h => ?_)
  have hu := hu_of hr
  obtain ⟨a, b, rfl, h⟩ := h
  exact ⟨t_cell_at K A, (pss_cons (ps_if (pt_cmpR op_lt (pv 1) (pe_callB call_lenq (by rfl) T.bi_len PySem.boot_len (pa_cons (pv 0) pa_nil)) (nomark _))
    (pss_one (ps_ret (pe_ix ix_list (pv 0) (pv 1) (fun _ _ => rfl))))
    pss_nil)
    (pss_one (ps_ret pe_int))),
    rd_cell_at h⟩
theorem ok_mixed (T : Tx K mg A) : FnOk P w K mg base CX0 2 T.f_mixed T.fd_mixed ["_law_script", "_law_k", "_law_salt"] (sp_mixed K A) := by
  refine T.F_mixed.ok sc_mixed (fun vs H Q E h => by obtain ⟨a, b, c, rfl, h⟩ := h; rfl) (fun cdv A0 outer s H vs Q E hr h => ?_)
  have hu := hu_of hr
  obtain ⟨a, b, c, rfl, h⟩ := h
  exact ⟨t_mixed K A, (pss_one (ps_ret (pe_op op_mod (pe_op op_add (pe_op op_mul (pe_call (ok_cell_at T) (hr.mono (by decide)) rfl T.m_cell_at T.F_cell_at.kp T.b_cell_at .nil pass0 (pa_cons (pv 0) (pa_cons (pv 1) pa_nil))) pe_int) (pe_op op_mul (pv 2) pe_int)) pe_int))),
    rd_mixed h⟩
theorem ok_wait_by (T : Tx K mg A) : FnOk P w K mg base CX0 1 T.f_wait_by T.fd_wait_by ["_law_number", "_law_size"] (sp_wait_by K A) := by
  refine T.F_wait_by.ok sc_wait_by (fun vs H Q E h => by obtain ⟨a, b, rfl, h⟩ := h; rfl) (fun cdv A0 outer s H vs Q E hr h => ?_)
  have hu := hu_of hr
  obtain ⟨a, b, rfl, h⟩ := h
  exact ⟨t_wait_by K A, (pss_cons (ps_if (pt_cmpR op_eq (pe_op op_mod (pv 0) pe_int) pe_int (nomark _))
    (pss_one (ps_ret pe_non))
    pss_nil)
    (pss_cons (ps_set (i := 2) sc_wait_by.nd rfl (Or.inl rfl) (pe_lst (pa_cons (pe_op op_mod (pe_op op_fdiv (pv 0) pe_int) (pv 1)) pa_nil)))
    (pss_cons (ps_for PassesOwn.never rfl (pi_range1 rfl T.bi_range (pa_cons (pe_op op_mod (pe_op op_fdiv (pv 0) pe_int) pe_int) pa_nil)) (pg_name (i := 3) sc_wait_by.nd rfl (Or.inl rfl))
    (pss_cons (ps_set (i := 4) sc_wait_by.nd rfl (Or.inl rfl) (pe_op op_mod (pe_op op_add (pe_op op_add (pe_ix ix_list (pv 2) pe_int (fun _ _ => rfl)) pe_int) (pe_op op_mod (pe_op op_fdiv (pv 0) (pe_op op_add pe_int (pe_op op_mul pe_int (pv 3)))) (pv 1))) (pv 1)))
    (pss_one (ps_if (pt_cmpR op_notIn_seq (pv 4) (pv 2) rfl)
    (pss_one (ps_expr (pe_bm PySem.F.plainAttrs_list PySem.F.slot_list_append PySem.F.type_list_append mt_append (pv 2) (pa_cons (pv 4) pa_nil))))
    pss_nil))))
    (pss_one (ps_ret (pe_tup (pa_cons (pe_ix ix_list (pe_lst (pa_cons pe_str (pa_cons pe_str pa_nil))) (pe_op op_mod (pv 0) pe_int) (fun _ _ => rfl)) (pa_cons (pv 2) pa_nil)))))))),
    rd_wait_by h⟩
theorem ok_odd (T : Tx K mg A) : FnOk P w K mg base CX0 1 T.f_odd T.fd_odd ["_law_kind", "_law_more", "_law_size", "_law_others"] (sp_odd K A) := by
  refine T.F_odd.ok sc_odd (fun vs H Q E h => by obtain ⟨a, b, c, d, rfl, h⟩ := h; rfl) (fun cdv A0 outer s H vs Q E hr h => ?_)
  have hu := hu_of hr
  obtain ⟨a, b, c, d, rfl, h⟩ := h
  exact ⟨t_odd K A, (pss_cons (ps_set (i := 4) sc_odd.nd rfl (Or.inl rfl) (pe_ix ix_list (pe_lst (pa_cons (pv 2) (pa_cons (pe_un un_neg pe_int) (pa_cons pe_bl (pa_cons pe_non (pa_cons pe_str (pa_cons (pe_op op_pow pe_int pe_int) pa_nil))))))) (pe_op op_mod (pv 1) pe_int) (fun _ _ => rfl)))
    (pss_cons (ps_set (i := 5) sc_odd.nd rfl (Or.inl rfl) (pe_callTy call_listq (by rfl) T.bi_list (by decide +kernel) (pa_cons (pv 3) pa_nil)))
    (pss_cons (ps_if (pt_cmpR op_lt (pv 0) pe_int (nomark _))
    (pss_cons (ps_expr (pe_bm PySem.F.plainAttrs_list PySem.F.slot_list_insert PySem.F.type_list_insert mt_insertq (pv 5) (pa_cons (pe_op op_mod (pe_op op_fdiv (pv 1) pe_int) (pe_op op_add (pe_callB call_lenq (by rfl) T.bi_len PySem.boot_len (pa_cons (pv 5) pa_nil)) pe_int)) (pa_cons (pe_ix ix_list (pe_lst (pa_cons (pv 4) (pa_cons (pe_ix ix_list (pv 5) (pe_op op_mod (pv 1) (pe_callB call_lenq (by rfl) T.bi_len PySem.boot_len (pa_cons (pv 5) pa_nil))) (fun _ _ => rfl)) pa_nil))) (pe_op op_mod (pv 0) pe_int) (fun _ _ => rfl)) pa_nil))))
    (pss_one (ps_ret (pe_tup (pa_cons (pe_ix ix_list (pe_lst (pa_cons pe_str (pa_cons pe_str pa_nil))) (pe_op op_fdiv (pv 0) pe_int) (fun _ _ => rfl)) (pa_cons (pv 5) pa_nil))))))
    pss_nil)
    (pss_cons (ps_if (pt_cmpR op_lt (pv 0) pe_int (nomark _))
    (pss_cons (ps_set (i := 6) sc_odd.nd rfl (Or.inl rfl) (pe_ix ix_list (pe_lst (pa_cons pe_str (pa_cons pe_str (pa_cons pe_str (pa_cons pe_str (pa_cons pe_str (pa_cons pe_str (pa_cons pe_str (pa_cons pe_str pa_nil))))))))) (pe_op op_mod (pe_op op_fdiv (pv 1) pe_int) pe_int) (fun _ _ => rfl)))
    (pss_one (ps_ret (pe_ix ix_list (pe_lst (pa_cons (pe_tup (pa_cons pe_str (pa_cons (pe_lst pa_nil) pa_nil))) (pa_cons (pe_tup (pa_cons pe_str (pa_cons (pe_lst pa_nil) pa_nil))) (pa_cons (pe_tup (pa_cons (pv 6) (pa_cons (pv 5) pa_nil))) (pa_cons (pe_tup (pa_cons (pv 6) (pa_cons (pv 5) pa_nil))) pa_nil))))) (pe_op op_sub (pv 0) pe_int) (fun _ _ => rfl)))))
    pss_nil)
    (pss_cons (ps_if (pt_cmpR op_lt (pv 0) pe_int (nomark _))
    (pss_one (ps_ret (pe_ix ix_list (pe_lst (pa_cons (pe_tup (pa_cons pe_str (pa_cons (pe_callTy call_tuple_ofq (by rfl) T.bi_tuple (by decide +kernel) (pa_cons (pv 5) pa_nil)) pa_nil))) (pa_cons (pe_lst (pa_cons pe_str (pa_cons (pv 5) pa_nil))) (pa_cons (pe_tup (pa_cons pe_str (pa_cons (pv 5) (pa_cons (pv 5) pa_nil)))) (pa_cons (pe_tup (pa_cons pe_str pa_nil)) pa_nil))))) (pe_op op_sub (pv 0) pe_int) (fun _ _ => rfl))))
    pss_nil)
    (pss_one (ps_ret (pe_ix ix_list (pe_lst (pa_cons (pe_tup (pa_cons pe_int (pa_cons (pv 5) pa_nil))) (pa_cons (pe_tup (pa_cons pe_str (pa_cons pe_int pa_nil))) (pa_cons pe_str (pa_cons pe_int (pa_cons pe_bl (pa_cons (pe_tup pa_nil) (pa_cons (pe_tup (pa_cons pe_non (pa_cons (pv 5) pa_nil))) pa_nil)))))))) (pe_op op_sub (pv 0) pe_int) (fun _ _ => rfl))))))))),
    rd_odd h⟩
theorem ok_said (T : Tx K mg A) : FnOk P w K mg base CX0 4 T.f_said T.fd_said ["_law_waits", "_law_way"] (sp_said K A) := by
  refine T.F_said.ok sc_said (fun vs H Q E h => by obtain ⟨a, b, rfl, h⟩ := h; rfl) (fun cdv A0 outer s H vs Q E hr h => ?_)
  have hu := hu_of hr
  obtain ⟨a, b, rfl, h⟩ := h
  exact ⟨t_said K A, (Evl.pss_cut (ps_if (pt_cmpR op_eq (pv 1) pe_int (nomark _))
    (pss_one (ps_tryA (i := 2) (tb := fun W => (tRet (tTup (tCons (tC (.str "good")) (tCons (tCallS (sp_need K A) (WE W) (tCons (tVar 0) tNil)) tNil))))) (ts := fun a cls d => (tRet (tTup (tCons (tC (.str "bad")) (tCons (tXf a cls d A.cBadWaits "at" (tVar 2)) tNil))))) rfl rfl sc_said.nd rfl rfl ⟨rfl, by decide, Or.inl T.gc_BadWaits⟩ takes0
    (fun W pn xe tk _ => (pss_one (ps_ret (pe_tup (pa_cons pe_str (pa_cons (by exact (pe_callS (ok_need T) (hr.mono (by decide)) rfl T.m_need T.F_need.kp T.b_need (fun σ => passAt tk σ) (by exact (pa_cons (pv 0) pa_nil)))) pa_nil))))))
    (fun a oe cls d pn hz hf => (pss_one (ps_ret (pe_tup (pa_cons pe_str (pa_cons (pe_xf T.err.xf T.err.noAt hz hf (pv 2)) pa_nil))))))))
    pss_nil)
    (pss_one (ps_tryA (i := 2) (tb := fun W => (tRet (tTup (tCons (tC (.str "good")) (tCons (tCallS (sp_need K A) (WE W) (tCons (tVar 0) tNil)) tNil))))) (ts := fun a cls d => (tSeq (tIfS (tOr (tB (tCB (qIsE K a cls d) (tCons (tVar 2) (tCons (tC (.ref A.cNoHand)) tNil)))) (tOr (tB (tCB (qIsE K a cls d) (tCons (tVar 2) (tCons (tC (.ref A.cNoLetter)) tNil)))) (tNot (tB (tCB (qIsE K a cls d) (tCons (tVar 2) (tCons (tC (.ty "ValueError")) tNil)))))))
    (tRet (tTup (tCons (tC (.str "other")) (tCons (tC .non) tNil))))
    tNext)
    (tRet (tTup (tCons (tC (.str "bad")) (tCons (tXf a cls d A.cBadWaits "at" (tVar 2)) tNil)))))) rfl rfl sc_said.nd rfl rfl ⟨rfl, by decide, Or.inl T.gc_BellError⟩ takes0
    (fun W pn xe tk _ => (pss_one (ps_ret (pe_tup (pa_cons pe_str (pa_cons (by exact (pe_callS (ok_need T) (hr.mono (by decide)) rfl T.m_need T.F_need.kp T.b_need (fun σ => passAt tk σ) (by exact (pa_cons (pv 0) pa_nil)))) pa_nil))))))
    (fun a oe cls d pn hz hf => (pss_cons (ps_if (PW.pt (pw_or (pt_val (pe_callB (call_isEq T.err.g hz hf) (by rfl) T.bi_isinstance (by decide +kernel) (pa_cons (pv 2) (pa_cons (pe_glob rfl T.gc_NoHand rfl) pa_nil)))) (pw_or (pt_val (pe_callB (call_isEq T.err.g hz hf) (by rfl) T.bi_isinstance (by decide +kernel) (pa_cons (pv 2) (pa_cons (pe_glob rfl T.gc_NoLetter rfl) pa_nil)))) (pw_or1 (pt_not (pt_val (pe_callB (call_isEq T.err.g hz hf) (by rfl) T.bi_isinstance (by decide +kernel) (pa_cons (pv 2) (pa_cons (pe_bltn (by rfl) T.bi_ValueError (by decide +kernel) rfl) pa_nil)))))))))
    (pss_one (ps_ret (pe_tup (pa_cons pe_str (pa_cons pe_non pa_nil)))))
    pss_nil)
    (pss_one (ps_ret (pe_tup (pa_cons pe_str (pa_cons (pe_xf T.err.xf T.err.noAt hz hf (pv 2)) pa_nil)))))))))),
    rd_said T.err h⟩
theorem ok_spoiled (T : Tx K mg A) : FnOk P w K mg base CX0 2 T.f_spoiled T.fd_spoiled ["_law_script", "_law_waits"] (sp_spoiled K A) := by
  refine T.F_spoiled.ok sc_spoiled (fun vs H Q E h => by obtain ⟨a, b, rfl, h⟩ := h; rfl) (fun cdv A0 outer s H vs Q E hr h => ?_)
  have hu := hu_of hr
  obtain ⟨a, b, rfl, h⟩ := h
  exact ⟨t_spoiled K A, (pss_cons (ps_set (i := 2) sc_spoiled.nd rfl (Or.inr rfl) (pe_callB call_lenq (by rfl) T.bi_len PySem.boot_len (pa_cons (pv 1) pa_nil)))
    (pss_cons (ps_set (i := 3) sc_spoiled.nd rfl (Or.inl rfl) (pe_op op_mod (pe_call (ok_cell_at T) (hr.mono (by decide)) rfl T.m_cell_at T.F_cell_at.kp T.b_cell_at .nil pass0 (pa_cons (pv 0) (pa_cons pe_int pa_nil))) pe_int))
    (pss_cons (ps_set (i := 4) sc_spoiled.nd rfl (Or.inr rfl) (pe_op op_mod (pe_call (ok_cell_at T) (hr.mono (by decide)) rfl T.m_cell_at T.F_cell_at.kp T.b_cell_at .nil pass0 (pa_cons (pv 0) (pa_cons pe_int pa_nil))) (pv 2)))
    (pss_cons (ps_set (i := 5) sc_spoiled.nd rfl (Or.inl rfl) (pe_call (ok_cell_at T) (hr.mono (by decide)) rfl T.m_cell_at T.F_cell_at.kp T.b_cell_at .nil pass0 (pa_cons (pv 0) (pa_cons pe_int pa_nil))))
    (pss_cons (ps_if (pt_cmpR op_lt (pv 3) pe_int (nomark _))
    (pss_cons (ps_asg (pe_call (ok_odd T) (hr.mono (by decide)) rfl T.m_odd T.F_odd.kp T.b_odd .nil pass0 (pa_cons (pv 3) (pa_cons (pv 5) (pa_cons (pv 2) (pa_cons (pe_lc (own := [("_law_k", 6)]) (g := (gName 6)) (tt := tYes) (te := (tOp qMod (tOp qAdd (tVar 4) (tVar 6)) (tVar 2))) rfl sc_spoiled.nd (pi_range1 rfl T.bi_range (pa_cons (pe_op op_add pe_int (pe_op op_mod (pe_op op_fdiv (pv 5) pe_int) (pv 2))) pa_nil)) (blkOk_by (own := [("_law_k", 6)]) (N := ["_law_script", "_law_waits", "_law_size", "_law_kind", "_law_at", "_law_more", "_law_k"]) (sc := defScope s_spoiled) (by decide +kernel)) (fun _ _ _ _ _ => (pg_name (i := 6) sc_spoiled.nd rfl (Or.inl rfl))) (fun _ _ _ _ _ => pts_nil) (fun _ _ _ _ _ => (pe_op op_mod (pe_op op_add (pv 4) (pv 6)) (pv 2)))) pa_nil))))) (pg_sub (pv 1) (pv 4) set_list))
    (Evl.pss_cut (ps_if (pt_cmpR op_eq (pe_op op_mod (pe_op op_fdiv (pv 5) pe_int) pe_int) pe_int (nomark _))
    (pss_one (ps_asg (pe_call (ok_odd T) (hr.mono (by decide)) rfl T.m_odd T.F_odd.kp T.b_odd .nil pass0 (pa_cons (pv 3) (pa_cons (pv 5) (pa_cons (pv 2) (pa_cons (pe_lst (pa_cons pe_int pa_nil)) pa_nil))))) (pg_sub (pv 1) (pe_op op_add (pv 4) (pe_op op_mod (pv 5) (pe_op op_sub (pv 2) (pv 4)))) set_list)))
    pss_nil)
    (pss_one (ps_ret (pe_tup (pa_cons (pv 1) (pa_cons (pv 4) pa_nil)))))))
    pss_nil)
    (pss_cons (ps_if (pt_cmpR op_lt (pv 3) pe_int (nomark _))
    (pss_one (ps_ret (pe_tup (pa_cons (pe_ix ix_list (pe_lst (pa_cons (pe_callTy call_tuple_ofq (by rfl) T.bi_tuple (by decide +kernel) (pa_cons (pv 1) pa_nil)) (pa_cons pe_non (pa_cons (pe_lst pa_nil) pa_nil)))) (pe_op op_sub (pv 3) pe_int) (fun _ _ => rfl)) (pa_cons pe_non pa_nil)))))
    pss_nil)
    (pss_cons (ps_if (pt_cmpR op_eq (pv 3) pe_int (nomark _))
    (pss_one (ps_ret (pe_tup (pa_cons (pe_op op_rep (pe_lst (pa_cons pe_non pa_nil)) pe_int) (pa_cons pe_non pa_nil)))))
    pss_nil)
    (pss_one (ps_ret (pe_tup (pa_cons (pv 1) (pa_cons pe_str pa_nil)))))))))))),
    rd_spoiled h⟩
theorem ok_made (T : Tx K mg A) : FnOk P w K mg base CX0 3 T.f_made T.fd_made ["_law_script"] (sp_made K A) := by
  refine T.F_made.ok sc_made (fun vs H Q E h => by obtain ⟨a, rfl, h⟩ := h; rfl) (fun cdv A0 outer s H vs Q E hr h => ?_)
  have hu := hu_of hr
  obtain ⟨a, rfl, h⟩ := h
  exact ⟨t_made K A, (pss_cons (ps_set (i := 1) sc_made.nd rfl (Or.inr rfl) (pe_call (ok_cell_at T) (hr.mono (by decide)) rfl T.m_cell_at T.F_cell_at.kp T.b_cell_at .nil pass0 (pa_cons (pv 0) (pa_cons pe_int pa_nil))))
    (pss_cons (ps_set (i := 2) sc_made.nd rfl (Or.inr rfl) (pe_op op_add pe_int (pe_op op_mod (pv 1) pe_int)))
    (Evl.pss_cut (ps_if (pt_cmpR op_eq (pe_op op_mod (pe_op op_fdiv (pv 1) pe_int) pe_int) pe_int (nomark _))
    (pss_one (ps_set (i := 2) sc_made.nd rfl (Or.inr rfl) (pe_op op_add pe_int (pe_op op_mod (pe_op op_fdiv (pv 1) pe_int) pe_int))))
    pss_nil)
    (pss_cons (ps_setLc (i := 4) (own := [("_law_k", 3)]) (g := (gName 3)) (tt := tYes) (te := (tCall (sp_wait_by K A) [] E0 (tCons (tCall (sp_mixed K A) [] E0 (tCons (tVar 0) (tCons (tOp qAdd (tC (.int 4)) (tOp qMod (tVar 3) (tC (.int 40)))) (tCons (tVar 3) tNil)))) (tCons (tVar 2) tNil)))) rfl sc_made.nd rfl rfl (sw_true rfl rfl rfl (by decide +kernel)) (pi_range1 rfl T.bi_range (pa_cons (pv 2) pa_nil)) (blkOk_by (own := [("_law_k", 3)]) (N := ["_law_script", "_law_cell", "_law_size", "_law_k", "_law_waits"]) (sc := defScope s_made) (by decide +kernel)) (fun _ _ _ _ _ => (pg_name (i := 3) sc_made.nd rfl (Or.inl rfl))) (fun _ _ _ _ _ => pts_nil) (fun _ _ _ _ _ => (pe_call (ok_wait_by T) (hr.mono (by decide)) rfl T.m_wait_by T.F_wait_by.kp T.b_wait_by .nil pass0 (pa_cons (pe_call (ok_mixed T) (hr.mono (by decide)) rfl T.m_mixed T.F_mixed.kp T.b_mixed .nil pass0 (pa_cons (pv 0) (pa_cons (pe_op op_add pe_int (pe_op op_mod (pv 3) pe_int)) (pa_cons (pv 3) pa_nil)))) (pa_cons (pv 2) pa_nil)))))
    (Evl.pss_cut (ps_if (pt_cmpR op_eq (pe_op op_mod (pe_op op_fdiv (pv 1) pe_int) pe_int) pe_int (nomark _))
    (pss_one (ps_asg (pe_tup (pa_cons pe_str (pa_cons (pe_lc (own := [("_law_k", 3)]) (g := (gName 3)) (tt := tYes) (te := (tOp qMod (tOp qSub (tOp qAdd (tVar 2) (tOp qDiv (tVar 1) (tC (.int 4480)))) (tVar 3)) (tVar 2))) rfl sc_made.nd (pi_range1 rfl T.bi_range (pa_cons (pv 2) pa_nil)) (blkOk_by (own := [("_law_k", 3)]) (N := ["_law_script", "_law_cell", "_law_size", "_law_k", "_law_waits"]) (sc := defScope s_made) (by decide +kernel)) (fun _ _ _ _ _ => (pg_name (i := 3) sc_made.nd rfl (Or.inl rfl))) (fun _ _ _ _ _ => pts_nil) (fun _ _ _ _ _ => (pe_op op_mod (pe_op op_sub (pe_op op_add (pv 2) (pe_op op_fdiv (pv 1) pe_int)) (pv 3)) (pv 2)))) pa_nil))) (pg_sub (pv 4) (pe_op op_mod (pe_op op_fdiv (pv 1) pe_int) (pv 2)) set_list)))
    pss_nil)
    (pss_one (ps_ret (pe_call (ok_spoiled T) (hr.mono (by decide)) rfl T.m_spoiled T.F_spoiled.kp T.b_spoiled .nil pass0 (pa_cons (pv 0) (pa_cons (pv 4) pa_nil)))))))))),
    rd_made h⟩
theorem ok_law (T : Tx K mg A) : FnOk P w K mg base CX0 5 T.f_law T.fd_law ["_law_script"] (sp_law K A) := by
  refine T.F_law.ok sc_law (fun vs H Q E h => by obtain ⟨a, rfl, h⟩ := h; rfl) (fun cdv A0 outer s H vs Q E hr h => ?_)
  have hu := hu_of hr
  obtain ⟨a, rfl, h⟩ := h
  exact ⟨t_law K A, (pss_cons (ps_set (i := 1) sc_law.nd rfl (Or.inl rfl) (pe_call (ok_made T) (hr.mono (by decide)) rfl T.m_made T.F_made.kp T.b_made .nil pass0 (pa_cons (pv 0) pa_nil)))
    (pss_cons (ps_set (i := 2) sc_law.nd rfl (Or.inl rfl) (pe_call (ok_said T) (hr.mono (by decide)) rfl T.m_said T.F_said.kp T.b_said .nil pass0 (pa_cons (pe_ix ix_tup (pv 1) pe_int (fun _ _ => rfl)) (pa_cons (pe_op op_mod (pe_op op_fdiv (pe_call (ok_cell_at T) (hr.mono (by decide)) rfl T.m_cell_at T.F_cell_at.kp T.b_cell_at .nil pass0 (pa_cons (pv 0) (pa_cons pe_int pa_nil))) pe_int) pe_int) pa_nil))))
    (pss_cons (ps_if (pt_cmpR (op_neD hr.units) (pe_ix ix_tup (pv 1) pe_int (fun _ _ => rfl)) (pe_ix ix_tup (pe_call (ok_made T) (hr.mono (by decide)) rfl T.m_made T.F_made.kp T.b_made .nil pass0 (pa_cons (pv 0) pa_nil)) pe_int (fun _ _ => rfl)) (nomark _))
    (pss_one (ps_ret pe_bl))
    pss_nil)
    (pss_cons (ps_if (pt_cmpR (op_eqD hr.units) (pe_ix ix_tup (pv 1) pe_int (fun _ _ => rfl)) pe_str (nomark _))
    (pss_one (ps_ret (pe_and (pe_cmpR (op_eqD hr.units) (pv 2) (pe_tup (pa_cons pe_str (pa_cons pe_bl pa_nil))) (nomark _)) (pe_and (pe_callB call_isi (by rfl) T.bi_isinstance (by decide +kernel) (pa_cons (pe_ix ix_tup (pv 2) pe_int (fun _ _ => rfl)) (pa_cons (pe_bltn (by rfl) T.bi_bool (by decide +kernel) rfl) pa_nil))) (pe_one (pe_cmpR op_eq (pe_glob rfl T.co_MOST_HANDS ⟨_, rfl⟩) pe_int (nomark _)))))))
    pss_nil)
    (pss_cons (ps_if (PW.pt (pw_or (pt_cmpR op_ne (pe_ix ix_tup (pv 2) pe_int (fun _ _ => rfl)) pe_str (nomark _)) (pw_or1 (pt_cmpR op_isNq (pe_ix ix_tup (pv 1) pe_int (fun _ _ => rfl)) pe_non (nomark _)))))
    (pss_one (ps_ret (pe_cmpR (op_eqD hr.units) (pv 2) (pe_tup (pa_cons pe_str (pa_cons pe_non pa_nil))) (nomark _))))
    pss_nil)
    (pss_one (ps_ret (pe_and (pe_callB call_isi (by rfl) T.bi_isinstance (by decide +kernel) (pa_cons (pe_ix ix_tup (pv 2) pe_int (fun _ _ => rfl)) (pa_cons (pe_bltn (by rfl) T.bi_int (by decide +kernel) rfl) pa_nil))) (pe_and (pe_not (pe_callB call_isi (by rfl) T.bi_isinstance (by decide +kernel) (pa_cons (pe_ix ix_tup (pv 2) pe_int (fun _ _ => rfl)) (pa_cons (pe_bltn (by rfl) T.bi_bool (by decide +kernel) rfl) pa_nil)))) (pe_one (pe_cmpR (op_eqD hr.units) (pe_ix ix_tup (pv 2) pe_int (fun _ _ => rfl)) (pe_ix ix_tup (pv 1) pe_int (fun _ _ => rfl)) (nomark _)))))))))))),
    rd_law h⟩
end
theorem all_mk {l : PySem.W.OpenLaw} {w : World} {K : PySem.W.Frag} {h : Heap} {mg : Str → Option Value} {fa : Addr} (X : K.In h) (G : h.Ns mainGlobals mg) (hfa : mg "law" = some (.ref fa))
    {cBellError : Addr} {cBadWaits : Addr} {cNoHand : Addr} {cNoLetter : Addr} {f1 : Addr} {od1 an1 : Option Addr} {sl1 : Array (Option Value)} {oc1 kV1 dc1 pm1 cd1 ct1 : Value} {f2 : Addr} {od2 an2 : Option Addr} {sl2 : Array (Option Value)} {oc2 kV2 dc2 pm2 cd2 ct2 : Value} {f3 : Addr} {od3 an3 : Option Addr} {sl3 : Array (Option Value)} {oc3 kV3 dc3 pm3 cd3 ct3 : Value} {f4 : Addr} {od4 an4 : Option Addr} {sl4 : Array (Option Value)} {oc4 kV4 dc4 pm4 cd4 ct4 : Value} {f5 : Addr} {od5 an5 : Option Addr} {sl5 : Array (Option Value)} {oc5 kV5 dc5 pm5 cd5 ct5 : Value} {f6 : Addr} {od6 an6 : Option Addr} {sl6 : Array (Option Value)} {oc6 kV6 dc6 pm6 cd6 ct6 : Value} {f7 : Addr} {od7 an7 : Option Addr} {sl7 : Array (Option Value)} {oc7 kV7 dc7 pm7 cd7 ct7 : Value} {f8 : Addr} {od8 an8 : Option Addr} {sl8 : Array (Option Value)} {oc8 kV8 dc8 pm8 cd8 ct8 : Value} {f9 : Addr} {od9 an9 : Option Addr} {sl9 : Array (Option Value)} {oc9 kV9 dc9 pm9 cd9 ct9 : Value} {f10 : Addr} {od10 an10 : Option Addr} {sl10 : Array (Option Value)} {oc10 kV10 dc10 pm10 cd10 ct10 : Value} {f11 : Addr} {od11 an11 : Option Addr} {sl11 : Array (Option Value)} {oc11 kV11 dc11 pm11 cd11 ct11 : Value} {f12 : Addr} {od12 an12 : Option Addr} {sl12 : Array (Option Value)} {oc12 kV12 dc12 pm12 cd12 ct12 : Value} {nmB qB : Str} {NB : Addr} {bsB : List Value} {snB : List Str} {suB : List Value} {abB : Bool} {coB : Option Bool} {ddB : Option Addr} {m0B m1B m2B m3B m5B : Option Value} {tMOST_HANDS : Tok} {aW : Addr} {dW0 : Option Addr} {t1W t2W : Tok} {nW : Nat} {slW : Array (Option Value)}
    (gBellError : PySem.W.nsIn K mainGlobals "BellError" = some (some (.ref cBellError)))
    (gBadWaits : PySem.W.nsIn K mainGlobals "BadWaits" = some (some (.ref cBadWaits)))
    (gNoHand : PySem.W.nsIn K mainGlobals "NoHand" = some (some (.ref cNoHand)))
    (gNoLetter : PySem.W.nsIn K mainGlobals "NoLetter" = some (some (.ref cNoLetter)))
    (a1 : PySem.W.findIn K (.ref cBadWaits) "__init__" = some (some (.ref f1)))
    (i1 : PySem.W.isFn K (.ref f1) = true)
    (l1 : K.lookup f1 = some ⟨oc1, od1, .func (PySem.W.fnOf "__init__" "BadWaits.__init__" (defArgs s_BadWaits_init) (defBody s_BadWaits_init) (defScope s_BadWaits_init) .none kV1 dc1 pm1 an1 cd1 ct1), sl1⟩)
    (c1 : PySem.W.codeIn K cd1 "BadWaits.__init__" = true)
    (k1 : PySem.W.keepIn K (.ref f1) = true)
    (a2 : PySem.W.nsIn K mainGlobals "is_hand" = some (some (.ref f2)))
    (l2 : K.lookup f2 = some ⟨oc2, od2, .func (PySem.W.fnOf "is_hand" "is_hand" (defArgs s_is_hand) (defBody s_is_hand) (defScope s_is_hand) .none kV2 dc2 pm2 an2 cd2 ct2), sl2⟩)
    (c2 : PySem.W.codeIn K cd2 "is_hand" = true)
    (k2 : PySem.W.keepIn K (.ref f2) = true)
    (a3 : PySem.W.nsIn K mainGlobals "is_wait" = some (some (.ref f3)))
    (l3 : K.lookup f3 = some ⟨oc3, od3, .func (PySem.W.fnOf "is_wait" "is_wait" (defArgs s_is_wait) (defBody s_is_wait) (defScope s_is_wait) .none kV3 dc3 pm3 an3 cd3 ct3), sl3⟩)
    (c3 : PySem.W.codeIn K cd3 "is_wait" = true)
    (k3 : PySem.W.keepIn K (.ref f3) = true)
    (a4 : PySem.W.nsIn K mainGlobals "need" = some (some (.ref f4)))
    (l4 : K.lookup f4 = some ⟨oc4, od4, .func (PySem.W.fnOf "need" "need" (defArgs s_need) (defBody s_need) (defScope s_need) .none kV4 dc4 pm4 an4 cd4 ct4), sl4⟩)
    (c4 : PySem.W.codeIn K cd4 "need" = true)
    (k4 : PySem.W.keepIn K (.ref f4) = true)
    (a5 : PySem.W.nsIn K mainGlobals "_law_cell_at" = some (some (.ref f5)))
    (l5 : K.lookup f5 = some ⟨oc5, od5, .func (PySem.W.fnOf "_law_cell_at" "_law_cell_at" (defArgs s_cell_at) (defBody s_cell_at) (defScope s_cell_at) .none kV5 dc5 pm5 an5 cd5 ct5), sl5⟩)
    (c5 : PySem.W.codeIn K cd5 "_law_cell_at" = true)
    (k5 : PySem.W.keepIn K (.ref f5) = true)
    (a6 : PySem.W.nsIn K mainGlobals "_law_mixed" = some (some (.ref f6)))
    (l6 : K.lookup f6 = some ⟨oc6, od6, .func (PySem.W.fnOf "_law_mixed" "_law_mixed" (defArgs s_mixed) (defBody s_mixed) (defScope s_mixed) .none kV6 dc6 pm6 an6 cd6 ct6), sl6⟩)
    (c6 : PySem.W.codeIn K cd6 "_law_mixed" = true)
    (k6 : PySem.W.keepIn K (.ref f6) = true)
    (a7 : PySem.W.nsIn K mainGlobals "_law_wait_by" = some (some (.ref f7)))
    (l7 : K.lookup f7 = some ⟨oc7, od7, .func (PySem.W.fnOf "_law_wait_by" "_law_wait_by" (defArgs s_wait_by) (defBody s_wait_by) (defScope s_wait_by) .none kV7 dc7 pm7 an7 cd7 ct7), sl7⟩)
    (c7 : PySem.W.codeIn K cd7 "_law_wait_by" = true)
    (k7 : PySem.W.keepIn K (.ref f7) = true)
    (a8 : PySem.W.nsIn K mainGlobals "_law_odd" = some (some (.ref f8)))
    (l8 : K.lookup f8 = some ⟨oc8, od8, .func (PySem.W.fnOf "_law_odd" "_law_odd" (defArgs s_odd) (defBody s_odd) (defScope s_odd) .none kV8 dc8 pm8 an8 cd8 ct8), sl8⟩)
    (c8 : PySem.W.codeIn K cd8 "_law_odd" = true)
    (k8 : PySem.W.keepIn K (.ref f8) = true)
    (a9 : PySem.W.nsIn K mainGlobals "_law_said" = some (some (.ref f9)))
    (l9 : K.lookup f9 = some ⟨oc9, od9, .func (PySem.W.fnOf "_law_said" "_law_said" (defArgs s_said) (defBody s_said) (defScope s_said) .none kV9 dc9 pm9 an9 cd9 ct9), sl9⟩)
    (c9 : PySem.W.codeIn K cd9 "_law_said" = true)
    (k9 : PySem.W.keepIn K (.ref f9) = true)
    (a10 : PySem.W.nsIn K mainGlobals "_law_spoiled" = some (some (.ref f10)))
    (l10 : K.lookup f10 = some ⟨oc10, od10, .func (PySem.W.fnOf "_law_spoiled" "_law_spoiled" (defArgs s_spoiled) (defBody s_spoiled) (defScope s_spoiled) .none kV10 dc10 pm10 an10 cd10 ct10), sl10⟩)
    (c10 : PySem.W.codeIn K cd10 "_law_spoiled" = true)
    (k10 : PySem.W.keepIn K (.ref f10) = true)
    (a11 : PySem.W.nsIn K mainGlobals "_law_made" = some (some (.ref f11)))
    (l11 : K.lookup f11 = some ⟨oc11, od11, .func (PySem.W.fnOf "_law_made" "_law_made" (defArgs s_made) (defBody s_made) (defScope s_made) .none kV11 dc11 pm11 an11 cd11 ct11), sl11⟩)
    (c11 : PySem.W.codeIn K cd11 "_law_made" = true)
    (k11 : PySem.W.keepIn K (.ref f11) = true)
    (a12 : PySem.W.nsIn K mainGlobals "law" = some (some (.ref f12)))
    (l12 : K.lookup f12 = some ⟨oc12, od12, .func (PySem.W.fnOf "law" "law" (defArgs s_law) (defBody s_law) (defScope s_law) .none kV12 dc12 pm12 an12 cd12 ct12), sl12⟩)
    (c12 : PySem.W.codeIn K cd12 "law" = true)
    (k12 : PySem.W.keepIn K (.ref f12) = true)
    (xlB : K.lookup cBadWaits = some (excClassObj nmB qB cBadWaits NB bsB [.ref cBellError, .type "ValueError", .type "Exception", .type "BaseException", .type "object"] true snB suB abB coB ddB m0B m1B m2B m3B m5B "ValueError.__new__"))
    (saB : PySem.W.findIn K (.ref cBadWaits) "__setattr__" = some (some (.builtin "object.__setattr__")))
    (kpB : PySem.W.keepIn K (.ref cBadWaits) = true)
    (naB : PySem.W.findIn K (.ref cBadWaits) "at" = some none)
    (exBadWaits : PySem.W.subIn K (.ref cBadWaits) (.type "BaseException") = some true)
    (tyBadWaits : PySem.W.typeIn K (.ref cBadWaits) = some (.type "type"))
    (hdBadWaits : PySem.W.hasDictIn K cBadWaits = true)
    (exBellError : PySem.W.subIn K (.ref cBellError) (.type "BaseException") = some true)
    (tyBellError : PySem.W.typeIn K (.ref cBellError) = some (.type "type"))
    (hdBellError : PySem.W.hasDictIn K cBellError = true)
    (icBadWaits : PySem.W.isClsIn K cBadWaits = true)
    (gaBadWaits : PySem.W.findIn K (.ref cBadWaits) "__getattribute__" = some (some (.builtin "BaseException.__getattribute__")))
    (ggBadWaits : PySem.W.findIn K (.ref cBadWaits) "__getattr__" = some none)
    (clBadWaits : PySem.W.findIn K (.ref cBadWaits) "__class__" = some (some (.builtin "object.__class__")))
    (mrBadWaits : PySem.W.mroIn K cBadWaits (.type "object") = some true)
    (hnG : PySem.W.specialIn K (.builtin "object.__class__") "__get__" = some (some (.builtin "getset_descriptor.__get__")))
    (htG : PySem.W.takesIn K (.builtin "object.__class__") = some true)
    (rdL : PySem.W.readsIn K cBellError (.type "type") = true)
    (gaL : PySem.W.specialIn K (.ref cBellError) "__getattribute__" = some (some (.builtin "type.__getattribute__")))
    (viL : PySem.W.findCls K (.ref cBellError) (.type "type") "__init__" = some (.val (.builtin "ValueError.__init__")))
    (sBadWaitsBadWaits : PySem.W.subIn K (.ref cBadWaits) (.ref cBadWaits) = some true)
    (sBadWaitsBellError : PySem.W.subIn K (.ref cBadWaits) (.ref cBellError) = some true)
    (kitBadWaitsNoHand : PySem.W.kitOne K (.ref cBadWaits) (.ref cNoHand) = some false)
    (kitBadWaitsNoLetter : PySem.W.kitOne K (.ref cBadWaits) (.ref cNoLetter) = some false)
    (kitBadWaitsValueError : PySem.W.kitOne K (.ref cBadWaits) (.type "ValueError") = some true)
    (vMOST_HANDS : PySem.W.nsIn K mainGlobals "MOST_HANDS" = some (some (.int 40 tMOST_HANDS)))
    (vWORDS : PySem.W.nsIn K mainGlobals "WORDS" = some (some (.ref aW)))
    (xW : K.lookup aW = some ⟨.type "tuple", dW0, .seq #[.str "all" t1W, .str "any" t2W] nW, slW⟩)
    (z_ValueError : PySem.W.nsIn K mainGlobals "ValueError" = some none)
    (z_bool : PySem.W.nsIn K mainGlobals "bool" = some none)
    (z_enumerate : PySem.W.nsIn K mainGlobals "enumerate" = some none)
    (z_int : PySem.W.nsIn K mainGlobals "int" = some none)
    (z_isinstance : PySem.W.nsIn K mainGlobals "isinstance" = some none)
    (z_len : PySem.W.nsIn K mainGlobals "len" = some none)
    (z_list : PySem.W.nsIn K mainGlobals "list" = some none)
    (z_range : PySem.W.nsIn K mainGlobals "range" = some none)
    (z_str : PySem.W.nsIn K mainGlobals "str" = some none)
    (z_tuple : PySem.W.nsIn K mainGlobals "tuple" = some none) :
    ∃ fd : FuncData, (∀ (s : Shared) (v : Value), BindsTo s fd ⟨[v], []⟩ [("_law_script", v)]) ∧ ∀ base : Heap, K.In base → base.Ns mainGlobals mg → FnOk l.prog w K mg base CX0 5 fa fd ["_law_script"] (sp_law K ⟨aW, 0, 0, cBellError, cBadWaits, cNoHand, cNoLetter⟩) := by
  have e := hfa.symm.trans (PySem.W.mg_of X G a12)
  cases e
  have F1 := fun_mk (st := s_BadWaits_init) l1 c1 k1
  have b1 := F1.binds (ps := ["self", "at"]) fun _ _ _ _ _ _ us hl => match us, hl with | [_, _], _ => rfl
  have F2 := fun_mk (st := s_is_hand) l2 c2 k2
  have b2 := F2.binds (ps := ["thing", "many"]) fun _ _ _ _ _ _ us hl => match us, hl with | [_, _], _ => rfl
  have F3 := fun_mk (st := s_is_wait) l3 c3 k3
  have b3 := F3.binds (ps := ["wait", "many"]) fun _ _ _ _ _ _ us hl => match us, hl with | [_, _], _ => rfl
  have F4 := fun_mk (st := s_need) l4 c4 k4
  have b4 := F4.binds (ps := ["waits"]) fun _ _ _ _ _ _ us hl => match us, hl with | [_], _ => rfl
  have F5 := fun_mk (st := s_cell_at) l5 c5 k5
  have b5 := F5.binds (ps := ["_law_script", "_law_k"]) fun _ _ _ _ _ _ us hl => match us, hl with | [_, _], _ => rfl
  have F6 := fun_mk (st := s_mixed) l6 c6 k6
  have b6 := F6.binds (ps := ["_law_script", "_law_k", "_law_salt"]) fun _ _ _ _ _ _ us hl => match us, hl with | [_, _, _], _ => rfl
  have F7 := fun_mk (st := s_wait_by) l7 c7 k7
  have b7 := F7.binds (ps := ["_law_number", "_law_size"]) fun _ _ _ _ _ _ us hl => match us, hl with | [_, _], _ => rfl
  have F8 := fun_mk (st := s_odd) l8 c8 k8
  have b8 := F8.binds (ps := ["_law_kind", "_law_more", "_law_size", "_law_others"]) fun _ _ _ _ _ _ us hl => match us, hl with | [_, _, _, _], _ => rfl
  have F9 := fun_mk (st := s_said) l9 c9 k9
  have b9 := F9.binds (ps := ["_law_waits", "_law_way"]) fun _ _ _ _ _ _ us hl => match us, hl with | [_, _], _ => rfl
  have F10 := fun_mk (st := s_spoiled) l10 c10 k10
  have b10 := F10.binds (ps := ["_law_script", "_law_waits"]) fun _ _ _ _ _ _ us hl => match us, hl with | [_, _], _ => rfl
  have F11 := fun_mk (st := s_made) l11 c11 k11
  have b11 := F11.binds (ps := ["_law_script"]) fun _ _ _ _ _ _ us hl => match us, hl with | [_], _ => rfl
  have F12 := fun_mk (st := s_law) l12 c12 k12
  have b12 := F12.binds (ps := ["_law_script"]) fun _ _ _ _ _ _ us hl => match us, hl with | [_], _ => rfl
  let T : Tx K mg ⟨aW, 0, 0, cBellError, cBadWaits, cNoHand, cNoLetter⟩ := {
    f_BadWaits_init := f1,
    fd_BadWaits_init := PySem.W.fnOf "__init__" "BadWaits.__init__" (defArgs s_BadWaits_init) (defBody s_BadWaits_init) (defScope s_BadWaits_init) .none kV1 dc1 pm1 an1 cd1 ct1,
    F_BadWaits_init := F1,
    b_BadWaits_init := b1,
    i_BadWaits := a1,
    ti_BadWaits := beq_iff_eq.mp i1,
    f_is_hand := f2,
    fd_is_hand := PySem.W.fnOf "is_hand" "is_hand" (defArgs s_is_hand) (defBody s_is_hand) (defScope s_is_hand) .none kV2 dc2 pm2 an2 cd2 ct2,
    F_is_hand := F2,
    b_is_hand := b2,
    m_is_hand := PySem.W.mg_of X G a2,
    f_is_wait := f3,
    fd_is_wait := PySem.W.fnOf "is_wait" "is_wait" (defArgs s_is_wait) (defBody s_is_wait) (defScope s_is_wait) .none kV3 dc3 pm3 an3 cd3 ct3,
    F_is_wait := F3,
    b_is_wait := b3,
    m_is_wait := PySem.W.mg_of X G a3,
    f_need := f4,
    fd_need := PySem.W.fnOf "need" "need" (defArgs s_need) (defBody s_need) (defScope s_need) .none kV4 dc4 pm4 an4 cd4 ct4,
    F_need := F4,
    b_need := b4,
    m_need := PySem.W.mg_of X G a4,
    f_cell_at := f5,
    fd_cell_at := PySem.W.fnOf "_law_cell_at" "_law_cell_at" (defArgs s_cell_at) (defBody s_cell_at) (defScope s_cell_at) .none kV5 dc5 pm5 an5 cd5 ct5,
    F_cell_at := F5,
    b_cell_at := b5,
    m_cell_at := PySem.W.mg_of X G a5,
    f_mixed := f6,
    fd_mixed := PySem.W.fnOf "_law_mixed" "_law_mixed" (defArgs s_mixed) (defBody s_mixed) (defScope s_mixed) .none kV6 dc6 pm6 an6 cd6 ct6,
    F_mixed := F6,
    b_mixed := b6,
    m_mixed := PySem.W.mg_of X G a6,
    f_wait_by := f7,
    fd_wait_by := PySem.W.fnOf "_law_wait_by" "_law_wait_by" (defArgs s_wait_by) (defBody s_wait_by) (defScope s_wait_by) .none kV7 dc7 pm7 an7 cd7 ct7,
    F_wait_by := F7,
    b_wait_by := b7,
    m_wait_by := PySem.W.mg_of X G a7,
    f_odd := f8,
    fd_odd := PySem.W.fnOf "_law_odd" "_law_odd" (defArgs s_odd) (defBody s_odd) (defScope s_odd) .none kV8 dc8 pm8 an8 cd8 ct8,
    F_odd := F8,
    b_odd := b8,
    m_odd := PySem.W.mg_of X G a8,
    f_said := f9,
    fd_said := PySem.W.fnOf "_law_said" "_law_said" (defArgs s_said) (defBody s_said) (defScope s_said) .none kV9 dc9 pm9 an9 cd9 ct9,
    F_said := F9,
    b_said := b9,
    m_said := PySem.W.mg_of X G a9,
    f_spoiled := f10,
    fd_spoiled := PySem.W.fnOf "_law_spoiled" "_law_spoiled" (defArgs s_spoiled) (defBody s_spoiled) (defScope s_spoiled) .none kV10 dc10 pm10 an10 cd10 ct10,
    F_spoiled := F10,
    b_spoiled := b10,
    m_spoiled := PySem.W.mg_of X G a10,
    f_made := f11,
    fd_made := PySem.W.fnOf "_law_made" "_law_made" (defArgs s_made) (defBody s_made) (defScope s_made) .none kV11 dc11 pm11 an11 cd11 ct11,
    F_made := F11,
    b_made := b11,
    m_made := PySem.W.mg_of X G a11,
    f_law := fa,
    fd_law := PySem.W.fnOf "law" "law" (defArgs s_law) (defBody s_law) (defScope s_law) .none kV12 dc12 pm12 an12 cd12 ct12,
    F_law := F12,
    b_law := b12,
    m_law := PySem.W.mg_of X G a12,
    err := { ox := ⟨⟨nmB, qB, NB, bsB, _, snB, suB, abB, coB, ddB, m0B, m1B, m2B, m3B, m5B, xlB, by show PySem.HandSPX.refsVE [.type "ValueError", .type "Exception", .type "BaseException", .type "object"] = true; decide +kernel⟩, saB, exBadWaits, tyBadWaits, kpB⟩, noAt := naB, xf := ⟨gaBadWaits, ggBadWaits, exBadWaits, hdBadWaits⟩, g := ⟨hnG, htG⟩, cB := ⟨icBadWaits, gaBadWaits, ggBadWaits, exBadWaits, clBadWaits, mrBadWaits⟩, bb := PySem.W.exm_ref exBadWaits hdBadWaits tyBadWaits sBadWaitsBadWaits, bl := PySem.W.exm_ref exBellError hdBellError tyBellError sBadWaitsBellError, kBH := kitBadWaitsNoHand, kBL := kitBadWaitsNoLetter, kBV := kitBadWaitsValueError },
    rd_BellError := rdL,
    ga_BellError := gaL,
    v_BellError := viL,
    gc_BellError := PySem.W.mg_of X G gBellError,
    gc_BadWaits := PySem.W.mg_of X G gBadWaits,
    gc_NoHand := PySem.W.mg_of X G gNoHand,
    gc_NoLetter := PySem.W.mg_of X G gNoLetter,
    t_MOST_HANDS := tMOST_HANDS,
    co_MOST_HANDS := PySem.W.mg_of X G vMOST_HANDS,
    co_WORDS := PySem.W.mg_of X G vWORDS,
    words := fun H => .inr ⟨_, _, _, xW, rfl, rfl, by show 2 ≤ sizeLine; decide, .cons ⟨_, rfl⟩ (.cons ⟨_, rfl⟩ .nil)⟩,
    bi_ValueError := PySem.W.mg_none_of X G z_ValueError,
    bi_bool := PySem.W.mg_none_of X G z_bool,
    bi_enumerate := PySem.W.mg_none_of X G z_enumerate,
    bi_int := PySem.W.mg_none_of X G z_int,
    bi_isinstance := PySem.W.mg_none_of X G z_isinstance,
    bi_len := PySem.W.mg_none_of X G z_len,
    bi_list := PySem.W.mg_none_of X G z_list,
    bi_range := PySem.W.mg_none_of X G z_range,
    bi_str := PySem.W.mg_none_of X G z_str,
    bi_tuple := PySem.W.mg_none_of X G z_tuple }
  exact ⟨PySem.W.fnOf "law" "law" (defArgs s_law) (defBody s_law) (defScope s_law) .none kV12 dc12 pm12 an12 cd12 ct12, fun s v => .of_eq rfl, fun base _ _ => ok_law T⟩
end SB
open PySem PySem.W PyProof.Rows in
set_option maxRecDepth 100000 in
set_option maxHeartbeats 0 in
theorem PySem.Challenge.cw_stuckbell_k01_waits_let_by_holds : PySem.Challenge.rw_stuckbell_k01_waits_let_by.Holds := by
  w_on; o_law; k_head; (case hw => w_witness2)
  k_fill
  refine L2.walk_ofK (l := PySem.Challenge.rw_stuckbell_k01_waits_let_by) (n := 63) (k := 5) (x := "_law_script") (CX := L2.CX0) (sp := SB.spL) rfl (by decide) rfl ⟨rfl, by decide, by decide⟩ (fun w h Y => PySem.W.kIn_of Y) ?F (fun _ _ a ns hl _ hS => ⟨_, rfl, a, ns, rfl, hS, hl, fun _ => rfl⟩) (fun _ _ _ _ z => z)
  case F =>
    intro w mg fa h KX G hmg
    refine' SB.all_mk KX G hmg ?gBellError ?gBadWaits ?gNoHand ?gNoLetter ?a1 ?i1 ?l1 ?c1 ?k1 ?a2 ?l2 ?c2 ?k2 ?a3 ?l3 ?c3 ?k3 ?a4 ?l4 ?c4 ?k4 ?a5 ?l5 ?c5 ?k5 ?a6 ?l6 ?c6 ?k6 ?a7 ?l7 ?c7 ?k7 ?a8 ?l8 ?c8 ?k8 ?a9 ?l9 ?c9 ?k9 ?a10 ?l10 ?c10 ?k10 ?a11 ?l11 ?c11 ?k11 ?a12 ?l12 ?c12 ?k12 ?xlB ?saB ?kpB ?naB ?exBadWaits ?tyBadWaits ?hdBadWaits ?exBellError ?tyBellError ?hdBellError ?icBadWaits ?gaBadWaits ?ggBadWaits ?clBadWaits ?mrBadWaits ?hnG ?htG ?rdL ?gaL ?viL ?sBadWaitsBadWaits ?sBadWaitsBellError ?kitBadWaitsNoHand ?kitBadWaitsNoLetter ?kitBadWaitsValueError ?vMOST_HANDS ?vWORDS ?xW ?z_ValueError ?z_bool ?z_enumerate ?z_int ?z_isinstance ?z_len ?z_list ?z_range ?z_str ?z_tuple
    (case gBellError => k_is)
    (case gBadWaits => k_is)
    (case gNoHand => k_is)
    (case gNoLetter => k_is)
    (case a1 => k_is)
    (case i1 => k_is)
    (case l1 => k_is)
    (case c1 => k_is)
    (case k1 => k_is)
    (case a2 => k_is)
    (case l2 => k_is)
    (case c2 => k_is)
    (case k2 => k_is)
    (case a3 => k_is)
    (case l3 => k_is)
    (case c3 => k_is)
    (case k3 => k_is)
    (case a4 => k_is)
    (case l4 => k_is)
    (case c4 => k_is)
    (case k4 => k_is)
    (case a5 => k_is)
    (case l5 => k_is)
    (case c5 => k_is)
    (case k5 => k_is)
    (case a6 => k_is)
    (case l6 => k_is)
    (case c6 => k_is)
    (case k6 => k_is)
    (case a7 => k_is)
    (case l7 => k_is)
    (case c7 => k_is)
    (case k7 => k_is)
    (case a8 => k_is)
    (case l8 => k_is)
    (case c8 => k_is)
    (case k8 => k_is)
    (case a9 => k_is)
    (case l9 => k_is)
    (case c9 => k_is)
    (case k9 => k_is)
    (case a10 => k_is)
    (case l10 => k_is)
    (case c10 => k_is)
    (case k10 => k_is)
    (case a11 => k_is)
    (case l11 => k_is)
    (case c11 => k_is)
    (case k11 => k_is)
    (case a12 => k_is)
    (case l12 => k_is)
    (case c12 => k_is)
    (case k12 => k_is)
    (case xlB => k_is)
    (case saB => k_is)
    (case kpB => k_is)
    (case naB => k_is)
    (case exBadWaits => k_is)
    (case tyBadWaits => k_is)
    (case hdBadWaits => k_is)
    (case exBellError => k_is)
    (case tyBellError => k_is)
    (case hdBellError => k_is)
    (case icBadWaits => k_is)
    (case gaBadWaits => k_is)
    (case ggBadWaits => k_is)
    (case clBadWaits => k_is)
    (case mrBadWaits => k_is)
    (case hnG => k_is)
    (case htG => k_is)
    (case rdL => k_is)
    (case gaL => k_is)
    (case viL => k_is)
    (case sBadWaitsBadWaits => k_is)
    (case sBadWaitsBellError => k_is)
    (case kitBadWaitsNoHand => kit_is)
    (case kitBadWaitsNoLetter => kit_is)
    (case kitBadWaitsValueError => kit_is)
    (case vMOST_HANDS => k_is)
    (case vWORDS => k_is)
    (case xW => k_is)
    (case z_ValueError => k_is)
    (case z_bool => k_is)
    (case z_enumerate => k_is)
    (case z_int => k_is)
    (case z_isinstance => k_is)
    (case z_len => k_is)
    (case z_list => k_is)
    (case z_range => k_is)
    (case z_str => k_is)
    (case z_tuple => k_is)
