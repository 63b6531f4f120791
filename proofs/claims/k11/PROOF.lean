import PyProof.Rows.All
import Wide.All
import OpenK.AllK
import Wide.FinOn
import HandS.ForMost
import HandS.Wide
import HandS.SortInts
import HandS.Defaults
import HandS.IsInst
import HandS.SortRule
import HandS.Conv
import HandS.SetFor
import HandS.Strs
import HandS.SetBool
import HandS.Rev
import HandS.RevTup
import HandS.Flow
import KE.KStateDown
import Lean
import HandS.Base
import HandS.Call
import HandS.Ends
import HandS.More
import HandS.Words
import HandS.WordsExc
import HandS.Head0
import HandS.Head1
import HandS.Head2
import HandS.HeadEnd
import HandS.HeadHook1
import HandS.HeadHook2
import PySem.Challenge.RW_flushends_k11_rods_cut_in_every_order
set_option Elab.async false
set_option linter.all false
set_option maxRecDepth 100000
section
namespace Z
open PySem PySem.Spec PyProof.Rows L2

/-! ### data in a part of the heap that stays -/
inductive R (K : PySem.W.Frag) (F : Hp) : V → PyData → Prop
  | non : R K F .non .none
  | bl (b : Bool) : R K F (.bl b) (.bool b)
  | int (i : Int) : R K F (.int i) (.int i)
  | str (x : Str) : R K F (.str x) (.str x)
  | lst {a : Addr} {vs : List V} {ds : List PyData} : F a = some (.lst vs) → vs.length = ds.length → (∀ (i : Nat) v d, vs[i]? = some v → ds[i]? = some d → R K F v d) → R K F (.ref a) (.list ds)
  | tup {a : Addr} {vs : List V} {ds : List PyData} : F a = some (.tup vs) → vs.length = ds.length → (∀ (i : Nat) v d, vs[i]? = some v → ds[i]? = some d → R K F v d) → R K F (.ref a) (.tuple ds)
structure RA (K : PySem.W.Frag) (F : Hp) (vs : List V) (ds : List PyData) : Prop where
  len : vs.length = ds.length
  at_ : ∀ (i : Nat) v d, vs[i]? = some v → ds[i]? = some d → R K F v d
def Gr (F F' : Hp) : Prop := ∀ b o, F b = some o → F' b = some o
abbrev Own := List (Addr × HO)
def keys (O : Own) : List Addr := O.map (·.1)
section
variable {K : PySem.W.Frag} {F F' F1 F2 F3 H H' H1 H2 : Hp} {v : V} {d : PyData} {a p : Addr} {vs : List V} {ds : List PyData} {O O' O1 O2 : Own} {o o' : HO}
theorem Gr.refl : Gr F F := fun _ _ h => h
theorem Gr.trans (x : Gr F F1) (y : Gr F1 F2) : Gr F F2 := fun b o h => y b o (x b o h)
theorem Gr.sqT (g : Gr F F') (h : SqT K F a vs) : SqT K F' a vs := by
  rcases h with (h | ⟨o, h⟩) | h
  · exact .inl (.inl (g _ _ h))
  · exact .inl (.inr ⟨o, g _ _ h⟩)
  · exact .inr h
theorem Gr.sqL (g : Gr F F') (h : SqL K F a vs) : SqL K F' a vs := by
  rcases h with (h | ⟨o, h⟩) | h
  · exact .inl (.inl (g _ _ h))
  · exact .inl (.inr ⟨o, g _ _ h⟩)
  · exact .inr h
theorem R.mono (h : R K F v d) (g : Gr F F') : R K F' v d := by
  induction h with
  | non => exact .non
  | bl b => exact .bl b
  | int i => exact .int i
  | str x => exact .str x
  | lst h l _ ih => exact .lst (g _ _ h) l ih
  | tup h l _ ih => exact .tup (g _ _ h) l ih
theorem RA.mono (h : RA K F vs ds) (g : Gr F F') : RA K F' vs ds := ⟨h.len, fun i v d a b => (h.at_ i v d a b).mono g⟩
theorem RA.lst (h : RA K F vs ds) (e : F a = some (.lst vs)) : R K F (.ref a) (.list ds) := .lst e h.len h.at_
theorem RA.tup (h : RA K F vs ds) (e : F a = some (.tup vs)) : R K F (.ref a) (.tuple ds) := .tup e h.len h.at_
theorem R.lst_inv (h : R K F v (.list ds)) : ∃ a vs, v = .ref a ∧ F a = some (.lst vs) ∧ RA K F vs ds := by
  cases h with
  | lst e l x => exact ⟨_, _, rfl, e, l, x⟩
theorem R.tupH_inv (h : R K F v (.tuple ds)) : ∃ a vs, v = .ref a ∧ F a = some (.tup vs) ∧ RA K F vs ds := by
  cases h with
  | tup e l x => exact ⟨_, _, rfl, e, l, x⟩
theorem R.tup_inv (h : R K F v (.tuple ds)) : ∃ a vs, v = .ref a ∧ SqT K F a vs ∧ RA K F vs ds := by
  cases h with
  | tup e l x => exact ⟨_, _, rfl, .inl (.inl e), l, x⟩
theorem R.int_inv {i : Int} (h : R K F v (.int i)) : v = .int i := by cases h; rfl
theorem R.str_inv {i : Str} (h : R K F v (.str i)) : v = .str i := by cases h; rfl
theorem R.bl_inv {i : Bool} (h : R K F v (.bool i)) : v = .bl i := by cases h; rfl
theorem R.non_inv (h : R K F v .none) : v = .non := by cases h; rfl
theorem RA.nil : RA K F [] [] := ⟨rfl, fun i v d h => by simp at h⟩
theorem RA.cons (h : R K F v d) (t : RA K F vs ds) : RA K F (v :: vs) (d :: ds) := ⟨by simp [t.len], fun i w e a b => by
  cases i with
  | zero => simp at a b; subst a b; exact h
  | succ i => exact t.at_ i w e (by simpa using a) (by simpa using b)⟩
theorem RA.app {ws : List V} {es : List PyData} (h : RA K F vs ds) (t : RA K F ws es) : RA K F (vs ++ ws) (ds ++ es) := ⟨by simp [t.len, h.len], fun i w e a b => by
  by_cases hi : i < vs.length
  · rw [List.getElem?_append_left hi] at a
    rw [List.getElem?_append_left (by rw [← h.len]; exact hi)] at b
    exact h.at_ i w e a b
  · rw [List.getElem?_append_right (by omega)] at a
    rw [List.getElem?_append_right (by rw [← h.len]; omega)] at b
    rw [← h.len] at b
    exact t.at_ _ w e a b⟩
theorem RA.snoc (h : RA K F vs ds) (t : R K F v d) : RA K F (vs ++ [v]) (ds ++ [d]) := h.app (.cons t .nil)
theorem RA.get {i : Nat} (h : RA K F vs ds) (e : ds[i]? = some d) : ∃ v, vs[i]? = some v ∧ R K F v d := by
  obtain ⟨hi, _⟩ := List.getElem?_eq_some_iff.mp e
  have hv : i < vs.length := by rw [h.len]; exact hi
  exact ⟨vs[i], List.getElem?_eq_getElem hv, h.at_ i _ d (List.getElem?_eq_getElem hv) e⟩
theorem RA.get' {i : Nat} (h : RA K F vs ds) (e : vs[i]? = some v) : ∃ d, ds[i]? = some d ∧ R K F v d := by
  obtain ⟨hi, _⟩ := List.getElem?_eq_some_iff.mp e
  have hv : i < ds.length := by rw [← h.len]; exact hi
  exact ⟨ds[i], List.getElem?_eq_getElem hv, h.at_ i v _ e (List.getElem?_eq_getElem hv)⟩
theorem RA.cons_inv (h : RA K F vs (d :: ds)) : ∃ v ws, vs = v :: ws ∧ R K F v d ∧ RA K F ws ds := by
  cases vs with
  | nil => have := h.len; simp at this
  | cons v ws => exact ⟨v, ws, rfl, h.at_ 0 v d rfl rfl, by have := h.len; simpa using this, fun i w e a b => h.at_ (i + 1) w e (by simpa using a) (by simpa using b)⟩
theorem RA.nil_inv (h : RA K F vs []) : vs = [] := by
  have := h.len
  simpa using this
theorem RA.take {n : Nat} (h : RA K F vs ds) : RA K F (vs.take n) (ds.take n) := ⟨by simp [h.len], fun i w e a b => by
  rw [List.getElem?_take] at a b
  split at a
  · rename_i hi
    rw [if_pos hi] at b
    exact h.at_ i w e a b
  · cases a⟩
theorem RA.drop {n : Nat} (h : RA K F vs ds) : RA K F (vs.drop n) (ds.drop n) := ⟨by simp [h.len], fun i w e a b => by
  rw [List.getElem?_drop] at a b
  exact h.at_ _ w e a b⟩
theorem RA.rev (h : RA K F vs ds) : RA K F vs.reverse ds.reverse := ⟨by simp [h.len], fun i w e a b => by
  have hi : i < vs.reverse.length := (List.getElem?_eq_some_iff.mp a).1
  rw [List.length_reverse] at hi
  rw [List.getElem?_reverse hi] at a
  rw [List.getElem?_reverse (by rw [← h.len]; exact hi)] at b
  rw [← h.len] at b
  exact h.at_ _ w e a b⟩
theorem RA.set {n : Nat} (h : RA K F vs ds) (t : R K F v d) : RA K F (vs.set n v) (ds.set n d) := ⟨by simp [h.len], fun i w e a b => by
  rw [List.getElem?_set] at a b
  split at a
  · rename_i hi
    rw [if_pos hi, ← h.len] at b
    split at a
    · rename_i h2
      rw [if_pos h2] at b
      cases a; cases b; exact t
    · cases a
  · rename_i hi
    rw [if_neg hi] at b
    exact h.at_ i w e a b⟩
theorem RA.dropLast (h : RA K F vs ds) : RA K F vs.dropLast ds.dropLast := by
  rw [List.dropLast_eq_take, List.dropLast_eq_take, h.len]
  exact h.take
theorem RA.eraseIdx {n : Nat} (h : RA K F vs ds) : RA K F (vs.eraseIdx n) (ds.eraseIdx n) := by
  rw [List.eraseIdx_eq_take_drop_succ, List.eraseIdx_eq_take_drop_succ]
  exact h.take.app h.drop
theorem dpAll_of : ∀ {vs : List V} {ds : List PyData}, vs.length = ds.length → (∀ (i : Nat) v d, vs[i]? = some v → ds[i]? = some d → Dp K H v d) → DpAll K H vs ds
  | [], [], _, _ => .nil
  | v :: vs, d :: ds, l, h => .cons (h 0 v d rfl rfl) (dpAll_of (by simpa using l) fun i w e a b => h (i + 1) w e (by simpa using a) (by simpa using b))
theorem R.dp (h : R K F v d) (g : Gr F H) : Dp K H v d := by
  induction h with
  | non => exact .non
  | bl b => exact .bl b
  | int i => exact .int i
  | str x => exact .str x
  | lst h l _ ih => exact .lst (.inl (.inl (g _ _ h))) (dpAll_of l ih)
  | tup h l _ ih => exact .tup (.inl (.inl (g _ _ h))) (dpAll_of l ih)

/-! ### the heap: what stays (F), what is mine (O) -/
structure WOk (F : Hp) (O : Own) (H : Hp) : Prop where
  sub : Gr F H
  own : ∀ p ∈ O, H p.1 = some p.2 ∧ F p.1 = none
  nd : (keys O).Nodup
  sz : ∀ a xs, F a = some (.lst xs) → xs.length ≤ sizeLine
  szo : ∀ p ∈ O, ∀ xs, p.2 = .lst xs → xs.length ≤ sizeLine
structure Stp (F : Hp) (O : Own) (H F' : Hp) (O' : Own) (H' : Hp) : Prop where
  ok : WOk F' O' H'
  gr : Gr F F'
  keep : ∀ b o, H b = some o → b ∉ keys O → H' b = some o
  fr : ∀ b o, F' b = some o → F b = some o ∨ H b = none
  ky : ∀ b ∈ keys O', b ∈ keys O ∨ H b = none
  dom : ∀ b, H b ≠ none → H' b ≠ none
theorem Stp.refl (w : WOk F O H) : Stp F O H F O H := ⟨w, Gr.refl, fun _ _ h _ => h, fun _ _ h => .inl h, fun _ h => .inl h, fun _ h => h⟩
theorem Stp.trans (x : Stp F O H F1 O1 H1) (y : Stp F1 O1 H1 F2 O2 H2) : Stp F O H F2 O2 H2 where
  ok := y.ok
  gr := x.gr.trans y.gr
  keep := fun b o h n => y.keep b o (x.keep b o h n) fun hb => by
    rcases x.ky b hb with q | q
    · exact n q
    · rw [q] at h; cases h
  fr := fun b o h => by
    rcases y.fr b o h with q | q
    · exact x.fr b o q
    · refine .inr ?_
      cases e : H b with
      | none => rfl
      | some u => exact absurd q (x.dom b (by rw [e]; simp))
  ky := fun b hb => by
    rcases y.ky b hb with q | q
    · exact x.ky b q
    · refine .inr ?_
      cases e : H b with
      | none => rfl
      | some u => exact absurd q (x.dom b (by rw [e]; simp))
  dom := fun b h => y.dom b (x.dom b h)
theorem WOk.at_ (w : WOk F O H) {k : Nat} (h : O[k]? = some (a, o)) : H a = some o ∧ F a = none := w.own (a, o) (List.mem_of_getElem? h)
theorem WOk.key (w : WOk F O H) {k : Nat} (h : O[k]? = some (a, o)) : a ∈ keys O := List.mem_map.mpr ⟨(a, o), List.mem_of_getElem? h, rfl⟩
theorem WOk.new (w : WOk F O H) (h : H p = none) : F p = none := by
  cases e : F p with
  | none => rfl
  | some u => rw [w.sub p u e] at h; cases h
theorem WOk.newK (w : WOk F O H) (h : H p = none) : p ∉ keys O := fun hp => by
  obtain ⟨q, hq, rfl⟩ := List.mem_map.mp hp
  rw [(w.own q hq).1] at h; cases h
def szOk : HO → Prop
  | .lst xs => xs.length ≤ sizeLine
  | _ => True
theorem Stp.alloc (w : WOk F O H) (h : H p = none) (hs : szOk o) : Stp F O H F ((p, o) :: O) (upd H p o) where
  ok := {
    sub := fun b u e => by rw [upd_ne (ne_of_none (w.sub b u e) h)]; exact w.sub b u e
    own := fun q hq => by
      rcases List.mem_cons.mp hq with rfl | hq
      · exact ⟨upd_same, w.new h⟩
      · rw [upd_ne (ne_of_none (w.own q hq).1 h)]; exact w.own q hq
    nd := by
      show (p :: keys O).Nodup
      exact List.nodup_cons.mpr ⟨w.newK h, w.nd⟩
    sz := w.sz
    szo := fun q hq xs e => by
      rcases List.mem_cons.mp hq with rfl | hq
      · have e : o = .lst xs := e
        subst e; exact hs
      · exact w.szo q hq xs e }
  gr := Gr.refl
  keep := fun b u e _ => by rw [upd_ne (ne_of_none e h)]; exact e
  fr := fun _ _ e => .inl e
  ky := fun b hb => by
    rcases List.mem_cons.mp hb with rfl | hb
    · exact .inr h
    · exact .inl hb
  dom := fun b e => by
    by_cases hb : b = p
    · rw [hb] at e; exact absurd h e
    · rw [upd_ne hb]; exact e
/-- what is mine and new becomes what stays -/
theorem Stp.freeze (x : Stp F O H F' ((p, o) :: O') H') (h : H p = none) : Stp F O H (upd F' p o) O' H' where
  ok := {
    sub := fun b u e => by
      by_cases hb : b = p
      · subst hb
        rw [upd_same] at e; cases e
        exact (x.ok.own (b, o) List.mem_cons_self).1
      · rw [upd_ne hb] at e; exact x.ok.sub b u e
    own := fun q hq => by
      have nd := x.ok.nd
      have hq' := x.ok.own q (List.mem_cons_of_mem _ hq)
      refine ⟨hq'.1, ?_⟩
      have : q.1 ≠ p := fun e => by
        have nd : (p :: keys O').Nodup := nd
        exact (List.nodup_cons.mp nd).1 (List.mem_map.mpr ⟨q, hq, e⟩)
      rw [upd_ne this]; exact hq'.2
    nd := by
      have nd : (p :: keys O').Nodup := x.ok.nd
      exact (List.nodup_cons.mp nd).2
    sz := fun b xs e => by
      by_cases hb : b = p
      · subst hb
        rw [upd_same] at e; cases e
        exact x.ok.szo (b, .lst xs) List.mem_cons_self xs rfl
      · rw [upd_ne hb] at e; exact x.ok.sz b xs e
    szo := fun q hq => x.ok.szo q (List.mem_cons_of_mem _ hq) }
  gr := fun b u e => by
    have hb : b ≠ p := fun z => by
      subst z
      rw [(x.ok.own (b, o) List.mem_cons_self).2.symm] at *
      have := x.gr b u e
      rw [(x.ok.own (b, o) List.mem_cons_self).2] at this; cases this
    rw [upd_ne hb]; exact x.gr b u e
  keep := x.keep
  fr := fun b u e => by
    by_cases hb : b = p
    · subst hb; exact .inr h
    · rw [upd_ne hb] at e; exact x.fr b u e
  ky := fun b hb => x.ky b (List.mem_cons_of_mem _ hb)
  dom := x.dom
/-- what is mine is let go -/
theorem Stp.drop (x : Stp F O H F' ((p, o) :: O') H') : Stp F O H F' O' H' where
  ok := ⟨x.ok.sub, fun q hq => x.ok.own q (List.mem_cons_of_mem _ hq), by
    have nd : (p :: keys O').Nodup := x.ok.nd
    exact (List.nodup_cons.mp nd).2, x.ok.sz, fun q hq => x.ok.szo q (List.mem_cons_of_mem _ hq)⟩
  gr := x.gr
  keep := x.keep
  fr := x.fr
  ky := fun b hb => x.ky b (List.mem_cons_of_mem _ hb)
  dom := x.dom
theorem keys_set {O : Own} {k : Nat} (h : O[k]? = some (a, o)) : keys (O.set k (a, o')) = keys O := by
  unfold keys
  rw [List.map_set]
  apply List.ext_getElem?
  intro i
  rw [List.getElem?_set]
  split
  · rename_i e
    subst e
    obtain ⟨hi, e2⟩ := List.getElem?_eq_some_iff.mp h
    rw [if_pos (by simpa using hi), List.getElem?_map, h]; rfl
  · rfl
theorem Stp.write (w : WOk F O H) {k : Nat} (h : O[k]? = some (a, o)) (hs : szOk o') : Stp F O H F (O.set k (a, o')) (upd H a o') where
  ok := {
    sub := fun b u e => by
      have hb : b ≠ a := fun z => by subst z; rw [(w.at_ h).2] at e; cases e
      rw [upd_ne hb]; exact w.sub b u e
    own := fun q hq => by
      obtain ⟨i, hi⟩ := List.mem_iff_getElem?.mp hq
      rw [List.getElem?_set] at hi
      split at hi
      · rename_i e
        split at hi
        · cases hi
          exact ⟨upd_same, (w.at_ h).2⟩
        · cases hi
      · rename_i e
        have hne : q.1 ≠ a := fun z => by
          have nd := w.nd
          have h1 : (keys O)[k]? = some a := by unfold keys; rw [List.getElem?_map, h]; rfl
          have h2 : (keys O)[i]? = some a := by unfold keys; rw [List.getElem?_map, hi]; simp [z]
          obtain ⟨l1, g1⟩ := List.getElem?_eq_some_iff.mp h1
          obtain ⟨l2, g2⟩ := List.getElem?_eq_some_iff.mp h2
          exact e ((List.getElem_inj nd).mp (g1.trans g2.symm))
        have hq' := w.own q (List.mem_of_getElem? hi)
        rw [upd_ne hne]; exact hq'
    nd := by rw [keys_set h]; exact w.nd
    sz := w.sz
    szo := fun q hq xs e => by
      obtain ⟨i, hi⟩ := List.mem_iff_getElem?.mp hq
      rw [List.getElem?_set] at hi
      split at hi
      · split at hi
        · cases hi
          have e : o' = .lst xs := e
          subst e; exact hs
        · cases hi
      · exact w.szo q (List.mem_of_getElem? hi) xs e }
  gr := Gr.refl
  keep := fun b u e n => by
    have hb : b ≠ a := fun z => by subst z; exact n (w.key h)
    rw [upd_ne hb]; exact e
  fr := fun _ _ e => .inl e
  ky := fun b hb => by rw [keys_set h] at hb; exact .inl hb
  dom := fun b e => by
    by_cases hb : b = a
    · subst hb; rw [upd_same]; simp
    · rw [upd_ne hb]; exact e
/-- a callee that sees less of what is mine -/
theorem WOk.less (w : WOk F O H) : WOk F [] H := ⟨w.sub, (fun _ h => nomatch h), List.nodup_nil, w.sz, (fun _ h => nomatch h)⟩
theorem Stp.more (w : WOk F O H) (x : Stp F [] H F' O' H') : Stp F O H F' (O' ++ O) H' where
  ok := {
    sub := x.ok.sub
    own := fun q hq => by
      rcases List.mem_append.mp hq with hq | hq
      · exact x.ok.own q hq
      · obtain ⟨e, n⟩ := w.own q hq
        refine ⟨x.keep _ _ e (by intro z; cases z), ?_⟩
        cases r : F' q.1 with
        | none => rfl
        | some u =>
          rcases x.fr _ _ r with z | z
          · rw [n] at z; cases z
          · rw [e] at z; cases z
    nd := by
      unfold keys
      rw [List.map_append]
      refine List.nodup_append.mpr ⟨x.ok.nd, w.nd, fun b hb c hc e => ?_⟩
      subst e
      rcases x.ky b hb with z | z
      · cases z
      · obtain ⟨q, hq, rfl⟩ := List.mem_map.mp hc
        rw [(w.own q hq).1] at z; cases z
    sz := x.ok.sz
    szo := fun q hq => by
      rcases List.mem_append.mp hq with hq | hq
      · exact x.ok.szo q hq
      · exact w.szo q hq }
  gr := x.gr
  keep := fun b o e _ => x.keep b o e (by intro z; cases z)
  fr := x.fr
  ky := fun b hb => by
    unfold keys at hb
    rw [List.map_append] at hb
    rcases List.mem_append.mp hb with hb | hb
    · rcases x.ky b hb with z | z
      · cases z
      · exact .inr z
    · exact .inl hb
  dom := x.dom
/-- a callee that sees one of what is mine -/
theorem WOk.one (w : WOk F O H) {k : Nat} (h : O[k]? = some (a, o)) : WOk F [(a, o)] H := ⟨w.sub, fun q hq => by
  have e : q = (a, o) := by simpa using hq
  subst e
  exact w.at_ h, by unfold keys; simp, w.sz, fun q hq xs e => by
  have e' : q = (a, o) := by simpa using hq
  subst e'
  exact w.szo (a, o) (List.mem_of_getElem? h) xs e⟩
theorem Stp.moreAt (w : WOk F O H) {k : Nat} (h : O[k]? = some (a, o)) (x : Stp F [(a, o)] H F' [(a, o')] H') : Stp F O H F' (O.set k (a, o')) H' where
  ok := {
    sub := x.ok.sub
    own := fun q hq => by
      obtain ⟨i, hi⟩ := List.mem_iff_getElem?.mp hq
      rw [List.getElem?_set] at hi
      split at hi
      · split at hi
        · cases hi
          exact x.ok.own (a, o') (by simp)
        · cases hi
      · rename_i ei
        have hne : q.1 ≠ a := fun z => by
          have nd := w.nd
          have h1 : (keys O)[k]? = some a := by unfold keys; rw [List.getElem?_map, h]; rfl
          have h2 : (keys O)[i]? = some a := by unfold keys; rw [List.getElem?_map, hi]; simp [z]
          obtain ⟨l1, g1⟩ := List.getElem?_eq_some_iff.mp h1
          obtain ⟨l2, g2⟩ := List.getElem?_eq_some_iff.mp h2
          exact ei ((List.getElem_inj nd).mp (g1.trans g2.symm))
        obtain ⟨e, n⟩ := w.own q (List.mem_of_getElem? hi)
        refine ⟨x.keep _ _ e (by unfold keys; simpa using hne), ?_⟩
        cases r : F' q.1 with
        | none => rfl
        | some u =>
          rcases x.fr _ _ r with z | z
          · rw [n] at z; cases z
          · rw [e] at z; cases z
    nd := by rw [keys_set h]; exact w.nd
    sz := x.ok.sz
    szo := fun q hq xs e => by
      obtain ⟨i, hi⟩ := List.mem_iff_getElem?.mp hq
      rw [List.getElem?_set] at hi
      split at hi
      · split at hi
        · cases hi
          exact x.ok.szo (a, o') (by simp) xs e
        · cases hi
      · exact w.szo q (List.mem_of_getElem? hi) xs e }
  gr := x.gr
  keep := fun b u e n => x.keep b u e (by
    unfold keys
    intro z
    have z : b = a := by simpa using z
    subst z
    exact n (w.key h))
  fr := x.fr
  ky := fun b hb => by rw [keys_set h] at hb; exact .inl hb
  dom := x.dom
theorem R.size (w : WOk F O H) (h : R K F v (.list ds)) : ds.length ≤ sizeLine := by
  obtain ⟨a, vs, _, e, r⟩ := h.lst_inv
  rw [← r.len]; exact w.sz a vs e
end
end Z

end
section
namespace Z
open PySem PySem.Spec PyProof.Rows L2

section
variable {K : PySem.W.Frag} {F F' F1 F2 F3 H H' H1 H2 : Hp} {v : V} {d : PyData} {a p : Addr} {vs : List V} {ds : List PyData} {O O' O1 O2 : Own} {o o' : HO}
theorem WOk.tail {q : Addr × HO} (w : WOk F (q :: O) H) : WOk F O H :=
  ⟨w.sub, fun p hp => w.own p (List.mem_cons_of_mem _ hp), (List.nodup_cons.mp (show (q.1 :: keys O).Nodup from w.nd)).2, w.sz, fun p hp => w.szo p (List.mem_cons_of_mem _ hp)⟩
/-- one thing more that is mine, untouched -/
theorem Stp.cons {q : Addr × HO} (w : WOk F (q :: O) H) (x : Stp F O H F' O' H') : Stp F (q :: O) H F' (q :: O') H' := by
  have hq := w.own q List.mem_cons_self
  have nk : q.1 ∉ keys O := (List.nodup_cons.mp (show (q.1 :: keys O).Nodup from w.nd)).1
  have hF' : F' q.1 = none := by
    cases r : F' q.1 with
    | none => rfl
    | some u =>
      rcases x.fr _ _ r with z | z
      · rw [hq.2] at z; cases z
      · rw [hq.1] at z; cases z
  refine ⟨⟨x.ok.sub, fun p hp => ?_, ?_, x.ok.sz, fun p hp => ?_⟩, x.gr, fun b u e n => ?_, x.fr, fun b hb => ?_, x.dom⟩
  · rcases List.mem_cons.mp hp with rfl | hp
    · exact ⟨x.keep _ _ hq.1 nk, hF'⟩
    · exact x.ok.own p hp
  · show (q.1 :: keys O').Nodup
    refine List.nodup_cons.mpr ⟨fun hb => ?_, x.ok.nd⟩
    rcases x.ky _ hb with z | z
    · exact nk z
    · rw [hq.1] at z; cases z
  · rcases List.mem_cons.mp hp with rfl | hp
    · exact w.szo _ List.mem_cons_self
    · exact x.ok.szo p hp
  · refine x.keep b u e fun hb => n ?_
    exact List.mem_cons_of_mem _ hb
  · rcases List.mem_cons.mp hb with rfl | hb
    · exact .inl List.mem_cons_self
    · rcases x.ky b hb with z | z
      · exact .inl (List.mem_cons_of_mem _ z)
      · exact .inr z
theorem Gr.upd (h : F p = none) : Gr F (L2.upd F p o) := fun b u e => by rw [upd_ne (ne_of_none e h)]; exact e
/-- a new tuple that stays -/
theorem Stp.tupF (w : WOk F O H) (h : H p = none) : Stp F O H (upd F p (.tup vs)) O (upd H p (.tup vs)) := (Stp.alloc w h (show szOk (.tup vs) from trivial)).freeze h
end

/-! ### readings as the thing itself -/
def wE (X : Cx) (e : Expr) : TE := fun σ H Q => ∀ (pins : List (Addr × Obj)) (s : Shared), Inv X pins σ H s → wpAny (model X.prog X.w) X.A (eval e X.env) (EP X pins σ Q) X.xe s
def wT (X : Cx) (e : Expr) : TT := fun σ H Q => ∀ (pins : List (Addr × Obj)) (s : Shared), Inv X pins σ H s → wpAny (model X.prog X.w) X.A (isTrue e X.env (eval e X.env)) (TP X pins σ Q) X.xe s
def wW (X : Cx) (e : Expr) : TT := fun σ H Q => ∀ (whole : Sem Value) (pins : List (Addr × Obj)) (s : Shared), Inv X pins σ H s → wpAny (model X.prog X.w) X.A (isTrue e X.env whole) (TP X pins σ Q) X.xe s
def wA (X : Cx) (es : List Expr) : TA := fun σ H Q => ∀ (pos : Pos) (pins : List (Addr × Obj)) (s : Shared), Inv X pins σ H s → wpAny (model X.prog X.w) X.A (spliced (backTo pos (starEach es X.env))) (AP X pins σ Q) X.xe s
def wSs (X : Cx) (st : List Stmt) : TS := fun D σ H => ∀ (pins : List (Addr × Obj)) (s : Shared), Inv X pins σ H s → wpAny (model X.prog X.w) X.A (execs st X.env) (SP X pins D) X.xe s
def wS (X : Cx) (st : Stmt) : TS := fun D σ H => ∀ (pins : List (Addr × Obj)) (s : Shared), Inv X pins σ H s → wpAny (model X.prog X.w) X.A (exec st X.env) (SP X pins D) X.xe s
def wG (X : Cx) (tg : Expr) : TG := fun v σ H Q => ∀ (pins : List (Addr × Obj)) (s : Shared) (u : Value), Inv X pins σ H s → RelV v u → wpAny (model X.prog X.w) X.A (assign tg X.env u) (fun _ s' => ∃ σ' H', Inv X pins σ' H' s' ∧ Q σ' H') X.xe s
def wI (X : Cx) (tg iter : Expr) : TI := fun σ H Rr => ∀ (pins : List (Addr × Obj)) (s : Shared), Inv X pins σ H s →
  wpAny (model X.prog X.w) X.A (eval iter X.env) (fun v s1 => wpAny (model X.prog X.w) X.A (pyIter v) (PIE X pins σ tg Rr) X.xe s1) X.xe s
def wO (X : Cx) (e : Option Expr) : TO := fun σ H Q => ∀ (pins : List (Addr × Obj)) (s : Shared), Inv X pins σ H s →
  wpAny (model X.prog X.w) X.A (evalPart e X.env) (fun u s' => ∃ o H', Inv X pins σ H' s' ∧ IsPart u o ∧ Q o H') X.xe s
section
variable {X : Cx} {e : Expr} {es : List Expr} {σ : L2.St} {H : Hp}
theorem pe_w : PE X e (wE X e) := ⟨fun pins s _ _ _ I h => h pins s I⟩
theorem pt_w : PT X e (wT X e) := ⟨fun pins s _ _ _ I h => h pins s I⟩
theorem pw_w : PW X e (wW X e) := ⟨fun wh pins s _ _ _ I h => h wh pins s I⟩
theorem pa_w : PA X es (wA X es) := ⟨fun pos pins s _ _ _ I h => h pos pins s I⟩
theorem pss_w {st : List Stmt} : PSs X st (wSs X st) := ⟨fun pins s _ _ _ I h => h pins s I⟩
theorem ps_w {st : Stmt} : PS X st (wS X st) := ⟨fun pins s _ _ _ I h => h pins s I⟩
theorem pg_w {tg : Expr} : PG X tg (wG X tg) := ⟨fun pins s _ _ _ u _ I r h => h pins s u I r⟩
theorem pi_w {tg iter : Expr} : PI X tg iter (wI X tg iter) := ⟨fun pins s _ _ _ I h => h pins s I⟩
theorem po_w {e : Option Expr} : PO X e (wO X e) := ⟨fun pins s _ _ _ I h => h pins s I⟩
theorem wE_of {t : TE} {Q : VK} (h : PE X e t) (q : t σ H Q) : wE X e σ H Q := fun pins s I => h.run pins s σ H Q I q
theorem wT_of {t : TT} {Q : Bool → Hp → Prop} (h : PT X e t) (q : t σ H Q) : wT X e σ H Q := fun pins s I => h.run pins s σ H Q I q
theorem wW_of {t : TT} {Q : Bool → Hp → Prop} (h : PW X e t) (q : t σ H Q) : wW X e σ H Q := fun wh pins s I => h.run wh pins s σ H Q I q
theorem wA_of {t : TA} {Q : List V → Hp → Prop} (h : PA X es t) (q : t σ H Q) : wA X es σ H Q := fun pos pins s I => h.run pos pins s σ H Q I q
theorem wSs_of {st : List Stmt} {t : TS} {D : Ends} (h : PSs X st t) (q : t D σ H) : wSs X st D σ H := fun pins s I => h.run pins s σ H D I q
theorem wG_of {tg : Expr} {t : TG} {v : V} {Q : L2.St → Hp → Prop} (h : PG X tg t) (q : t v σ H Q) : wG X tg v σ H Q := fun pins s u I r => h.run pins s σ H v u Q I r q
theorem wI_of {tg iter : Expr} {t : TI} {Q : It → Hp → Prop} (h : PI X tg iter t) (q : t σ H Q) : wI X tg iter σ H Q := fun pins s I => h.run pins s σ H Q I q
theorem wO_of {e : Option Expr} {t : TO} {Q : Option Int → Hp → Prop} (h : PO X e t) (q : t σ H Q) : wO X e σ H Q := fun pins s I => h.run pins s σ H Q I q
end

/-! ### the judgements -/
def ZE (X : Cx) (e : Expr) (σ : L2.St) (F : Hp) (O : Own) (d : PyData) (O' : Own) : Prop :=
  ∀ F1 H, Gr F F1 → WOk F1 O H → ∀ Q : VK, (∀ v F2 H2, Stp F1 O H F2 O' H2 → R X.K F2 v d → Q v H2) → wE X e σ H Q
/-- .. a new list, mine -/
def ZN (X : Cx) (e : Expr) (σ : L2.St) (F : Hp) (O : Own) (ds : List PyData) (O' : Own) : Prop :=
  ∀ F1 H, Gr F F1 → WOk F1 O H → ∀ Q : VK, (∀ p vs F2 H2, H p = none → Stp F1 O H F2 ((p, .lst vs) :: O') H2 → RA X.K F2 vs ds → Q (.ref p) H2) → wE X e σ H Q
def ZT (X : Cx) (e : Expr) (σ : L2.St) (F : Hp) (O : Own) (b : Bool) (O' : Own) : Prop :=
  ∀ F1 H, Gr F F1 → WOk F1 O H → ∀ Q : Bool → Hp → Prop, (∀ F2 H2, Stp F1 O H F2 O' H2 → Q b H2) → wT X e σ H Q
def ZW (X : Cx) (e : Expr) (σ : L2.St) (F : Hp) (O : Own) (b : Bool) (O' : Own) : Prop :=
  ∀ F1 H, Gr F F1 → WOk F1 O H → ∀ Q : Bool → Hp → Prop, (∀ F2 H2, Stp F1 O H F2 O' H2 → Q b H2) → wW X e σ H Q
def ZA (X : Cx) (es : List Expr) (σ : L2.St) (F : Hp) (O : Own) (ds : List PyData) (O' : Own) : Prop :=
  ∀ F1 H, Gr F F1 → WOk F1 O H → ∀ Q : List V → Hp → Prop, (∀ vs F2 H2, Stp F1 O H F2 O' H2 → RA X.K F2 vs ds → Q vs H2) → wA X es σ H Q
def ZO (X : Cx) (e : Option Expr) (σ : L2.St) (F : Hp) (O : Own) (o : Option Int) (O' : Own) : Prop :=
  ∀ F1 H, Gr F F1 → WOk F1 O H → ∀ Q : Option Int → Hp → Prop, (∀ F2 H2, Stp F1 O H F2 O' H2 → Q o H2) → wO X e σ H Q
def ZS (X : Cx) (st : List Stmt) (σ : L2.St) (H : Hp) (D : Ends) : Prop := wSs X st D σ H

section
variable {X : Cx} {e a b c : Expr} {es : List Expr} {σ : L2.St} {F H : Hp} {O O1 O2 O3 : Own} {d da db : PyData} {ds : List PyData} {pos : Pos} {i j : Int} {k : Bool}
theorem ZE.at_ (h : ZE X e σ F O d O1) {F1 : Hp} (g : Gr F F1) : ZE X e σ F1 O d O1 := fun F2 H g2 => h F2 H (g.trans g2)
theorem ZN.ze (h : ZN X e σ F O ds O1) : ZE X e σ F O (.list ds) O1 := fun F1 H g w Q q => h F1 H g w Q fun p vs F2 H2 hp st r =>
  q _ _ _ (st.freeze hp) ((r.mono (Gr.upd (st.ok.own (p, .lst vs) List.mem_cons_self).2)).lst upd_same)
theorem ze_eq {d' : PyData} (h : ZE X e σ F O d O1) (e' : d = d') : ZE X e σ F O d' O1 := e' ▸ h
theorem zt_eq {k' : Bool} (h : ZT X e σ F O k O1) (e' : k = k') : ZT X e σ F O k' O1 := e' ▸ h

/-! ### names and constants -/
theorem ze_var (n : Nat) {x : Str} {v : V} (hσ : σ[n]? = some (some v)) (hr : R X.K F v d) (hN : X.N[n]? = some x := by rfl) (hv : Vis X.env.scope x := by first | exact Or.inl rfl | exact Or.inr (Or.inl rfl) | exact Or.inr (Or.inr rfl)) (hd : (x == ("__debug__" : Str)) = false := by decide)
    (hcd : (x == ("__classdict__" : Str)) = false := by decide) : ZE X (.Name x pos) σ F O d O := fun F1 H g w Q q =>
  wE_of (pe_var hN hv hd hcd) ⟨v, hσ, q _ _ _ (Stp.refl w) (hr.mono g)⟩
theorem ze_int {n : Int} {kk} : ZE X (.Constant (.int n) kk pos) σ F O (.int n) O := fun F1 H g w Q q => wE_of pe_int (q _ _ _ (Stp.refl w) (.int n))
theorem ze_str {n : Str} {kk} : ZE X (.Constant (.str n) kk pos) σ F O (.str n) O := fun F1 H g w Q q => wE_of pe_str (q _ _ _ (Stp.refl w) (.str n))
theorem ze_bl {n : Bool} {kk} : ZE X (.Constant (.bool n) kk pos) σ F O (.bool n) O := fun F1 H g w Q q => wE_of pe_bl (q _ _ _ (Stp.refl w) (.bl n))
theorem ze_non {kk} : ZE X (.Constant .none kk pos) σ F O .none O := fun F1 H g w Q q => wE_of pe_non (q _ _ _ (Stp.refl w) .non)
/-- a constant of the module -/
theorem ze_glob {x : Str} {v : V} {u : Value} (hm : X.mg x = some u) (r : RelV v u) (hr : R X.K F v d) (hg : Gl X x := by rfl) (hd : (x == ("__debug__" : Str)) = false := by decide) : ZE X (.Name x pos) σ F O d O := fun F1 H g w Q q =>
  wE_of (pe_glob hg hm r hd) (q _ _ _ (Stp.refl w) (hr.mono g))

/-! ### operators -/
theorem ze_op {op : Operator} {r : R2} (ho : OpR X (binaryOp op) r) (ha : ZE X a σ F O da O1) (hb : ZE X b σ F O1 db O2)
    (hr : ∀ F2 H2 x y, Gr F F2 → WOk F2 O2 H2 → R X.K F2 x da → R X.K F2 y db → ∀ Q : VK, (∀ v F3 H3, Stp F2 O2 H2 F3 O3 H3 → R X.K F3 v d → Q v H3) → r x y H2 Q) : ZE X (.BinOp a op b pos) σ F O d O3 := fun F1 H g w Q q =>
  wE_of (pe_op ho pe_w pe_w) (ha F1 H g w _ fun x F2 H2 s1 r1 => hb F2 H2 (g.trans s1.gr) s1.ok _ fun y F3 H3 s2 r2 =>
    hr F3 H3 x y (g.trans (s1.gr.trans s2.gr)) s2.ok (r1.mono s2.gr) r2 Q fun v F4 H4 s3 r3 => q _ _ _ (s1.trans (s2.trans s3)) r3)
theorem zn_op {op : Operator} {r : R2} (ho : OpR X (binaryOp op) r) (ha : ZE X a σ F O da O1) (hb : ZE X b σ F O1 db O2)
    (hr : ∀ F2 H2 x y, Gr F F2 → WOk F2 O2 H2 → R X.K F2 x da → R X.K F2 y db → ∀ Q : VK, (∀ p vs F3 H3, H2 p = none → Stp F2 O2 H2 F3 ((p, .lst vs) :: O3) H3 → RA X.K F3 vs ds → Q (.ref p) H3) → r x y H2 Q) : ZN X (.BinOp a op b pos) σ F O ds O3 := fun F1 H g w Q q =>
  wE_of (pe_op ho pe_w pe_w) (ha F1 H g w _ fun x F2 H2 s1 r1 => hb F2 H2 (g.trans s1.gr) s1.ok _ fun y F3 H3 s2 r2 =>
    hr F3 H3 x y (g.trans (s1.gr.trans s2.gr)) s2.ok (r1.mono s2.gr) r2 Q fun p vs F4 H4 hp s3 r3 => q p vs _ _ (by
      cases z : H p with
      | none => rfl
      | some u => exact absurd hp ((s1.trans s2).dom p (by rw [z]; simp))) (s1.trans (s2.trans s3)) r3)
theorem ze_opI {op : Operator} {g : Int → Int → Int} (ho : OpR X (binaryOp op) (rI0 fun i j => .int (g i j))) (ha : ZE X a σ F O (.int i) O1) (hb : ZE X b σ F O1 (.int j) O2) : ZE X (.BinOp a op b pos) σ F O (.int (g i j)) O2 :=
  ze_op ho ha hb fun F2 H2 x y _ w r1 r2 Q q => ⟨i, j, r1.int_inv, r2.int_inv, q _ _ _ (Stp.refl w) (.int _)⟩
theorem ze_opC {op : Operator} {C : Int → Int → Prop} {g : Int → Int → Int} (ho : OpR X (binaryOp op) (rI C fun i j => .int (g i j))) (hC : C i j) (ha : ZE X a σ F O (.int i) O1) (hb : ZE X b σ F O1 (.int j) O2) : ZE X (.BinOp a op b pos) σ F O (.int (g i j)) O2 :=
  ze_op ho ha hb fun F2 H2 x y _ w r1 r2 Q q => ⟨i, j, r1.int_inv, r2.int_inv, hC, q _ _ _ (Stp.refl w) (.int _)⟩
theorem ze_add (ha : ZE X a σ F O (.int i) O1) (hb : ZE X b σ F O1 (.int j) O2) : ZE X (.BinOp a .Add b pos) σ F O (.int (i + j)) O2 := ze_opI op_add ha hb
theorem ze_sub (ha : ZE X a σ F O (.int i) O1) (hb : ZE X b σ F O1 (.int j) O2) : ZE X (.BinOp a .Sub b pos) σ F O (.int (i - j)) O2 := ze_opI op_sub ha hb
theorem ze_mul (ha : ZE X a σ F O (.int i) O1) (hb : ZE X b σ F O1 (.int j) O2) (h : CMul i j) : ZE X (.BinOp a .Mult b pos) σ F O (.int (i * j)) O2 := ze_opC op_mul h ha hb
theorem ze_mod (ha : ZE X a σ F O (.int i) O1) (hb : ZE X b σ F O1 (.int j) O2) (h : 0 < j) : ZE X (.BinOp a .Mod b pos) σ F O (.int (i % j)) O2 := ze_opC op_mod h ha hb
theorem ze_fdiv (ha : ZE X a σ F O (.int i) O1) (hb : ZE X b σ F O1 (.int j) O2) (h : CDiv i j) : ZE X (.BinOp a .FloorDiv b pos) σ F O (.int (i / j)) O2 := ze_opC op_fdiv h ha hb
theorem ze_pow (ha : ZE X a σ F O (.int i) O1) (hb : ZE X b σ F O1 (.int j) O2) (h : CPow i j) : ZE X (.BinOp a .Pow b pos) σ F O (.int (i ^ j.toNat)) O2 := ze_opC op_pow h ha hb
theorem ze_neg (ha : ZE X a σ F O (.int i) O1) : ZE X (.UnaryOp .USub a pos) σ F O (.int (-i)) O1 := fun F1 H g w Q q =>
  wE_of (pe_un un_neg pe_w) (ha F1 H g w _ fun x F2 H2 s1 r1 => ⟨i, r1.int_inv, q _ _ _ s1 (.int _)⟩)
theorem ze_addS {x y : Str} (ha : ZE X a σ F O (.str x) O1) (hb : ZE X b σ F O1 (.str y) O2) (h : x.length + y.length ≤ sizeLine) : ZE X (.BinOp a .Add b pos) σ F O (.str (x ++ y)) O2 :=
  ze_op op_add_str ha hb fun F2 H2 _ _ _ w r1 r2 Q q => ⟨x, y, r1.str_inv, r2.str_inv, h, q _ _ _ (Stp.refl w) (.str _)⟩
/-- xs + ys -/
theorem zn_cat {es : List PyData} (ha : ZE X a σ F O (.list ds) O1) (hb : ZE X b σ F O1 (.list es) O2) (h : ds.length + es.length ≤ sizeLine) : ZN X (.BinOp a .Add b pos) σ F O (ds ++ es) O2 :=
  zn_op op_cat ha hb fun F2 H2 x y _ w r1 r2 Q q => by
    obtain ⟨l, xs, rfl, e1, a1⟩ := r1.lst_inv
    obtain ⟨m, ys, rfl, e2, a2⟩ := r2.lst_inv
    have hz : xs.length + ys.length ≤ sizeLine := by rw [a1.len, a2.len]; exact h
    exact ⟨l, m, xs, ys, rfl, rfl, w.sub _ _ e1, w.sub _ _ e2, hz, fun p hp => q p _ _ _ hp (Stp.alloc w hp (by show (xs ++ ys).length ≤ _; rw [List.length_append]; exact hz)) (a1.app a2)⟩
theorem zn_rep (ha : ZE X a σ F O (.list ds) O1) (hb : ZE X b σ F O1 (.int i) O2) (h0 : 0 ≤ i) (h1 : i < 2 ^ 62) (h : ds.length * i.toNat ≤ sizeLine) : ZN X (.BinOp a .Mult b pos) σ F O (List.replicate i.toNat ds).flatten O2 :=
  zn_op op_rep ha hb fun F2 H2 x y _ w r1 r2 Q q => by
    obtain ⟨l, xs, rfl, e1, a1⟩ := r1.lst_inv
    have hz : xs.length * i.toNat ≤ sizeLine := by rw [a1.len]; exact h
    refine ⟨l, i, xs, rfl, r2.int_inv, w.sub _ _ e1, by omega, by omega, hz, fun p hp => q p _ _ _ hp (Stp.alloc w hp ?_) ?_⟩
    · show (List.replicate i.toNat xs).flatten.length ≤ _
      rw [List.length_flatten, List.map_replicate, List.sum_replicate_nat, Nat.mul_comm]; exact hz
    · generalize i.toNat = n
      induction n with
      | zero => exact .nil
      | succ n ih => rw [List.replicate_succ, List.replicate_succ, List.flatten_cons, List.flatten_cons]; exact a1.app ih
theorem ze_catT {es : List PyData} (ha : ZE X a σ F O (.tuple ds) O1) (hb : ZE X b σ F O1 (.tuple es) O2) (hne : ds ≠ []) (h : ds.length + es.length ≤ sizeLine) : ZE X (.BinOp a .Add b pos) σ F O (.tuple (ds ++ es)) O2 :=
  ze_op op_catT ha hb fun F2 H2 x y _ w r1 r2 Q q => by
    obtain ⟨l, xs, rfl, e0, a1⟩ := r1.tupH_inv
    have e1 : SqT X.K _ l xs := .inl (.inl e0)
    obtain ⟨m, ys, rfl, e2, a2⟩ := r2.tup_inv
    refine ⟨l, m, xs, ys, rfl, rfl, w.sub.sqT e1, w.sub.sqT e2, ?_, by rw [a1.len, a2.len]; exact h, fun hy => ?_, fun _ p hp => ?_⟩
    · intro z; subst z
      exact hne (List.length_eq_zero_iff.mp a1.len.symm)
    · subst hy
      have hes : es = [] := List.length_eq_zero_iff.mp a2.len.symm
      rw [hes, List.append_nil] at q
      exact q _ _ _ (Stp.refl w) (a1.tup e0)
    · exact q _ _ _ (Stp.tupF w hp) (((a1.app a2).mono (Stp.tupF w hp).gr).tup upd_same)

/-! ### comparisons -/
theorem ze_cmp {op : CmpOp} {r : R2} (ho : OpR X (compareOp op) r) (ha : ZE X a σ F O da O1) (hb : ZE X b σ F O1 db O2) (hm : behindInMarks op b = false)
    (hr : ∀ F2 H2 x y, Gr F F2 → WOk F2 O2 H2 → R X.K F2 x da → R X.K F2 y db → ∀ Q : VK, Q (.bl k) H2 → r x y H2 Q) : ZE X (.Compare a [op] [b] pos) σ F O (.bool k) O2 := fun F1 H g w Q q =>
  wE_of (pe_cmpR ho pe_w pe_w hm) (ha F1 H g w _ fun x F2 H2 s1 r1 => hb F2 H2 (g.trans s1.gr) s1.ok _ fun y F3 H3 s2 r2 =>
    hr F3 H3 x y (g.trans (s1.gr.trans s2.gr)) s2.ok (r1.mono s2.gr) r2 Q (q _ _ _ (s1.trans s2) (.bl k)))
theorem zt_cmp {op : CmpOp} {r : R2} (ho : OpR X (compareOp op) r) (ha : ZE X a σ F O da O1) (hb : ZE X b σ F O1 db O2) (hm : behindInMarks op b = false)
    (hr : ∀ F2 H2 x y, Gr F F2 → WOk F2 O2 H2 → R X.K F2 x da → R X.K F2 y db → ∀ Q : VK, Q (.bl k) H2 → r x y H2 Q) : ZT X (.Compare a [op] [b] pos) σ F O k O2 := fun F1 H g w Q q =>
  wT_of (pt_cmpR ho pe_w pe_w hm) (ha F1 H g w _ fun x F2 H2 s1 r1 => hb F2 H2 (g.trans s1.gr) s1.ok _ fun y F3 H3 s2 r2 =>
    hr F3 H3 x y (g.trans (s1.gr.trans s2.gr)) s2.ok (r1.mono s2.gr) r2 _ ⟨k, rfl, q _ _ (s1.trans s2)⟩)
/-- the facts of a comparison, for both uses -/
structure CmpR (X : Cx) (op : CmpOp) (F : Hp) (O : Own) (da db : PyData) (k : Bool) : Prop where
  r : ∃ r : R2, OpR X (compareOp op) r ∧ ∀ F2 H2 x y, Gr F F2 → WOk F2 O H2 → R X.K F2 x da → R X.K F2 y db → ∀ Q : VK, Q (.bl k) H2 → r x y H2 Q
theorem ze_cm {op : CmpOp} (h : CmpR X op F O2 da db k) (ha : ZE X a σ F O da O1) (hb : ZE X b σ F O1 db O2) (hm : behindInMarks op b = false := by first | exact nomark _ | rfl) : ZE X (.Compare a [op] [b] pos) σ F O (.bool k) O2 :=
  let ⟨_, ho, hr⟩ := h.r; ze_cmp ho ha hb hm hr
theorem zt_cm {op : CmpOp} (h : CmpR X op F O2 da db k) (ha : ZE X a σ F O da O1) (hb : ZE X b σ F O1 db O2) (hm : behindInMarks op b = false := by first | exact nomark _ | rfl) : ZT X (.Compare a [op] [b] pos) σ F O k O2 :=
  let ⟨_, ho, hr⟩ := h.r; zt_cmp ho ha hb hm hr
theorem cm_lt : CmpR X .Lt F O (.int i) (.int j) (decide (i < j)) := ⟨_, op_lt, fun _ _ _ _ _ _ r1 r2 _ q => ⟨i, j, r1.int_inv, r2.int_inv, q⟩⟩
theorem cm_le : CmpR X .LtE F O (.int i) (.int j) (decide (i ≤ j)) := ⟨_, op_le, fun _ _ _ _ _ _ r1 r2 _ q => ⟨i, j, r1.int_inv, r2.int_inv, q⟩⟩
theorem cm_gt : CmpR X .Gt F O (.int i) (.int j) (decide (j < i)) := ⟨_, op_gt, fun _ _ _ _ _ _ r1 r2 _ q => ⟨i, j, r1.int_inv, r2.int_inv, q⟩⟩
theorem cm_ge : CmpR X .GtE F O (.int i) (.int j) (decide (j ≤ i)) := ⟨_, op_ge, fun _ _ _ _ _ _ r1 r2 _ q => ⟨i, j, r1.int_inv, r2.int_inv, q⟩⟩
theorem cm_eqI : CmpR X .Eq F O (.int i) (.int j) (decide (i = j)) := ⟨_, op_eq, fun _ _ _ _ _ _ r1 r2 _ q => by
  rw [r1.int_inv, r2.int_inv]
  exact ⟨rfl, by rw [dec_int, Bool.beq_eq_decide_eq]; exact q⟩⟩
theorem cm_neI : CmpR X .NotEq F O (.int i) (.int j) (!decide (i = j)) := ⟨_, op_ne, fun _ _ _ _ _ _ r1 r2 _ q => by
  rw [r1.int_inv, r2.int_inv]
  exact ⟨rfl, by rw [dec_int, Bool.beq_eq_decide_eq]; exact q⟩⟩
theorem cm_eqS {x y : Str} : CmpR X .Eq F O (.str x) (.str y) (decide (x = y)) := ⟨_, op_eq, fun _ _ _ _ _ _ r1 r2 _ q => by
  rw [r1.str_inv, r2.str_inv]
  exact ⟨rfl, by
    have e : decide (V.str x = V.str y) = decide (x = y) := by simp
    rw [e]; exact q⟩⟩
theorem cm_neS {x y : Str} : CmpR X .NotEq F O (.str x) (.str y) (!decide (x = y)) := ⟨_, op_ne, fun _ _ _ _ _ _ r1 r2 _ q => by
  rw [r1.str_inv, r2.str_inv]
  exact ⟨rfl, by
    have e : decide (V.str x = V.str y) = decide (x = y) := by simp
    rw [e]; exact q⟩⟩
theorem cm_eqB {x y : Bool} : CmpR X .Eq F O (.bool x) (.bool y) (decide (x = y)) := ⟨_, op_eq, fun _ _ _ _ _ _ r1 r2 _ q => by
  rw [r1.bl_inv, r2.bl_inv]
  exact ⟨rfl, by
    have e : decide (V.bl x = V.bl y) = decide (x = y) := by simp
    rw [e]; exact q⟩⟩
theorem cm_neB {x y : Bool} : CmpR X .NotEq F O (.bool x) (.bool y) (!decide (x = y)) := ⟨_, op_ne, fun _ _ _ _ _ _ r1 r2 _ q => by
  rw [r1.bl_inv, r2.bl_inv]
  exact ⟨rfl, by
    have e : decide (V.bl x = V.bl y) = decide (x = y) := by simp
    rw [e]; exact q⟩⟩
def isNon : PyData → Bool
  | .none => true
  | _ => false
theorem R.isNon {K : PySem.W.Frag} {v : V} (h : R K F v d) : decide (v = .non) = isNon d := by
  cases h <;> rfl
theorem cm_is : CmpR X .Is F O d .none (isNon d) := ⟨_, op_isN, fun _ _ _ _ _ _ r1 r2 _ q => ⟨r2.non_inv, by rw [r1.isNon]; exact q⟩⟩
theorem cm_isnot : CmpR X .IsNot F O d .none (!isNon d) := ⟨_, op_notN, fun _ _ _ _ _ _ r1 r2 _ q => ⟨r2.non_inv, by rw [r1.isNon]; exact q⟩⟩
/-- == of data of any depth -/
theorem cm_eqD (hu : X.A.units + 64 < cLine) (h1 : SeqAt.shaped da = true) (h2 : SeqAt.shaped db = true) : CmpR X .Eq F O da db (PyData.eqv da db) := ⟨_, op_eqD hu, fun _ _ _ _ _ w r1 r2 _ q => ⟨da, db, r1.dp w.sub, r2.dp w.sub, h1, h2, q⟩⟩
theorem cm_neD (hu : X.A.units + 64 < cLine) (h1 : SeqAt.shaped da = true) (h2 : SeqAt.shaped db = true) : CmpR X .NotEq F O da db (!PyData.eqv da db) := ⟨_, op_neD hu, fun _ _ _ _ _ w r1 r2 _ q => ⟨da, db, r1.dp w.sub, r2.dp w.sub, h1, h2, q⟩⟩
end
end Z

end
section
namespace Z
open PySem PySem.Spec PyProof.Rows L2
section
variable {X : Cx} {e a b c : Expr} {es : List Expr} {σ : L2.St} {F H : Hp} {O O1 O2 O3 : Own} {d da db : PyData} {ds : List PyData} {pos : Pos} {i j : Int} {k k1 k2 : Bool}

/-! ### subscripts -/
theorem atI_ra {K : PySem.W.Frag} {F : Hp} {vs : List V} (h : RA K F vs ds) (e : atI ds i = some d) : ∃ v, atI vs i = some v ∧ R K F v d := by
  unfold atI at e ⊢
  rw [h.len]
  cases q : ixN ds.length i with
  | none => rw [q] at e; cases e
  | some n =>
    rw [q] at e
    obtain ⟨v, hv, r⟩ := h.get (show ds[n]? = some d from e)
    exact ⟨v, hv, r⟩
theorem ze_ixT (ha : ZE X a σ F O (.tuple ds) O1) (hb : ZE X b σ F O1 (.int i) O2) (h : atI ds i = some d) (hs : PlainIx b := by exact fun _ _ => rfl) : ZE X (.Subscript a b pos) σ F O d O2 := fun F1 H g w Q q =>
  wE_of (pe_ix ix_tup pe_w pe_w hs) (ha F1 H g w _ fun x F2 H2 s1 r1 => hb F2 H2 (g.trans s1.gr) s1.ok _ fun y F3 H3 s2 r2 => by
    obtain ⟨l, xs, rfl, e1, a1⟩ := (r1.mono s2.gr).tup_inv
    obtain ⟨v, hv, rv⟩ := atI_ra a1 h
    exact ⟨l, xs, i, v, rfl, r2.int_inv, s2.ok.sub.sqT e1, hv, q _ _ _ (s1.trans s2) rv⟩)
theorem ze_ixL (ha : ZE X a σ F O (.list ds) O1) (hb : ZE X b σ F O1 (.int i) O2) (h : atI ds i = some d) (hs : PlainIx b := by exact fun _ _ => rfl) : ZE X (.Subscript a b pos) σ F O d O2 := fun F1 H g w Q q =>
  wE_of (pe_ix ix_list pe_w pe_w hs) (ha F1 H g w _ fun x F2 H2 s1 r1 => hb F2 H2 (g.trans s1.gr) s1.ok _ fun y F3 H3 s2 r2 => by
    obtain ⟨l, xs, rfl, e1, a1⟩ := (r1.mono s2.gr).lst_inv
    obtain ⟨v, hv, rv⟩ := atI_ra a1 h
    exact ⟨l, xs, i, v, rfl, r2.int_inv, .inl (.inl (s2.ok.sub _ _ e1)), hv, q _ _ _ (s1.trans s2) rv⟩)
theorem ze_ixS {x : Str} {n : Nat} (ha : ZE X a σ F O (.str x) O1) (hb : ZE X b σ F O1 (.int i) O2) (hz : x.length ≤ sizeLine) (h : atI x.cps.toList i = some n) (hs : PlainIx b := by exact fun _ _ => rfl) : ZE X (.Subscript a b pos) σ F O (.str ⟨#[n]⟩) O2 := fun F1 H g w Q q =>
  wE_of (pe_ix ix_str pe_w pe_w hs) (ha F1 H g w _ fun x' F2 H2 s1 r1 => hb F2 H2 (g.trans s1.gr) s1.ok _ fun y F3 H3 s2 r2 =>
    ⟨x, i, n, r1.str_inv, r2.int_inv, hz, h, q _ _ _ (s1.trans s2) (.str _)⟩)
/-- an item of a list that is mine, at slot n -/
theorem ze_ixO (n m : Nat) {x : Str} {px : Pos} {p : Addr} {vs : List V} (hσ : σ[n]? = some (some (.ref p))) (hb : ZE X b σ F O (.int i) O1) (hO : O1[m]? = some (p, .lst vs)) (hr : RA X.K F vs ds) (h : atI ds i = some d)
    (hN : X.N[n]? = some x := by rfl) (hv : Vis X.env.scope x := by first | exact Or.inl rfl | exact Or.inr (Or.inl rfl) | exact Or.inr (Or.inr rfl)) (hs : PlainIx b := by exact fun _ _ => rfl) (hd : (x == ("__debug__" : Str)) = false := by decide)
    (hcd : (x == ("__classdict__" : Str)) = false := by decide) : ZE X (.Subscript (.Name x px) b pos) σ F O d O1 := fun F1 H g w Q q =>
  wE_of (pe_ix ix_list (pe_var hN hv hd hcd) pe_w hs) ⟨_, hσ, hb F1 H g w _ fun y F2 H2 s1 r1 => by
    obtain ⟨v, hv, rv⟩ := atI_ra hr h
    exact ⟨p, vs, i, v, rfl, r1.int_inv, .inl (.inl (s1.ok.at_ hO).1), hv, q _ _ _ s1 (rv.mono (g.trans s1.gr))⟩⟩
def cutD {α : Type} (xs : List α) (lo hi : Option Int) : List α := (xs.drop (HT.sIx xs.length 0 lo)).take (HT.sIx xs.length xs.length hi - HT.sIx xs.length 0 lo)
theorem RA.cut {K : PySem.W.Frag} {F : Hp} {vs : List V} {lo hi : Option Int} (h : RA K F vs ds) : RA K F (cutV vs lo hi) (cutD ds lo hi) := by
  unfold cutV cutD
  rw [h.len]
  exact h.drop.take
theorem zo_none : ZO X none σ F O none O := fun F1 H g w Q q => wO_of po_none (q _ _ (Stp.refl w))
theorem zo_some (h : ZE X e σ F O (.int i) O1) : ZO X (some e) σ F O (some i) O1 := fun F1 H g w Q q => wO_of (po_some pe_w) (h F1 H g w _ fun v F2 H2 s1 r1 => ⟨i, r1.int_inv, q _ _ s1⟩)
variable {lo hi : Option Expr} {p2 : Pos} {l u : Option Int}
theorem zn_sl (ha : ZE X a σ F O (.list ds) O1) (hl : ZO X lo σ F O1 l O2) (hu : ZO X hi σ F O2 u O3) : ZN X (.Subscript a (.Slice lo hi none p2) pos) σ F O (cutD ds l u) O3 := fun F1 H g w Q q =>
  wE_of (pe_slice sl_list pe_w po_w po_w) (ha F1 H g w _ fun x F2 H2 s1 r1 => hl F2 H2 (g.trans s1.gr) s1.ok _ fun F3 H3 s2 => hu F3 H3 (g.trans (s1.gr.trans s2.gr)) s2.ok _ fun F4 H4 s3 => by
    obtain ⟨m, xs, rfl, e1, a1⟩ := (r1.mono (s2.gr.trans s3.gr)).lst_inv
    refine ⟨m, xs, rfl, .inl (.inl (s3.ok.sub _ _ e1)), fun p hp => q p _ _ _ ?_ (s1.trans (s2.trans (s3.trans (Stp.alloc s3.ok hp (Nat.le_trans (cutV_length _ _ _) (s3.ok.sz _ _ e1)))))) a1.cut⟩
    cases z : H p with
    | none => rfl
    | some u => exact absurd hp ((s1.trans (s2.trans s3)).dom p (by rw [z]; simp)))
/-- a slice of a list that is mine -/
theorem zn_slO (n m : Nat) {x : Str} {px : Pos} {p : Addr} {vs : List V} (hσ : σ[n]? = some (some (.ref p))) (hl : ZO X lo σ F O l O2) (hu : ZO X hi σ F O2 u O3) (hO : O3[m]? = some (p, .lst vs)) (hr : RA X.K F vs ds)
    (hN : X.N[n]? = some x := by rfl) (hv : Vis X.env.scope x := by first | exact Or.inl rfl | exact Or.inr (Or.inl rfl) | exact Or.inr (Or.inr rfl)) (hd : (x == ("__debug__" : Str)) = false := by decide)
    (hcd : (x == ("__classdict__" : Str)) = false := by decide) : ZN X (.Subscript (.Name x px) (.Slice lo hi none p2) pos) σ F O (cutD ds l u) O3 := fun F1 H g w Q q =>
  wE_of (pe_slice sl_list (pe_var hN hv hd hcd) po_w po_w) ⟨_, hσ, hl F1 H g w _ fun F3 H3 s2 => hu F3 H3 (g.trans s2.gr) s2.ok _ fun F4 H4 s3 => by
    have e1 := (s3.ok.at_ hO).1
    refine ⟨p, vs, rfl, .inl (.inl e1), fun p' hp => q p' _ _ _ ?_ (s2.trans (s3.trans (Stp.alloc s3.ok hp (Nat.le_trans (cutV_length _ _ _) (s3.ok.szo _ (List.mem_of_getElem? hO) _ rfl))))) (hr.cut.mono (g.trans (s2.gr.trans s3.gr)))⟩
    cases z : H p' with
    | none => rfl
    | some u => exact absurd hp ((s2.trans s3).dom p' (by rw [z]; simp))⟩
theorem ze_slS {x : Str} (ha : ZE X a σ F O (.str x) O1) (hl : ZO X lo σ F O1 l O2) (hu : ZO X hi σ F O2 u O3) (hz : x.length ≤ sizeLine) : ZE X (.Subscript a (.Slice lo hi none p2) pos) σ F O (.str (cutS x l u)) O3 := fun F1 H g w Q q =>
  wE_of (pe_slice sl_str pe_w po_w po_w) (ha F1 H g w _ fun x' F2 H2 s1 r1 => hl F2 H2 (g.trans s1.gr) s1.ok _ fun F3 H3 s2 => hu F3 H3 (g.trans (s1.gr.trans s2.gr)) s2.ok _ fun F4 H4 s3 =>
    ⟨x, r1.str_inv, hz, q _ _ _ (s1.trans (s2.trans s3)) (.str _)⟩)

/-! ### argument lists, displays -/
theorem za_nil : ZA X [] σ F O [] O := fun F1 H g w Q q => wA_of pa_nil (q _ _ _ (Stp.refl w) .nil)
theorem za_cons (h : ZE X e σ F O d O1) (t : ZA X es σ F O1 ds O2) (hs : starEach (e :: es) X.env = (false, eval e X.env) :: starEach es X.env := by rfl) : ZA X (e :: es) σ F O (d :: ds) O2 := fun F1 H g w Q q =>
  wA_of (pa_cons pe_w pa_w hs) (h F1 H g w _ fun v F2 H2 s1 r1 => t F2 H2 (g.trans s1.gr) s1.ok _ fun vs F3 H3 s2 r2 => q _ _ _ (s1.trans s2) (.cons (r1.mono s2.gr) r2))
theorem ze_tup {kk} (h : ZA X es σ F O ds O1) (hz : ds.length ≤ sizeLine := by show _ ≤ (16777216 : Nat); exact Nat.le_of_ble_eq_true rfl) : ZE X (.Tuple es kk pos) σ F O (.tuple ds) O1 := fun F1 H g w Q q =>
  wE_of (pe_tup pa_w) (h F1 H g w _ fun vs F2 H2 s1 r1 => ⟨by rw [r1.len]; exact hz, fun p hp => q _ _ _ (s1.trans (Stp.tupF s1.ok hp)) ((r1.mono (Stp.tupF s1.ok hp).gr).tup upd_same)⟩)
theorem zn_lst (h : ZA X es σ F O ds O1) (hz : ds.length ≤ sizeLine := by show _ ≤ (16777216 : Nat); exact Nat.le_of_ble_eq_true rfl) : ZN X (.List es pos) σ F O ds O1 := fun F1 H g w Q q =>
  wE_of (pe_lst pa_w) (h F1 H g w _ fun vs F2 H2 s1 r1 => ⟨by rw [r1.len]; exact hz, fun p hp => q _ _ _ _ (by
    cases z : H p with
    | none => rfl
    | some u => exact absurd hp (s1.dom p (by rw [z]; simp))) (s1.trans (Stp.alloc s1.ok hp (by show vs.length ≤ _; rw [r1.len]; exact hz))) r1⟩)

/-! ### calls -/
structure Fn (P : Program) (w : World) (K : PySem.W.Frag) (mg : Str → Option Value) (base : Heap) (k : Nat) (x : Str) (ps : List Str) (sp : Sp) : Prop where
  ex : ∃ (f : Addr) (fd : FuncData), FnOk P w K mg base CX0 k f fd ps sp ∧ mg x = some (.ref f) ∧ PySem.W.keepIn K (.ref f) = true ∧ Binds K fd ps []
/-- data in, data out -/
def spD (K : PySem.W.Frag) (A : List PyData → PyData → Prop) : Sp := fun vs H Q _ => ∃ (F : Hp) (ds : List PyData) (r : PyData), WOk F [] H ∧ RA K F vs ds ∧ A ds r ∧ ∀ v F' H', Stp F [] H F' [] H' → R K F' v r → Q v H'
/-- data in, a new list out -/
def spN (K : PySem.W.Frag) (A : List PyData → List PyData → Prop) : Sp := fun vs H Q _ => ∃ (F : Hp) (ds rs : List PyData), WOk F [] H ∧ RA K F vs ds ∧ A ds rs ∧ ∀ p us F' H', H p = none → Stp F [] H F' [(p, .lst us)] H' → RA K F' us rs → Q (.ref p) H'
variable {x : Str} {p : Pos} {ps : List Str} {n : Nat}
theorem ze_callD {A : List PyData → PyData → Prop} (G : Fn X.prog X.w X.K X.mg X.base n x ps (spD X.K A)) (hr : Room n X.A) (ha : ZA X (e :: es) σ F O ds O1) (hA : A ds d) (hg : Gl X x := by rfl) (hdb : (x == ("__debug__" : Str)) = false := by decide)
    (he : starEach (e :: es) X.env = (false, eval e X.env) :: starEach es X.env := by rfl) (hpl : (backTo pos (starEach es X.env)).any (·.1) = false := by rfl) : ZE X (.Call (.Name x p) (e :: es) [] pos) σ F O d O1 := fun F1 H g w Q q => by
  obtain ⟨f, fd, G, hm, hk, hb⟩ := G.ex
  refine wE_of (pe_call G hr hg hm hk hb .nil (E := E0) pass0 pa_w hdb he hpl) (ha F1 H g w _ fun vs F2 H2 s1 r1 => ?_)
  rw [List.append_nil]
  exact ⟨F2, ds, d, s1.ok.less, r1, hA, fun v F' H' s2 r2 => q _ _ _ (s1.trans (Stp.more s1.ok s2)) r2⟩
theorem zn_callN {A : List PyData → List PyData → Prop} {rs : List PyData} (G : Fn X.prog X.w X.K X.mg X.base n x ps (spN X.K A)) (hr : Room n X.A) (ha : ZA X (e :: es) σ F O ds O1) (hA : A ds rs) (hg : Gl X x := by rfl) (hdb : (x == ("__debug__" : Str)) = false := by decide)
    (he : starEach (e :: es) X.env = (false, eval e X.env) :: starEach es X.env := by rfl) (hpl : (backTo pos (starEach es X.env)).any (·.1) = false := by rfl) : ZN X (.Call (.Name x p) (e :: es) [] pos) σ F O rs O1 := fun F1 H g w Q q => by
  obtain ⟨f, fd, G, hm, hk, hb⟩ := G.ex
  refine wE_of (pe_call G hr hg hm hk hb .nil (E := E0) pass0 pa_w hdb he hpl) (ha F1 H g w _ fun vs F2 H2 s1 r1 => ?_)
  rw [List.append_nil]
  refine ⟨F2, ds, rs, s1.ok.less, r1, hA, fun p us F' H' hp s2 r2 => q p us _ _ ?_ (s1.trans (Stp.more s1.ok s2)) r2⟩
  cases z : H p with
  | none => rfl
  | some u => exact absurd hp (s1.dom p (by rw [z]; simp))
/-- a built-in function -/
theorem ze_callB {id : String} {r : List V → Hp → VK → Prop} (hc : CallR X (.builtin id) r) (hm : X.mg x = none) (hv : bootBuiltins x = some (.builtin id)) (ha : ZA X (e :: es) σ F O ds O1)
    (hr : ∀ F1 H1 vs, Gr F F1 → WOk F1 O1 H1 → RA X.K F1 vs ds → ∀ Q : VK, (∀ v F2 H2, Stp F1 O1 H1 F2 O2 H2 → R X.K F2 v d → Q v H2) → r vs H1 Q) (hg : Gl X x := by rfl) (hn : x ≠ "__name__" := by decide) (hdb : (x == ("__debug__" : Str)) = false := by decide)
    (he : starEach (e :: es) X.env = (false, eval e X.env) :: starEach es X.env := by rfl) (hpl : (backTo pos (starEach es X.env)).any (·.1) = false := by rfl) : ZE X (.Call (.Name x p) (e :: es) [] pos) σ F O d O2 := fun F1 H g w Q q =>
  wE_of (pe_callB hc hg hm hv pa_w hn hdb he hpl) (ha F1 H g w _ fun vs F2 H2 s1 r1 => hr F2 H2 vs (g.trans s1.gr) s1.ok r1 Q fun v F3 H3 s2 r2 => q _ _ _ (s1.trans s2) r2)
theorem ze_callTy {T : String} {r : List V → Hp → VK → Prop} (hc : CallR X (.type T) r) (hm : X.mg x = none) (hv : bootBuiltins x = some (.type T)) (ha : ZA X (e :: es) σ F O ds O1)
    (hr : ∀ F1 H1 vs, Gr F F1 → WOk F1 O1 H1 → RA X.K F1 vs ds → ∀ Q : VK, (∀ v F2 H2, Stp F1 O1 H1 F2 O2 H2 → R X.K F2 v d → Q v H2) → r vs H1 Q) (hg : Gl X x := by rfl) (hn : x ≠ "__name__" := by decide) (hdb : (x == ("__debug__" : Str)) = false := by decide)
    (he : starEach (e :: es) X.env = (false, eval e X.env) :: starEach es X.env := by rfl) (hpl : (backTo pos (starEach es X.env)).any (·.1) = false := by rfl) : ZE X (.Call (.Name x p) (e :: es) [] pos) σ F O d O2 := fun F1 H g w Q q =>
  wE_of (pe_callTy hc hg hm hv pa_w hn hdb he hpl) (ha F1 H g w _ fun vs F2 H2 s1 r1 => hr F2 H2 vs (g.trans s1.gr) s1.ok r1 Q fun v F3 H3 s2 r2 => q _ _ _ (s1.trans s2) r2)
theorem zn_callB {id : String} {r : List V → Hp → VK → Prop} {rs : List PyData} (hc : CallR X (.builtin id) r) (hm : X.mg x = none) (hv : bootBuiltins x = some (.builtin id)) (ha : ZA X (e :: es) σ F O ds O1)
    (hr : ∀ F1 H1 vs, Gr F F1 → WOk F1 O1 H1 → RA X.K F1 vs ds → ∀ Q : VK, (∀ p us F2 H2, H1 p = none → Stp F1 O1 H1 F2 ((p, .lst us) :: O1) H2 → RA X.K F2 us rs → Q (.ref p) H2) → r vs H1 Q) (hg : Gl X x := by rfl) (hn : x ≠ "__name__" := by decide) (hdb : (x == ("__debug__" : Str)) = false := by decide)
    (he : starEach (e :: es) X.env = (false, eval e X.env) :: starEach es X.env := by rfl) (hpl : (backTo pos (starEach es X.env)).any (·.1) = false := by rfl) : ZN X (.Call (.Name x p) (e :: es) [] pos) σ F O rs O1 := fun F1 H g w Q q =>
  wE_of (pe_callB hc hg hm hv pa_w hn hdb he hpl) (ha F1 H g w _ fun vs F2 H2 s1 r1 => hr F2 H2 vs (g.trans s1.gr) s1.ok r1 Q fun p us F3 H3 hp s2 r2 => q p us _ _ (by
    cases z : H p with
    | none => rfl
    | some u => exact absurd hp (s1.dom p (by rw [z]; simp))) (s1.trans s2) r2)
theorem zn_callTy {T : String} {r : List V → Hp → VK → Prop} {rs : List PyData} (hc : CallR X (.type T) r) (hm : X.mg x = none) (hv : bootBuiltins x = some (.type T)) (ha : ZA X (e :: es) σ F O ds O1)
    (hr : ∀ F1 H1 vs, Gr F F1 → WOk F1 O1 H1 → RA X.K F1 vs ds → ∀ Q : VK, (∀ p us F2 H2, H1 p = none → Stp F1 O1 H1 F2 ((p, .lst us) :: O1) H2 → RA X.K F2 us rs → Q (.ref p) H2) → r vs H1 Q) (hg : Gl X x := by rfl) (hn : x ≠ "__name__" := by decide) (hdb : (x == ("__debug__" : Str)) = false := by decide)
    (he : starEach (e :: es) X.env = (false, eval e X.env) :: starEach es X.env := by rfl) (hpl : (backTo pos (starEach es X.env)).any (·.1) = false := by rfl) : ZN X (.Call (.Name x p) (e :: es) [] pos) σ F O rs O1 := fun F1 H g w Q q =>
  wE_of (pe_callTy hc hg hm hv pa_w hn hdb he hpl) (ha F1 H g w _ fun vs F2 H2 s1 r1 => hr F2 H2 vs (g.trans s1.gr) s1.ok r1 Q fun p us F3 H3 hp s2 r2 => q p us _ _ (by
    cases z : H p with
    | none => rfl
    | some u => exact absurd hp (s1.dom p (by rw [z]; simp))) (s1.trans s2) r2)
theorem RA.one {K : PySem.W.Frag} {F : Hp} {vs : List V} (h : RA K F vs [d]) : ∃ v, vs = [v] ∧ R K F v d := by
  obtain ⟨v, ws, rfl, r, t⟩ := h.cons_inv
  rw [t.nil_inv]; exact ⟨v, rfl, r⟩
theorem RA.two {K : PySem.W.Frag} {F : Hp} {vs : List V} (h : RA K F vs [da, db]) : ∃ v w, vs = [v, w] ∧ R K F v da ∧ R K F w db := by
  obtain ⟨v, ws, rfl, r, t⟩ := h.cons_inv
  obtain ⟨w, rfl, r'⟩ := t.one
  exact ⟨v, w, rfl, r, r'⟩
theorem ze_lenL (hm : X.mg "len" = none) (ha : ZE X e σ F O (.list ds) O1) (hg : Gl X "len" := by rfl) (he : starEach [e] X.env = (false, eval e X.env) :: starEach [] X.env := by rfl) (hpl : (backTo pos (starEach [] X.env)).any (·.1) = false := by rfl) : ZE X (.Call (.Name "len" p) [e] [] pos) σ F O (.int (ds.length : Nat)) O1 :=
  ze_callB call_len_seq hm boot_len (za_cons ha za_nil he) (fun F1 H1 vs _ w r Q q => by
    obtain ⟨v, rfl, r1⟩ := r.one
    obtain ⟨l, xs, rfl, e1, a1⟩ := r1.lst_inv
    exact ⟨l, xs, rfl, .inl (.inl (.inl (w.sub _ _ e1))), q _ _ _ (Stp.refl w) (by rw [a1.len]; exact .int _)⟩) hg (by decide) (by decide) he hpl
theorem ze_lenT (hm : X.mg "len" = none) (ha : ZE X e σ F O (.tuple ds) O1) (hg : Gl X "len" := by rfl) (he : starEach [e] X.env = (false, eval e X.env) :: starEach [] X.env := by rfl) (hpl : (backTo pos (starEach [] X.env)).any (·.1) = false := by rfl) : ZE X (.Call (.Name "len" p) [e] [] pos) σ F O (.int (ds.length : Nat)) O1 :=
  ze_callB call_len_seq hm boot_len (za_cons ha za_nil he) (fun F1 H1 vs _ w r Q q => by
    obtain ⟨v, rfl, r1⟩ := r.one
    obtain ⟨l, xs, rfl, e1, a1⟩ := r1.tup_inv
    exact ⟨l, xs, rfl, .inr (w.sub.sqT e1), q _ _ _ (Stp.refl w) (by rw [a1.len]; exact .int _)⟩) hg (by decide) (by decide) he hpl
theorem ze_lenS {s : Str} (hm : X.mg "len" = none) (hz : s.length ≤ sizeLine) (ha : ZE X e σ F O (.str s) O1) (hg : Gl X "len" := by rfl) (he : starEach [e] X.env = (false, eval e X.env) :: starEach [] X.env := by rfl) (hpl : (backTo pos (starEach [] X.env)).any (·.1) = false := by rfl) : ZE X (.Call (.Name "len" p) [e] [] pos) σ F O (.int (s.length : Nat)) O1 :=
  ze_callB call_len_str hm boot_len (za_cons ha za_nil he) (fun F1 H1 vs _ w r Q q => by
    obtain ⟨v, rfl, r1⟩ := r.one
    exact ⟨s, by rw [r1.str_inv], hz, q _ _ _ (Stp.refl w) (.int _)⟩) hg (by decide) (by decide) he hpl
theorem ze_lenO (n m : Nat) {x : Str} {px : Pos} {q : Addr} {vs : List V} (hm : X.mg "len" = none) (hσ : σ[n]? = some (some (.ref q))) (hO : O[m]? = some (q, .lst vs)) (hr : RA X.K F vs ds) (hN : X.N[n]? = some x := by rfl)
    (hv : Vis X.env.scope x := by first | exact Or.inl rfl | exact Or.inr (Or.inl rfl) | exact Or.inr (Or.inr rfl)) (hg : Gl X "len" := by rfl) (hd : (x == ("__debug__" : Str)) = false := by decide) (hcd : (x == ("__classdict__" : Str)) = false := by decide)
    (he : starEach [.Name x px] X.env = (false, eval (.Name x px) X.env) :: starEach [] X.env := by rfl) (hpl : (backTo pos (starEach [] X.env)).any (·.1) = false := by rfl) : ZE X (.Call (.Name "len" p) [.Name x px] [] pos) σ F O (.int (ds.length : Nat)) O := fun F1 H g w Q qq =>
  wE_of (pe_callB call_len_seq hg hm boot_len (pa_cons (pe_var hN hv hd hcd) pa_nil he) (by decide) (by decide) he hpl) ⟨_, hσ, ⟨q, vs, rfl, .inl (.inl (.inl (w.at_ hO).1)), qq _ _ _ (Stp.refl w) (by rw [hr.len]; exact .int _)⟩⟩
theorem ze_intI (hm : X.mg "int" = none) (ha : ZE X e σ F O (.int i) O1) (hg : Gl X "int" := by rfl) (he : starEach [e] X.env = (false, eval e X.env) :: starEach [] X.env := by rfl) (hpl : (backTo pos (starEach [] X.env)).any (·.1) = false := by rfl) : ZE X (.Call (.Name "int" p) [e] [] pos) σ F O (.int i) O1 :=
  ze_callTy call_int1 hm boot_int (za_cons ha za_nil he) (fun F1 H1 vs _ w r Q q => by
    obtain ⟨v, rfl, r1⟩ := r.one
    exact .inl ⟨i, by rw [r1.int_inv], q _ _ _ (Stp.refl w) (.int _)⟩) hg (by decide) (by decide) he hpl
theorem ze_intB (hm : X.mg "int" = none) (ha : ZE X e σ F O (.bool k) O1) (hg : Gl X "int" := by rfl) (he : starEach [e] X.env = (false, eval e X.env) :: starEach [] X.env := by rfl) (hpl : (backTo pos (starEach [] X.env)).any (·.1) = false := by rfl) : ZE X (.Call (.Name "int" p) [e] [] pos) σ F O (.int (if k then 1 else 0)) O1 :=
  ze_callTy call_int1 hm boot_int (za_cons ha za_nil he) (fun F1 H1 vs _ w r Q q => by
    obtain ⟨v, rfl, r1⟩ := r.one
    exact .inr ⟨k, by rw [r1.bl_inv], q _ _ _ (Stp.refl w) (.int _)⟩) hg (by decide) (by decide) he hpl
theorem zn_list (hm : X.mg "list" = none) (ha : ZE X e σ F O (.list ds) O1) (hg : Gl X "list" := by rfl) (he : starEach [e] X.env = (false, eval e X.env) :: starEach [] X.env := by rfl) (hpl : (backTo pos (starEach [] X.env)).any (·.1) = false := by rfl) : ZN X (.Call (.Name "list" p) [e] [] pos) σ F O ds O1 :=
  zn_callTy call_list_of hm (by decide +kernel) (za_cons ha za_nil he) (fun F1 H1 vs _ w r Q q => by
    obtain ⟨v, rfl, r1⟩ := r.one
    obtain ⟨l, xs, rfl, e1, a1⟩ := r1.lst_inv
    exact ⟨l, xs, rfl, .inl (.inl (.inl (w.sub _ _ e1))), fun p hp => q p _ _ _ hp (Stp.alloc w hp (w.sz _ _ e1)) a1⟩) hg (by decide) (by decide) he hpl
theorem ze_sum {ns : List Int} (hc : X.calm = true) (hm : X.mg "sum" = none) (ha : ZE X e σ F O (.list (ns.map .int)) O1) (hg : Gl X "sum" := by rfl) (he : starEach [e] X.env = (false, eval e X.env) :: starEach [] X.env := by rfl) (hpl : (backTo pos (starEach [] X.env)).any (·.1) = false := by rfl) : ZE X (.Call (.Name "sum" p) [e] [] pos) σ F O (.int ns.sum) O1 :=
  ze_callB (cr_sum hc) hm (by decide +kernel) (za_cons ha za_nil he) (fun F1 H1 vs _ w r Q q => by
    obtain ⟨v, rfl, r1⟩ := r.one
    obtain ⟨l, xs, rfl, e1, a1⟩ := r1.lst_inv
    have ex : xs = ns.map V.int := by
      apply List.ext_getElem?
      intro i
      cases z : xs[i]? with
      | none =>
        have := List.getElem?_eq_none_iff.mp z
        rw [List.getElem?_eq_none_iff.mpr (by have := a1.len; simp at this ⊢; omega)]
      | some v =>
        obtain ⟨d, hd, rd⟩ := a1.get' z
        rw [List.getElem?_map] at hd ⊢
        cases y : ns[i]? with
        | none => rw [y] at hd; cases hd
        | some m => rw [y] at hd; cases hd; rw [rd.int_inv]; rfl
    subst ex
    exact ⟨l, ns, rfl, .inl (.inl (w.sub _ _ e1)), q _ _ _ (Stp.refl w) (.int _)⟩) hg (by decide) (by decide) he hpl
end
end Z

end
section
namespace Z
open PySem PySem.Spec PyProof.Rows L2
section
variable {X : Cx} {e a b c : Expr} {es rest' : List Expr} {σ : L2.St} {F H : Hp} {O O1 O2 O3 : Own} {d da db : PyData} {ds : List PyData} {pos : Pos} {i j : Int} {k k1 k2 : Bool}

/-! ### tests -/
theorem zt_val (h : ZE X e σ F O (.bool k) O1) (he : ∀ whole, isTrue e X.env whole = (do let v ← whole; standAt e.pos; holding [v] (truthy v)) := by intro _; rfl) : ZT X e σ F O k O1 := fun F1 H g w Q q =>
  wT_of (pt_val pe_w he) (h F1 H g w _ fun v F2 H2 s1 r1 => ⟨k, r1.bl_inv, q _ _ s1⟩)
theorem zt_not (h : ZT X a σ F O k O1) : ZT X (.UnaryOp .Not a pos) σ F O (!k) O1 := fun F1 H g w Q q => wT_of (pt_not pt_w) (h F1 H g w _ fun F2 H2 s1 => q _ _ s1)
theorem ze_not (h : ZE X a σ F O (.bool k) O1) : ZE X (.UnaryOp .Not a pos) σ F O (.bool (!k)) O1 := fun F1 H g w Q q =>
  wE_of (pe_not pe_w) (h F1 H g w _ fun v F2 H2 s1 r1 => ⟨k, r1.bl_inv, q _ _ _ s1 (.bl _)⟩)
/-- not a, a of any kind whose truth is known: a test -/
theorem zt_truth (h : ZE X e σ F O d O1) (ht : ∀ F2 H2 v, Gr F F2 → WOk F2 O1 H2 → R X.K F2 v d → TruV X.K v H2 k) (he : ∀ whole, isTrue e X.env whole = (do let v ← whole; standAt e.pos; holding [v] (truthy v)) := by intro _; rfl) : ZT X e σ F O k O1 := fun F1 H g w Q q =>
  wT_of (pt_truth pe_w he) (h F1 H g w _ fun v F2 H2 s1 r1 => ⟨k, ht F2 H2 v (g.trans s1.gr) s1.ok r1, q _ _ s1⟩)
theorem ra_empty {K : PySem.W.Frag} {F : Hp} {vs : List V} (h : RA K F vs ds) : vs.isEmpty = ds.isEmpty := by
  have := h.len
  cases vs <;> cases ds <;> first | rfl | (simp at this)
theorem zt_trL (h : ZE X e σ F O (.list ds) O1) (he : ∀ whole, isTrue e X.env whole = (do let v ← whole; standAt e.pos; holding [v] (truthy v)) := by intro _; rfl) : ZT X e σ F O (!ds.isEmpty) O1 := zt_truth h (fun F2 H2 v _ w r => by
  obtain ⟨l, xs, rfl, e1, a1⟩ := r.lst_inv
  exact .inl ⟨xs, .inl (.inl (w.sub _ _ e1)), by rw [ra_empty a1]⟩) he
theorem zt_trT (h : ZE X e σ F O (.tuple ds) O1) (he : ∀ whole, isTrue e X.env whole = (do let v ← whole; standAt e.pos; holding [v] (truthy v)) := by intro _; rfl) : ZT X e σ F O (!ds.isEmpty) O1 := zt_truth h (fun F2 H2 v _ w r => by
  obtain ⟨l, xs, rfl, e1, a1⟩ := r.tup_inv
  exact .inr (.inl ⟨xs, w.sub.sqT e1, by rw [ra_empty a1]⟩)) he
theorem zt_trI (h : ZE X e σ F O (.int i) O1) (he : ∀ whole, isTrue e X.env whole = (do let v ← whole; standAt e.pos; holding [v] (truthy v)) := by intro _; rfl) : ZT X e σ F O (i != 0) O1 := zt_truth h (fun F2 H2 v _ w r => by
  rw [r.int_inv]; exact rfl) he
theorem zt_trS {s : Str} (h : ZE X e σ F O (.str s) O1) (hz : s.length ≤ sizeLine) (he : ∀ whole, isTrue e X.env whole = (do let v ← whole; standAt e.pos; holding [v] (truthy v)) := by intro _; rfl) : ZT X e σ F O ((s.length : Int) != 0) O1 := zt_truth h (fun F2 H2 v _ w r => by
  rw [r.str_inv]; exact ⟨hz, rfl⟩) he
theorem zt_trO (n m : Nat) {x : Str} {p : Addr} {vs : List V} (hσ : σ[n]? = some (some (.ref p))) (hO : O[m]? = some (p, .lst vs)) (hr : RA X.K F vs ds) (hN : X.N[n]? = some x := by rfl)
    (hv : Vis X.env.scope x := by first | exact Or.inl rfl | exact Or.inr (Or.inl rfl) | exact Or.inr (Or.inr rfl)) (hd : (x == ("__debug__" : Str)) = false := by decide) (hcd : (x == ("__classdict__" : Str)) = false := by decide)
    (he : ∀ whole, isTrue (.Name x pos) X.env whole = (do let v ← whole; standAt (Expr.Name x pos).pos; holding [v] (truthy v)) := by intro _; rfl) : ZT X (.Name x pos) σ F O (!ds.isEmpty) O := fun F1 H g w Q q =>
  wT_of (pt_truth (pe_var hN hv hd hcd) he) ⟨_, hσ, _, .inl ⟨vs, .inl (.inl (w.at_ hO).1), by rw [ra_empty hr]⟩, q _ _ (Stp.refl w)⟩
theorem zt_w (h : ZW X e σ F O k O1) : ZT X e σ F O k O1 := fun F1 H g w Q q => wT_of pw_w.pt (h F1 H g w Q q)
theorem zw_and1 (ha : ZT X a σ F O k O1) : ZW X (.BoolOp .And [a] pos) σ F O k O1 := fun F1 H g w Q q => wW_of (pw_and1 pt_w) (ha F1 H g w Q q)
theorem zw_or1 (ha : ZT X a σ F O k O1) : ZW X (.BoolOp .Or [a] pos) σ F O k O1 := fun F1 H g w Q q => wW_of (pw_or1 pt_w) (ha F1 H g w Q q)
theorem zw_and (ha : ZT X a σ F O k1 O1) (hb : k1 = true → ZW X (.BoolOp .And (b :: rest') pos) σ F O1 k2 O1) : ZW X (.BoolOp .And (a :: b :: rest') pos) σ F O (k1 && k2) O1 := fun F1 H g w Q q =>
  wW_of (pw_and pt_w pw_w) (ha F1 H g w _ fun F2 H2 s1 => by
    cases k1 with
    | true => exact hb rfl F2 H2 (g.trans s1.gr) s1.ok _ fun F3 H3 s2 => q _ _ (s1.trans s2)
    | false => exact q _ _ s1)
theorem zw_or (ha : ZT X a σ F O k1 O1) (hb : k1 = false → ZW X (.BoolOp .Or (b :: rest') pos) σ F O1 k2 O1) : ZW X (.BoolOp .Or (a :: b :: rest') pos) σ F O (k1 || k2) O1 := fun F1 H g w Q q =>
  wW_of (pw_or pt_w pw_w) (ha F1 H g w _ fun F2 H2 s1 => by
    cases k1 with
    | false => exact hb rfl F2 H2 (g.trans s1.gr) s1.ok _ fun F3 H3 s2 => q _ _ (s1.trans s2)
    | true => exact q _ _ s1)
/-- stateful: the state behind hangs on the first -/
theorem zw_andS {α : Type} {s1 s2 : α} (G : α → Own) (ha : ZT X a σ F O k1 (G s1)) (hb : k1 = true → ZW X (.BoolOp .And (b :: rest') pos) σ F (G s1) k2 (G s2)) : ZW X (.BoolOp .And (a :: b :: rest') pos) σ F O (k1 && k2) (G (if k1 then s2 else s1)) := fun F1 H g w Q q =>
  wW_of (pw_and pt_w pw_w) (ha F1 H g w _ fun F2 H2 t1 => by
    cases k1 with
    | true => exact hb rfl F2 H2 (g.trans t1.gr) t1.ok _ fun F3 H3 t2 => q _ _ (t1.trans t2)
    | false => exact q _ _ t1)
theorem zw_orS {α : Type} {s1 s2 : α} (G : α → Own) (ha : ZT X a σ F O k1 (G s1)) (hb : k1 = false → ZW X (.BoolOp .Or (b :: rest') pos) σ F (G s1) k2 (G s2)) : ZW X (.BoolOp .Or (a :: b :: rest') pos) σ F O (k1 || k2) (G (if k1 then s1 else s2)) := fun F1 H g w Q q =>
  wW_of (pw_or pt_w pw_w) (ha F1 H g w _ fun F2 H2 t1 => by
    cases k1 with
    | false => exact hb rfl F2 H2 (g.trans t1.gr) t1.ok _ fun F3 H3 t2 => q _ _ (t1.trans t2)
    | true => exact q _ _ t1)
theorem ze_one {op : BoolOp} (h : ZE X a σ F O d O1) : ZE X (.BoolOp op [a] pos) σ F O d O1 := fun F1 H g w Q q => wE_of (pe_one pe_w) (h F1 H g w Q q)
theorem ze_and (ha : ZE X a σ F O (.bool k1) O1) (hb : k1 = true → ZE X (.BoolOp .And (b :: rest') pos) σ F O1 (.bool k2) O1) : ZE X (.BoolOp .And (a :: b :: rest') pos) σ F O (.bool (k1 && k2)) O1 := fun F1 H g w Q q =>
  wE_of (pe_and pe_w pe_w) (ha F1 H g w _ fun v F2 H2 s1 r1 => ⟨k1, r1.bl_inv, by
    cases k1 with
    | true => exact hb rfl F2 H2 (g.trans s1.gr) s1.ok _ fun v F3 H3 s2 r2 => q _ _ _ (s1.trans s2) r2
    | false => exact q _ _ _ s1 (.bl _)⟩)
theorem ze_or (ha : ZE X a σ F O (.bool k1) O1) (hb : k1 = false → ZE X (.BoolOp .Or (b :: rest') pos) σ F O1 (.bool k2) O1) : ZE X (.BoolOp .Or (a :: b :: rest') pos) σ F O (.bool (k1 || k2)) O1 := fun F1 H g w Q q =>
  wE_of (pe_or pe_w pe_w) (ha F1 H g w _ fun v F2 H2 s1 r1 => ⟨k1, r1.bl_inv, by
    cases k1 with
    | false => exact hb rfl F2 H2 (g.trans s1.gr) s1.ok _ fun v F3 H3 s2 r2 => q _ _ _ (s1.trans s2) r2
    | true => exact q _ _ _ s1 (.bl _)⟩)
/-- a if c else b -/
theorem ze_if {α β : Type} (f : α → PyData) (G : β → Own) {x y : α} {s1 s2 : β} (hc : ZT X c σ F O k O1) (ha : k = true → ZE X a σ F O1 (f x) (G s1)) (hb : k = false → ZE X b σ F O1 (f y) (G s2)) : ZE X (.IfExp c a b pos) σ F O (f (if k then x else y)) (G (if k then s1 else s2)) := fun F1 H g w Q q =>
  wE_of (pe_ifExp pt_w pe_w pe_w) (hc F1 H g w _ fun F2 H2 t1 => by
    cases k with
    | true => exact ha rfl F2 H2 (g.trans t1.gr) t1.ok _ fun v F3 H3 t2 r2 => q _ _ _ (t1.trans t2) r2
    | false => exact hb rfl F2 H2 (g.trans t1.gr) t1.ok _ fun v F3 H3 t2 r2 => q _ _ _ (t1.trans t2) r2)
theorem ze_if0 {α : Type} (f : α → PyData) {x y : α} (hc : ZT X c σ F O k O1) (ha : k = true → ZE X a σ F O1 (f x) O2) (hb : k = false → ZE X b σ F O1 (f y) O2) : ZE X (.IfExp c a b pos) σ F O (f (if k then x else y)) O2 := fun F1 H g w Q q =>
  wE_of (pe_ifExp pt_w pe_w pe_w) (hc F1 H g w _ fun F2 H2 t1 => by
    cases k with
    | true => exact ha rfl F2 H2 (g.trans t1.gr) t1.ok _ fun v F3 H3 t2 r2 => q _ _ _ (t1.trans t2) r2
    | false => exact hb rfl F2 H2 (g.trans t1.gr) t1.ok _ fun v F3 H3 t2 r2 => q _ _ _ (t1.trans t2) r2)
/-- a op1 b op2 c, pure operands -/
theorem ze_chain {op op' : CmpOp} {dc : PyData} (h1 : CmpR X op F O da db k1) (h2 : CmpR X op' F O db dc k2) (ha : ZE X a σ F O da O) (hb : ZE X b σ F O db O) (hc : ZE X c σ F O dc O) (hm : lastMarks [op, op'] [b, c] = false := by with_unfolding_all rfl) :
    ZE X (.Compare a [op, op'] [b, c] pos) σ F O (.bool (k1 && k2)) O := fun F1 H g w Q q => by
  obtain ⟨r1, ho1, hr1⟩ := h1.r
  obtain ⟨r2, ho2, hr2⟩ := h2.r
  refine wE_of (pe_chain ho1 ho2 pe_w pe_w pe_w hm) (ha F1 H g w _ fun x F2 H2 s1 q1 => hb F2 H2 (g.trans s1.gr) s1.ok _ fun y F3 H3 s2 q2 => hr1 F3 H3 x y (g.trans (s1.gr.trans s2.gr)) s2.ok (q1.mono s2.gr) q2 _ ⟨k1, rfl, ?_⟩)
  cases k1 with
  | true => exact hc F3 H3 (g.trans (s1.gr.trans s2.gr)) s2.ok _ fun z F4 H4 s3 q3 => hr2 F4 H4 y z (g.trans (s1.gr.trans (s2.gr.trans s3.gr))) s3.ok (q2.mono s3.gr) q3 _ (q _ _ _ (s1.trans (s2.trans s3)) (.bl _))
  | false => exact q _ _ _ (s1.trans s2) (.bl _)
theorem zt_chain {op op' : CmpOp} {dc : PyData} (h1 : CmpR X op F O da db k1) (h2 : CmpR X op' F O db dc k2) (ha : ZE X a σ F O da O) (hb : ZE X b σ F O db O) (hc : ZE X c σ F O dc O) (hm : lastMarks [op, op'] [b, c] = false := by with_unfolding_all rfl) :
    ZT X (.Compare a [op, op'] [b, c] pos) σ F O (k1 && k2) O := fun F1 H g w Q q => by
  obtain ⟨r1, ho1, hr1⟩ := h1.r
  obtain ⟨r2, ho2, hr2⟩ := h2.r
  refine wT_of (pt_chain ho1 ho2 pe_w pe_w pe_w hm) (ha F1 H g w _ fun x F2 H2 s1 q1 => hb F2 H2 (g.trans s1.gr) s1.ok _ fun y F3 H3 s2 q2 => hr1 F3 H3 x y (g.trans (s1.gr.trans s2.gr)) s2.ok (q1.mono s2.gr) q2 _ ⟨k1, rfl, ?_⟩)
  cases k1 with
  | true => exact hc F3 H3 (g.trans (s1.gr.trans s2.gr)) s2.ok _ fun z F4 H4 s3 q3 => hr2 F4 H4 y z (g.trans (s1.gr.trans (s2.gr.trans s3.gr))) s3.ok (q2.mono s3.gr) q3 _ ⟨_, rfl, q _ _ (s1.trans (s2.trans s3))⟩
  | false => exact ⟨_, rfl, q _ _ (s1.trans s2)⟩

/-! ### statements -/
variable {st : Stmt} {rest body els : List Stmt} {D : Ends} {n : Nat} {x : Str} {px : Pos}
theorem zs_nil (h : D.nx σ H) : ZS X [] σ H D := wSs_of pss_nil h
theorem zs_set (w : WOk F O H) (he : ZE X e σ F O d O1) (hN : X.N.Nodup) (hi : X.N[n]? = some x) (hx : Loc X.env.scope x) (kk : ∀ v F1 H1, Stp F O H F1 O1 H1 → R X.K F1 v d → ZS X rest (σ.set n (some v)) H1 D)
    (hs : swapsWith e (some (.Name x px)) pos.line X.env = pure false := by rfl) (hf : X.fn x = true ∨ X.env.scope.names.lookup x = some .local := by first | exact .inl rfl | exact .inr rfl | assumption) : ZS X (.Assign [.Name x px] e pos :: rest) σ H D :=
  wSs_of (pss_cons (ps_set hN hi hx pe_w hs hf) pss_w) (he F H Gr.refl w _ fun v F1 H1 s1 r1 => kk v F1 H1 s1 r1)
theorem zs_setN (w : WOk F O H) (he : ZN X e σ F O ds O1) (hN : X.N.Nodup) (hi : X.N[n]? = some x) (hx : Loc X.env.scope x) (kk : ∀ p vs F1 H1, H p = none → Stp F O H F1 ((p, .lst vs) :: O1) H1 → RA X.K F1 vs ds → ZS X rest (σ.set n (some (.ref p))) H1 D)
    (hs : swapsWith e (some (.Name x px)) pos.line X.env = pure false := by rfl) (hf : X.fn x = true ∨ X.env.scope.names.lookup x = some .local := by first | exact .inl rfl | exact .inr rfl | assumption) : ZS X (.Assign [.Name x px] e pos :: rest) σ H D :=
  wSs_of (pss_cons (ps_set hN hi hx pe_w hs hf) pss_w) (he F H Gr.refl w _ fun p vs F1 H1 hp s1 r1 => kk p vs F1 H1 hp s1 r1)
theorem zs_ret (w : WOk F O H) (he : ZE X e σ F O d O1) (kk : ∀ v F1 H1, Stp F O H F1 O1 H1 → R X.K F1 v d → D.rt v H1) : ZS X (.Return (some e) pos :: rest) σ H D :=
  wSs_of (pss_cons (ps_ret pe_w) pss_w) (he F H Gr.refl w _ fun v F1 H1 s1 r1 => kk v F1 H1 s1 r1)
theorem zs_retN (w : WOk F O H) (he : ZN X e σ F O ds O1) (kk : ∀ p vs F1 H1, H p = none → Stp F O H F1 ((p, .lst vs) :: O1) H1 → RA X.K F1 vs ds → D.rt (.ref p) H1) : ZS X (.Return (some e) pos :: rest) σ H D :=
  wSs_of (pss_cons (ps_ret pe_w) pss_w) (he F H Gr.refl w _ fun p vs F1 H1 hp s1 r1 => kk p vs F1 H1 hp s1 r1)
/-- return of a slot as it stands (a list that is mine) -/
theorem zs_retV {v : V} (hσ : σ[n]? = some (some v)) (kk : D.rt v H) (hN : X.N[n]? = some x := by rfl) (hv : Vis X.env.scope x := by first | exact Or.inl rfl | exact Or.inr (Or.inl rfl) | exact Or.inr (Or.inr rfl)) (hd : (x == ("__debug__" : Str)) = false := by decide)
    (hcd : (x == ("__classdict__" : Str)) = false := by decide) : ZS X (.Return (some (.Name x px)) pos :: rest) σ H D :=
  wSs_of (pss_cons (ps_ret (pe_var hN hv hd hcd)) pss_w) ⟨v, hσ, kk⟩
theorem zs_ret0 (kk : D.rt .non H) : ZS X (.Return none pos :: rest) σ H D := wSs_of (pss_cons ps_retN pss_w) kk
theorem zs_if (w : WOk F O H) (hc : ZT X c σ F O k O1) (h1 : k = true → ∀ F1 H1, Stp F O H F1 O1 H1 → ZS X body σ H1 { D with nx := fun σ' H' => ZS X rest σ' H' D }) (h2 : k = false → ∀ F1 H1, Stp F O H F1 O1 H1 → ZS X els σ H1 { D with nx := fun σ' H' => ZS X rest σ' H' D }) : ZS X (.If c body els pos :: rest) σ H D :=
  wSs_of (pss_cons (ps_if pt_w pss_w pss_w) pss_w) (hc F H Gr.refl w _ fun F1 H1 s1 => by
    cases k with
    | true => exact h1 rfl F1 H1 s1
    | false => exact h2 rfl F1 H1 s1)
theorem zs_brk (h : D.bk σ H) : ZS X (.Break pos :: rest) σ H D := wSs_of (pss_cons ps_break pss_w) h
theorem zs_cont (h : D.ct σ H) : ZS X (.Continue pos :: rest) σ H D := wSs_of (pss_cons ps_continue pss_w) h
theorem zs_pass (h : ZS X rest σ H D) : ZS X (.Pass pos :: rest) σ H D := wSs_of (pss_cons ps_pass pss_w) h
theorem zs_expr (w : WOk F O H) (he : ZE X e σ F O d O1) (kk : ∀ F1 H1, Stp F O H F1 O1 H1 → ZS X rest σ H1 D) (hs : swapsWith e none pos.line X.env = pure false := by rfl) : ZS X (.Expr e pos :: rest) σ H D :=
  wSs_of (pss_cons (ps_expr pe_w hs) pss_w) (he F H Gr.refl w _ fun v F1 H1 s1 r1 => kk F1 H1 s1)

/-! ### targets -/
theorem zg_name {v : V} {Q : L2.St → Hp → Prop} (hN : X.N.Nodup) (hi : X.N[n]? = some x) (hx : Loc X.env.scope x) (q : Q (σ.set n (some v)) H) (hf : X.fn x = true ∨ X.env.scope.names.lookup x = some .local := by first | exact .inl rfl | exact .inr rfl | assumption) : wG X (.Name x px) v σ H Q :=
  wG_of (pg_name hN hi hx hf) q
theorem zg_tup2 {m : Nat} {y : Str} {py : Pos} {kk : Nat} {v : V} {Q : L2.St → Hp → Prop} (hc : X.calm = true) (hN : X.N.Nodup) (hi : X.N[n]? = some x) (hx : Loc X.env.scope x) (hj : X.N[m]? = some y) (hy : Loc X.env.scope y) (r : R X.K F v (.tuple [da, db])) (w : WOk F O H)
    (q : ∀ v1 v2, R X.K F v1 da → R X.K F v2 db → Q ((σ.set n (some v1)).set m (some v2)) H) (hn : (assignEach [.Name x px, .Name y py] X.env).length = 2 := by rfl) (hst : (assignEach [.Name x px, .Name y py] X.env).findIdx? (·.1) = none := by rfl)
    (hs1 : (assignEach (.Name x px :: [.Name y py]) X.env).map (·.2) = assign (.Name x px) X.env :: (assignEach [.Name y py] X.env).map (·.2) := by rfl) (hs2 : (assignEach (.Name y py :: []) X.env).map (·.2) = assign (.Name y py) X.env :: (assignEach [] X.env).map (·.2) := by rfl)
    (hf : X.fn x = true ∨ X.env.scope.names.lookup x = some .local := by first | exact .inl rfl | exact .inr rfl | assumption) (hf2 : X.fn y = true ∨ X.env.scope.names.lookup y = some .local := by first | exact .inl rfl | exact .inr rfl | assumption) : wG X (.Tuple [.Name x px, .Name y py] kk pos) v σ H Q := by
  obtain ⟨l, xs, rfl, e1, a1⟩ := r.tup_inv
  obtain ⟨v1, v2, rfl, r1, r2⟩ := a1.two
  exact wG_of (pg_tup hc (pgs_cons (pg_name hN hi hx hf) (pgs_cons (pg_name hN hj hy hf2) pgs_nil hs2) hs1) hn hst) ⟨l, [v1, v2], rfl, w.sub.sqT e1, rfl, v1, [v2], rfl, v2, [], rfl, rfl, q v1 v2 r1 r2⟩
theorem zg_tup3 {m m3 : Nat} {y z : Str} {py pz : Pos} {kk : Nat} {v : V} {dc : PyData} {Q : L2.St → Hp → Prop} (hc : X.calm = true) (hN : X.N.Nodup) (hi : X.N[n]? = some x) (hx : Loc X.env.scope x) (hj : X.N[m]? = some y) (hy : Loc X.env.scope y) (hj3 : X.N[m3]? = some z) (hz : Loc X.env.scope z) (r : R X.K F v (.tuple [da, db, dc])) (w : WOk F O H)
    (q : ∀ v1 v2 v3, R X.K F v1 da → R X.K F v2 db → R X.K F v3 dc → Q (((σ.set n (some v1)).set m (some v2)).set m3 (some v3)) H) (hn : (assignEach [.Name x px, .Name y py, .Name z pz] X.env).length = 3 := by rfl) (hst : (assignEach [.Name x px, .Name y py, .Name z pz] X.env).findIdx? (·.1) = none := by rfl)
    (hs1 : (assignEach (.Name x px :: [.Name y py, .Name z pz]) X.env).map (·.2) = assign (.Name x px) X.env :: (assignEach [.Name y py, .Name z pz] X.env).map (·.2) := by rfl) (hs2 : (assignEach (.Name y py :: [.Name z pz]) X.env).map (·.2) = assign (.Name y py) X.env :: (assignEach [.Name z pz] X.env).map (·.2) := by rfl)
    (hs3 : (assignEach (.Name z pz :: []) X.env).map (·.2) = assign (.Name z pz) X.env :: (assignEach [] X.env).map (·.2) := by rfl)
    (hf : X.fn x = true ∨ X.env.scope.names.lookup x = some .local := by first | exact .inl rfl | exact .inr rfl | assumption) (hf2 : X.fn y = true ∨ X.env.scope.names.lookup y = some .local := by first | exact .inl rfl | exact .inr rfl | assumption) (hf3 : X.fn z = true ∨ X.env.scope.names.lookup z = some .local := by first | exact .inl rfl | exact .inr rfl | assumption) : wG X (.Tuple [.Name x px, .Name y py, .Name z pz] kk pos) v σ H Q := by
  obtain ⟨l, xs, rfl, e1, a1⟩ := r.tup_inv
  obtain ⟨v1, ws, rfl, r1, a2⟩ := a1.cons_inv
  obtain ⟨v2, v3, rfl, r2, r3⟩ := a2.two
  exact wG_of (pg_tup hc (pgs_cons (pg_name hN hi hx hf) (pgs_cons (pg_name hN hj hy hf2) (pgs_cons (pg_name hN hj3 hz hf3) pgs_nil hs3) hs2) hs1) hn hst) ⟨l, [v1, v2, v3], rfl, w.sub.sqT e1, rfl, v1, [v2, v3], rfl, v2, [v3], rfl, v3, [], rfl, rfl, q v1 v2 v3 r1 r2 r3⟩
/-- target = value -/
theorem zs_asg (w : WOk F O H) {tg : Expr} (he : ZE X e σ F O d O1) (kk : ∀ v F1 H1, Stp F O H F1 O1 H1 → R X.K F1 v d → wG X tg v σ H1 fun σ2 H2 => ZS X rest σ2 H2 D)
    (hs : swapsWithSole [tg] e pos.line X.env = pure false := by rfl) (hw : swappedStores [tg] e X.env = pure none := by rfl) (h1 : (assignEach [tg] X.env).map (·.2) = [assign tg X.env] := by rfl) : ZS X (.Assign [tg] e pos :: rest) σ H D :=
  wSs_of (pss_cons (ps_asg pe_w pg_w hs hw h1) pss_w) (he F H Gr.refl w _ fun v F1 H1 s1 r1 => kk v F1 H1 s1 r1)
/-- x += e, x -= e -/
theorem zs_augAdd (w : WOk F O H) (hσ : σ[n]? = some (some (.int i))) (he : ZE X e σ F O (.int j) O1) (hN : X.N.Nodup) (hi : X.N[n]? = some x) (hx : Loc X.env.scope x) (kk : ∀ F1 H1, Stp F O H F1 O1 H1 → ZS X rest (σ.set n (some (.int (i + j)))) H1 D)
    (hf : X.fn x = true ∨ X.env.scope.names.lookup x = some .local := by first | exact .inl rfl | exact .inr rfl | assumption) : ZS X (.AugAssign (.Name x px) .Add e pos :: rest) σ H D :=
  wSs_of (pss_cons (ps_aug hN hi hx pe_w ip_add hf) pss_w) ⟨_, hσ, he F H Gr.refl w _ fun v F1 H1 s1 r1 => ⟨i, j, rfl, r1.int_inv, kk F1 H1 s1⟩⟩
theorem zs_augSub (w : WOk F O H) (hσ : σ[n]? = some (some (.int i))) (he : ZE X e σ F O (.int j) O1) (hN : X.N.Nodup) (hi : X.N[n]? = some x) (hx : Loc X.env.scope x) (kk : ∀ F1 H1, Stp F O H F1 O1 H1 → ZS X rest (σ.set n (some (.int (i - j)))) H1 D)
    (hf : X.fn x = true ∨ X.env.scope.names.lookup x = some .local := by first | exact .inl rfl | exact .inr rfl | assumption) : ZS X (.AugAssign (.Name x px) .Sub e pos :: rest) σ H D :=
  wSs_of (pss_cons (ps_aug hN hi hx pe_w ip_sub hf) pss_w) ⟨_, hσ, he F H Gr.refl w _ fun v F1 H1 s1 r1 => ⟨i, j, rfl, r1.int_inv, kk F1 H1 s1⟩⟩

/-! ### lists that are mine -/
variable {m : Nat} {p : Addr} {vs : List V} {apos cpos : Pos}
theorem zs_append (w : WOk F O H) (n m : Nat) (hσ : σ[n]? = some (some (.ref p))) (he : ZE X e σ F O d O1) (hO : O1[m]? = some (p, .lst vs)) (hz : vs.length < sizeLine) (kk : ∀ v F1 H1, Stp F O H F1 (O1.set m (p, .lst (vs ++ [v]))) H1 → R X.K F1 v d → ZS X rest σ H1 D)
    (hN : X.N[n]? = some x := by rfl) (hO0 : ∃ o, O[m]? = some (p, .lst o) := by exact ⟨_, rfl⟩) (hv : Vis X.env.scope x := by first | exact Or.inl rfl | exact Or.inr (Or.inl rfl) | exact Or.inr (Or.inr rfl)) (hd : (x == ("__debug__" : Str)) = false := by decide) (hcd : (x == ("__classdict__" : Str)) = false := by decide)
    (hs : swapsWith (.Call (.Attribute (.Name x px) "append" apos) [e] [] cpos) none pos.line X.env = pure false := by rfl)
    (hbase : attributeBase (.Name x px) "append" X.env (eval (.Name x px) X.env) = eval (.Name x px) X.env := by rfl)
    (hfew : ((backTo cpos (starEach (e :: []) X.env)).all (fun x => !x.1) && (backToKw cpos (keywordEach [] X.env)).all (fun x => x.1.isSome)
      && decide ((e :: []).length + ([] : List Keyword).length + (if ([] : List Keyword).isEmpty then 0 else 1) < 30)) = true := by rfl)
    (hline : (apos.endLine == cpos.line) = true := by rfl) (hse : starEach (e :: []) X.env = (false, eval e X.env) :: starEach [] X.env := by rfl) (hplain : (backTo cpos (starEach [] X.env)).any (·.1) = false := by rfl) :
    ZS X (.Expr (.Call (.Attribute (.Name x px) "append" apos) [e] [] cpos) pos :: rest) σ H D := by
  obtain ⟨o0, hO0⟩ := hO0
  refine wSs_of (pss_cons (ps_expr (pe_bm PySem.F.plainAttrs_list PySem.F.slot_list_append PySem.F.type_list_append mt_append (pe_var hN hv hd hcd) (pa_cons pe_w pa_nil hse) hbase hfew hline hse hplain) hs) pss_w) ?_
  refine ⟨_, hσ, .inl ⟨rfl, _, .inl (.inl (w.at_ hO0).1)⟩, he F H Gr.refl w _ fun v F1 H1 s1 r1 => ?_⟩
  exact ⟨p, vs, v, rfl, rfl, (s1.ok.at_ hO).1, hz, kk v _ _ (s1.trans (Stp.write s1.ok hO (by show (vs ++ [v]).length ≤ _; rw [List.length_append]; exact hz))) r1⟩
theorem zs_reverse (w : WOk F O H) (n m : Nat) (hσ : σ[n]? = some (some (.ref p))) (hO : O[m]? = some (p, .lst vs)) (kk : ∀ H1, Stp F O H F (O.set m (p, .lst vs.reverse)) H1 → ZS X rest σ H1 D)
    (hN : X.N[n]? = some x := by rfl) (hv : Vis X.env.scope x := by first | exact Or.inl rfl | exact Or.inr (Or.inl rfl) | exact Or.inr (Or.inr rfl)) (hd : (x == ("__debug__" : Str)) = false := by decide) (hcd : (x == ("__classdict__" : Str)) = false := by decide)
    (hs : swapsWith (.Call (.Attribute (.Name x px) "reverse" apos) [] [] cpos) none pos.line X.env = pure false := by rfl)
    (hbase : attributeBase (.Name x px) "reverse" X.env (eval (.Name x px) X.env) = eval (.Name x px) X.env := by rfl)
    (hline : (apos.endLine == cpos.line) = true := by rfl) : ZS X (.Expr (.Call (.Attribute (.Name x px) "reverse" apos) [] [] cpos) pos :: rest) σ H D := by
  refine wSs_of (pss_cons (ps_expr (pe_bm0 PySem.F.plainAttrs_list PySem.F.slot_list_reverse PySem.F.type_list_reverse mt_reverse (pe_var hN hv hd hcd) hbase hline) hs) pss_w) ?_
  exact ⟨_, hσ, .inl ⟨rfl, _, .inl (.inl (w.at_ hO).1)⟩, p, vs, rfl, rfl, (w.at_ hO).1, kk _ (Stp.write w hO (by show vs.reverse.length ≤ _; rw [List.length_reverse]; exact w.szo _ (List.mem_of_getElem? hO) _ rfl))⟩
theorem zs_setItem (w : WOk F O H) (n m : Nat) {ie : Expr} {ip : Pos} {q : Nat} (hσ : σ[n]? = some (some (.ref p))) (he : ZE X e σ F O d O1) (hi : ZE X ie σ F O1 (.int i) O1) (hO : O1[m]? = some (p, .lst vs)) (hq : ixN vs.length i = some q) (kk : ∀ v F1 H1, Stp F O H F1 (O1.set m (p, .lst (vs.set q v))) H1 → R X.K F1 v d → ZS X rest σ H1 D)
    (hN : X.N[n]? = some x := by rfl) (hv : Vis X.env.scope x := by first | exact Or.inl rfl | exact Or.inr (Or.inl rfl) | exact Or.inr (Or.inr rfl)) (hd : (x == ("__debug__" : Str)) = false := by decide) (hcd : (x == ("__classdict__" : Str)) = false := by decide)
    (hs : swapsWithSole [.Subscript (.Name x px) ie ip] e pos.line X.env = pure false := by rfl) (hw : swappedStores [.Subscript (.Name x px) ie ip] e X.env = pure none := by rfl) (h1 : (assignEach [.Subscript (.Name x px) ie ip] X.env).map (·.2) = [assign (.Subscript (.Name x px) ie ip) X.env] := by rfl)
    (ha : ∀ v, assign (.Subscript (.Name x px) ie ip) X.env v = (do
      let ov ← holding [v] (eval (.Name x px) X.env)
      let iv ← holding [v, ov] (eval ie X.env)
      standAt ip
      holding [v, ov, iv] (setItem ov iv v)
      release [v, ov, iv] []) := by intro _; rfl) : ZS X (.Assign [.Subscript (.Name x px) ie ip] e pos :: rest) σ H D := by
  refine wSs_of (pss_cons (ps_asg pe_w (pg_sub (pe_var hN hv hd hcd) pe_w set_list ha) hs hw h1) pss_w) ?_
  refine he F H Gr.refl w _ fun v F1 H1 s1 r1 => ⟨_, hσ, hi F1 H1 s1.gr s1.ok _ fun iv F2 H2 s2 r2 => ?_⟩
  exact ⟨p, vs, i, q, rfl, r2.int_inv, (s2.ok.at_ hO).1, hq, kk v _ _ (s1.trans (s2.trans (Stp.write s2.ok hO (by show (vs.set q v).length ≤ _; rw [List.length_set]; exact s2.ok.szo _ (List.mem_of_getElem? hO) _ rfl)))) (r1.mono s2.gr)⟩
end
end Z

end
section
namespace Z
open PySem PySem.Spec PyProof.Rows L2

/-! ### what is walked -/
/-- the walk gives the data ds, one after another, while F stays -/
structure Walks (K : PySem.W.Frag) (J : It) (F : Hp) (ds : List PyData) : Prop where
  sz : ds.length ≤ sizeLine
  go : ∀ F3 O3 H3, Gr F F3 → WOk F3 O3 H3 → ∀ i, i < ds.length → J.go i H3
  stop : ∀ F3 O3 H3, Gr F F3 → WOk F3 O3 H3 → ∀ i, ds.length ≤ i → J.stop i H3
  yld : ∀ F3 O3 H3, Gr F F3 → WOk F3 O3 H3 → ∀ i x H' d, ds[i]? = some d → J.yld i H3 x H' → ∃ F', Stp F3 O3 H3 F' O3 H' ∧ R K F' x d
def ZI (X : Cx) (tg iter : Expr) (σ : L2.St) (F : Hp) (O : Own) (ds : List PyData) (O' : Own) : Prop :=
  ∀ F1 H, Gr F F1 → WOk F1 O H → ∀ Q : It → Hp → Prop, (∀ J F2 H2, Stp F1 O H F2 O' H2 → Walks X.K J F2 ds → Q J H2) → wI X tg iter σ H Q
section
variable {K : PySem.W.Frag} {F F' H H' : Hp} {a : Addr} {xs : List V} {ds : List PyData}
theorem walks_list (e : F a = some (.lst xs)) (r : RA K F xs ds) (hz : ds.length ≤ sizeLine) : Walks K (Itl K a) F ds where
  sz := hz
  go := fun F3 O3 H3 g w i hi => ⟨xs, xs[i]'(by rw [r.len]; exact hi), .inl (.inl (w.sub _ _ (g _ _ e))), List.getElem?_eq_getElem _⟩
  stop := fun F3 O3 H3 g w i hi => ⟨xs, .inl (.inl (w.sub _ _ (g _ _ e))), by rw [r.len]; exact hi⟩
  yld := fun F3 O3 H3 g w i x H' d hd y => by
    obtain ⟨rfl, y⟩ := y
    have hx := y xs (.inl (.inl (w.sub _ _ (g _ _ e))))
    exact ⟨F3, Stp.refl w, (r.at_ i x d hx hd).mono g⟩
theorem walks_tup (e : SqT K F a xs) (r : RA K F xs ds) (hz : ds.length ≤ sizeLine) : Walks K (Itt K a) F ds where
  sz := hz
  go := fun F3 O3 H3 g w i hi => ⟨xs, xs[i]'(by rw [r.len]; exact hi), w.sub.sqT (g.sqT e), List.getElem?_eq_getElem _⟩
  stop := fun F3 O3 H3 g w i hi => ⟨xs, w.sub.sqT (g.sqT e), by rw [r.len]; exact hi⟩
  yld := fun F3 O3 H3 g w i x H' d hd y => by
    obtain ⟨rfl, y⟩ := y
    have hx := y xs (w.sub.sqT (g.sqT e))
    exact ⟨F3, Stp.refl w, (r.at_ i x d hx hd).mono g⟩
/-- lo, lo + 1, .. below hi -/
def rangeI (lo hi : Int) : List Int := (List.range (hi - lo).toNat).map fun i => lo + (i : Nat)
theorem rangeI_length (lo hi : Int) : (rangeI lo hi).length = (hi - lo).toNat := by simp [rangeI]
theorem walks_range {lo hi : Int} (hz : (hi - lo).toNat ≤ sizeLine) : Walks K (Itr lo (hi - lo).toNat) F ((rangeI lo hi).map .int) where
  sz := by simpa [rangeI] using hz
  go := fun F3 O3 H3 g w i h => by
    show i < (hi - lo).toNat
    rw [List.length_map, rangeI_length] at h
    exact h
  stop := fun F3 O3 H3 g w i h => by
    show (hi - lo).toNat ≤ i
    rw [List.length_map, rangeI_length] at h
    exact h
  yld := fun F3 O3 H3 g w i x H' d hd y => by
    obtain ⟨rfl, rfl⟩ := y
    refine ⟨F3, Stp.refl w, ?_⟩
    rw [List.getElem?_map] at hd
    cases z : (rangeI lo hi)[i]? with
    | none => rw [z] at hd; cases hd
    | some n =>
      rw [z] at hd; cases hd
      unfold rangeI at z
      rw [List.getElem?_map] at z
      cases y : (List.range (hi - lo).toNat)[i]? with
      | none => rw [y] at z; cases z
      | some q =>
        rw [y] at z; cases z
        have : q = i := by
          have := List.getElem?_eq_some_iff.mp y
          obtain ⟨_, h⟩ := this
          simpa using h.symm
        subst this
        exact .int _
theorem walks_enum (e : F a = some (.lst xs)) (r : RA K F xs ds) (hz : ds.length ≤ sizeLine) : Walks K (Ite K a) F (ds.zipIdx.map fun p => .tuple [.int (p.2 : Nat), p.1]) where
  sz := by simpa using hz
  go := fun F3 O3 H3 g w i hi => ⟨xs, xs[i]'(by rw [r.len]; simpa using hi), .inl (.inl (w.sub _ _ (g _ _ e))), List.getElem?_eq_getElem _⟩
  stop := fun F3 O3 H3 g w i hi => ⟨xs, .inl (.inl (w.sub _ _ (g _ _ e))), by rw [r.len]; simpa using hi⟩
  yld := fun F3 O3 H3 g w i x H' d hd y => by
    obtain ⟨T, v, rfl, hT, rfl, y⟩ := y
    have hx := y xs (.inl (.inl (w.sub _ _ (g _ _ e))))
    obtain ⟨d', hd', rv⟩ := r.get' hx
    have ed : d = .tuple [.int (i : Nat), d'] := by
      rw [List.getElem?_map, List.getElem?_zipIdx, hd'] at hd
      simpa using hd.symm
    subst ed
    have st := Stp.tupF (vs := [.int (i : Nat), v]) w hT
    exact ⟨_, st, ((RA.cons (.int _) (.cons (rv.mono (g.trans st.gr)) .nil)).tup upd_same)⟩
end
section
variable {X : Cx} {e a b c tg iter elt : Expr} {es : List Expr} {σ : L2.St} {F H : Hp} {O O1 O2 O3 : Own} {d da db : PyData} {ds rs : List PyData} {pos p : Pos} {i j : Int} {k k1 k2 : Bool}
theorem zi_list (h : ZE X e σ F O (.list ds) O1) : ZI X tg e σ F O ds O1 := fun F1 H g w Q q =>
  wI_of (pi_list pe_w) (h F1 H g w _ fun v F2 H2 s1 r1 => by
    have hz := r1.size s1.ok
    obtain ⟨l, xs, rfl, e1, a1⟩ := r1.lst_inv
    exact ⟨l, rfl, ⟨xs, .inl (.inl (s1.ok.sub _ _ e1))⟩, q _ _ _ s1 (walks_list e1 a1 hz)⟩)
theorem zi_tup (h : ZE X e σ F O (.tuple ds) O1) (hz : ds.length ≤ sizeLine := by show _ ≤ (16777216 : Nat); exact Nat.le_of_ble_eq_true rfl) : ZI X tg e σ F O ds O1 := fun F1 H g w Q q =>
  wI_of (pi_tup pe_w) (h F1 H g w _ fun v F2 H2 s1 r1 => by
    obtain ⟨l, xs, rfl, e1, a1⟩ := r1.tup_inv
    exact ⟨l, rfl, ⟨xs, s1.ok.sub.sqT e1⟩, q _ _ _ s1 (walks_tup e1 a1 hz)⟩)
theorem szL : (16777216 : Nat) = sizeLine := by show (16777216 : Nat) = _; rw [sizeLine_eq]
theorem zi_range1 (hm : X.mg "range" = none) (ha : ZE X a σ F O (.int i) O1) (hi : -16777216 ≤ i ∧ i ≤ 16777216) (hg : Gl X "range" := by rfl) (hs : starEach [a] X.env = [(false, eval a X.env)] := by rfl) : ZI X tg (.Call (.Name "range" p) [a] [] pos) σ F O ((rangeI 0 i).map .int) O1 := fun F1 H g w Q q =>
  wI_of (pi_range1 hg hm pa_w hs) (za_cons ha za_nil hs F1 H g w _ fun vs F2 H2 s1 r1 => by
    obtain ⟨v, rfl, r⟩ := r1.one
    refine ⟨i, by rw [r.int_inv], by omega, by omega, ?_⟩
    have e0 : i.toNat = (i - 0).toNat := by simp
    rw [e0]
    exact q _ _ _ s1 (walks_range (by rw [← szL]; omega)))
theorem zi_range2 (hm : X.mg "range" = none) (ha : ZE X a σ F O (.int i) O1) (hb : ZE X b σ F O1 (.int j) O2) (hi : -16777216 ≤ i ∧ i ≤ 16777216 ∧ -16777216 ≤ j ∧ j ≤ 16777216 ∧ j - i ≤ 16777216) (hg : Gl X "range" := by rfl) (hs : starEach [a, b] X.env = [(false, eval a X.env), (false, eval b X.env)] := by rfl) (hs2 : starEach [b] X.env = [(false, eval b X.env)] := by rfl) : ZI X tg (.Call (.Name "range" p) [a, b] [] pos) σ F O ((rangeI i j).map .int) O2 := fun F1 H g w Q q =>
  wI_of (pi_range2 hg hm pa_w hs hs2) (za_cons ha (za_cons hb za_nil hs2) (by rw [hs, hs2]) F1 H g w _ fun vs F2 H2 s1 r1 => by
    obtain ⟨v, u, rfl, r, r2⟩ := r1.two
    exact ⟨i, j, by rw [r.int_inv, r2.int_inv], ⟨by omega, by omega, by omega, by omega⟩, q _ _ _ s1 (walks_range (by rw [← szL]; omega))⟩)
theorem zi_enum {tpos : Pos} {elts : List Expr} {kk : Nat} (hm : X.mg "enumerate" = none) (h : ZE X e σ F O (.list ds) O1) (hg : Gl X "enumerate" := by rfl) (hs : starEach [e] X.env = [(false, eval e X.env)] := by rfl) : ZI X (.Tuple elts kk tpos) (.Call (.Name "enumerate" p) [e] [] pos) σ F O (ds.zipIdx.map fun p => .tuple [.int (p.2 : Nat), p.1]) O1 := fun F1 H g w Q q =>
  wI_of (pi_enum hg hm pa_w hs) (za_cons h za_nil hs F1 H g w _ fun vs F2 H2 s1 r1 => by
    obtain ⟨v, rfl, r⟩ := r1.one
    have hz := r.size s1.ok
    obtain ⟨l, xs, rfl, e1, a1⟩ := r.lst_inv
    exact ⟨l, xs, rfl, .inl (.inl (s1.ok.sub _ _ e1)), q _ _ _ s1 (walks_enum e1 a1 hz)⟩)

/-! ### for, while -/
variable {body rest : List Stmt} {D : Ends}
/-- a turn's ends -/
abbrev turnEnds (D : Ends) (F : Hp) (O : Own) (H : Hp) (Rel : L2.St → Hp → Own → Prop) (brk : L2.St → Hp → Prop) : Ends :=
  { nx := fun σ3 H3 => ∃ F3 O3, Stp F O H F3 O3 H3 ∧ Rel σ3 F3 O3, rt := D.rt, bk := brk, ct := fun σ3 H3 => ∃ F3 O3, Stp F O H F3 O3 H3 ∧ Rel σ3 F3 O3 }
theorem wG_mono {v : V} {Q Q' : L2.St → Hp → Prop} (h : wG X tg v σ H Q) (q : ∀ σ H, Q σ H → Q' σ H) : wG X tg v σ H Q' := fun pins s u I r => thn (h pins s u I r) fun _ s' ⟨σ', H', I', h'⟩ => ⟨σ', H', I', q _ _ h'⟩
theorem wSs_mono {D D' : Ends} (h : wSs X body D σ H) (h1 : ∀ σ H, D.nx σ H → D'.nx σ H) (h2 : ∀ v H, D.rt v H → D'.rt v H) (h3 : ∀ σ H, D.bk σ H → D'.bk σ H) (h4 : ∀ σ H, D.ct σ H → D'.ct σ H) : wSs X body D' σ H := fun pins s I => thn (h pins s I) fun fl s' q => by
  cases fl with
  | next => obtain ⟨σ', H', I', q⟩ := q; exact ⟨σ', H', I', h1 _ _ q⟩
  | ret u => obtain ⟨v, σ', H', I', r, q⟩ := q; exact ⟨v, σ', H', I', r, h2 _ _ q⟩
  | brk => obtain ⟨σ', H', I', q⟩ := q; exact ⟨σ', H', I', h3 _ _ q⟩
  | cont => obtain ⟨σ', H', I', q⟩ := q; exact ⟨σ', H', I', h4 _ _ q⟩
theorem zs_for (w : WOk F O H) (hp : PassesOwn (model X.prog X.w) X.A X.env X.xe) (hc : X.calm = true) (hi : ZI X tg iter σ F O ds O1) (Rel : Nat → L2.St → Hp → Own → Prop)
    (h0 : ∀ F1 H1, Stp F O H F1 O1 H1 → Rel 0 σ F1 O1)
    (hb : ∀ i d x σ' F0 F' O' H', ds[i]? = some d → ds.length ≤ sizeLine → Rel i σ' F0 O' → Gr F0 F' → Stp F O H F' O' H' → R X.K F' x d → wG X tg x σ' H' fun σ2 H2 => ZS X body σ2 H2 (turnEnds D F' O' H' (Rel (i + 1)) fun σ3 H3 => ZS X rest σ3 H3 D))
    (hd : ∀ σ' F' O' H', Stp F O H F' O' H' → Rel ds.length σ' F' O' → ZS X rest σ' H' D)
    (hs : ∀ x, foldedSetIterable iter X.env x = pure x := by intro _; rfl) : ZS X (.For tg iter body [] pos :: rest) σ H D := by
  refine wSs_of (pss_cons (ps_for hp hc pi_w pg_w pss_w hs) pss_w) ?_
  refine hi F H Gr.refl w _ fun J F1 H1 s1 wk => ?_
  refine ⟨fun i m σ' H' => m = ds.length - i ∧ i ≤ ds.length ∧ ∃ F' O', Gr F1 F' ∧ Stp F O H F' O' H' ∧ Rel i σ' F' O', ⟨ds.length, by simp, Nat.zero_le _, F1, O1, Gr.refl, s1, h0 F1 H1 s1⟩, ?_⟩
  rintro i m σ' H' ⟨rfl, hle, F', O', g, st, rel⟩
  by_cases hlt : i < ds.length
  · refine .inr ⟨wk.go F' O' H' g st.ok i hlt, fun σ3 H3 => ∃ F3 O3, Gr F1 F3 ∧ Stp F O H F3 O3 H3 ∧ Rel (i + 1) σ3 F3 O3, fun σ3 H3 ⟨F3, O3, g3, s3, r3⟩ => ⟨ds.length - (i + 1), by omega, rfl, hlt, F3, O3, g3, s3, r3⟩, fun x H2 y => ?_⟩
    obtain ⟨F2, s2, rx⟩ := wk.yld F' O' H' g st.ok i x H2 ds[i] (List.getElem?_eq_getElem hlt) y
    refine wG_mono (hb i ds[i] x σ' F' F2 O' H2 (List.getElem?_eq_getElem hlt) wk.sz rel s2.gr (st.trans s2) rx) fun σ3 H3 hz => ?_
    have fin : ∀ σ4 H4, (∃ F3 O3, Stp F2 O' H2 F3 O3 H4 ∧ Rel (i + 1) σ4 F3 O3) → ∃ F3 O3, Gr F1 F3 ∧ Stp F O H F3 O3 H4 ∧ Rel (i + 1) σ4 F3 O3 := fun σ4 H4 ⟨F3, O3, s3, r3⟩ =>
      ⟨F3, O3, g.trans (s2.gr.trans s3.gr), st.trans (s2.trans s3), r3⟩
    exact wSs_mono hz fin (fun _ _ q => q) (fun _ _ q => q) fin
  · have ei : i = ds.length := by omega
    subst ei
    exact .inl ⟨wk.stop F' O' H' g st.ok _ (Nat.le_refl _), hd σ' F' O' H' st rel⟩
/-- while: the word Rel by a measure -/
theorem zs_while (w : WOk F O H) (hp : PassesOwn (model X.prog X.w) X.A X.env X.xe) (Rel : Nat → L2.St → Hp → Own → Prop) (m : Nat) (h0 : Rel m σ F O)
    (hb : ∀ m σ' F' O' H', Stp F O H F' O' H' → Rel m σ' F' O' → ∃ k O2, ZT X c σ' F' O' k O2 ∧ ∀ F2 H2, Stp F' O' H' F2 O2 H2 →
      (k = true → ZS X body σ' H2 (turnEnds D F' O' H' (fun σ3 F3 O3 => ∃ m', m' < m ∧ Rel m' σ3 F3 O3) fun σ3 H3 => ZS X rest σ3 H3 D)) ∧ (k = false → ZS X rest σ' H2 D)) : ZS X (.While c body [] pos :: rest) σ H D := by
  refine wSs_of (pss_cons (ps_while hp pt_w pss_w) pss_w) ?_
  refine ⟨fun m σ' H' => ∃ F' O', Stp F O H F' O' H' ∧ Rel m σ' F' O', ⟨m, F, O, Stp.refl w, h0⟩, ?_⟩
  rintro m σ' H' ⟨F', O', st, rel⟩
  obtain ⟨k, O2, zt, hk⟩ := hb m σ' F' O' H' st rel
  refine zt F' H' Gr.refl st.ok _ fun F2 H2 s2 => ?_
  obtain ⟨h1, h2⟩ := hk F2 H2 s2
  cases k with
  | false => exact h2 rfl
  | true =>
    refine ⟨fun σ4 H4 => ∃ m', m' < m ∧ ∃ F3 O3, Stp F O H F3 O3 H4 ∧ Rel m' σ4 F3 O3, fun σ4 H4 ⟨m', hm, F3, O3, s3, r3⟩ => ⟨m', hm, F3, O3, s3, r3⟩, ?_⟩
    have fin : ∀ σ4 H4, (∃ F3 O3, Stp F' O' H' F3 O3 H4 ∧ ∃ m', m' < m ∧ Rel m' σ4 F3 O3) → ∃ m', m' < m ∧ ∃ F3 O3, Stp F O H F3 O3 H4 ∧ Rel m' σ4 F3 O3 := fun σ4 H4 ⟨F3, O3, s3, m', hm, r3⟩ => ⟨m', hm, F3, O3, st.trans s3, r3⟩
    exact wSs_mono (h1 rfl) fin (fun _ _ q => q) (fun _ _ q => q) fin

/-! ### comprehensions -/
/-- the reading of a comprehension of one for: own state S i and result r i of the i-th item -/
theorem lc_read {wi : TI} {g : TG} {tt : TT} {te : TE} {vs : List Nat} {K : PySem.W.Frag} (S : Nat → Own) (r : Nat → Option PyData)
    (hi : ∀ F1 H, Gr F F1 → WOk F1 O H → ∀ Q : It → Hp → Prop, (∀ J F2 H2, Stp F1 O H F2 (S 0) H2 → Walks K J F2 ds → Q J H2) → wi σ H Q)
    (hb : ∀ i d x F' H', ds[i]? = some d → Gr F F' → WOk F' (S i) H' → R K F' x d → ∀ (Q1 : V → Hp → Prop) (Q0 : Hp → Prop), (∀ v F2 H2 y, r i = some y → Stp F' (S i) H' F2 (S (i + 1)) H2 → R K F2 v y → Q1 v H2) → (∀ F2 H2, r i = none → Stp F' (S i) H' F2 (S (i + 1)) H2 → Q0 H2) →
      g x (wipe σ vs) H' fun σ2 H2 => wipe σ2 vs = wipe σ vs ∧ tt σ2 H2 fun b H3 => if b = true then te σ2 H3 Q1 else Q0 H3)
    {F1 H : Hp} (g1 : Gr F F1) (w : WOk F1 O H) {Q : VK} (q : ∀ p us F2 H2, H p = none → Stp F1 O H F2 ((p, .lst us) :: S ds.length) H2 → RA K F2 us ((List.range ds.length).filterMap r) → Q (.ref p) H2) : tLc wi g tt te vs σ H Q := by
  refine hi F1 H g1 w _ fun J F2 H2 s1 wk => fun D hD => ?_
  have hD0 : H D = none := by
    cases z : H D with
    | none => rfl
    | some u => exact absurd hD (s1.dom D (by rw [z]; simp))
  refine ⟨fun i m H' => m = ds.length - i ∧ i ≤ ds.length ∧ ∃ F' us, us.length ≤ i ∧ Gr F2 F' ∧ Stp F1 O H F' ((D, .lst us) :: S i) H' ∧ RA K F' us ((List.range i).filterMap r), ⟨ds.length, by simp, Nat.zero_le _, F2, [], Nat.le_refl _, Gr.refl, s1.trans (Stp.alloc s1.ok hD (Nat.zero_le _)), .nil⟩, ?_⟩
  rintro i m H' ⟨rfl, hle, F', us, hu, g2, st, ra⟩
  by_cases hlt : i < ds.length
  · refine .inr ⟨wk.go F' _ H' g2 st.ok i hlt, fun H3 => ∃ F3 us', us'.length ≤ i + 1 ∧ Gr F2 F3 ∧ Stp F1 O H F3 ((D, .lst us') :: S (i + 1)) H3 ∧ RA K F3 us' ((List.range (i + 1)).filterMap r), fun H3 ⟨F3, us', h1, h2, h3, h4⟩ => ⟨ds.length - (i + 1), by omega, rfl, hlt, F3, us', h1, h2, h3, h4⟩, fun x H3 y => ?_⟩
    obtain ⟨F3, s2, rx⟩ := wk.yld F' _ H' g2 st.ok i x H3 ds[i] (List.getElem?_eq_getElem hlt) y
    have g3 : Gr F F3 := g1.trans (s1.gr.trans (g2.trans s2.gr))
    refine hb i ds[i] x F3 H3 (List.getElem?_eq_getElem hlt) g3 s2.ok.tail rx _ _ (fun v F4 H4 y hy s3 r3 => ?_) fun F4 H4 hy s3 => ?_
    · have s4 := Stp.cons s2.ok s3
      have s5 := st.trans (s2.trans s4)
      have hz : us.length < sizeLine := Nat.lt_of_le_of_lt hu (Nat.lt_of_lt_of_le hlt wk.sz)
      have s6 := Stp.write (o' := .lst (us ++ [v])) s5.ok (k := 0) rfl (by show (us ++ [v]).length ≤ _; rw [List.length_append]; exact hz)
      refine ⟨us, (s5.ok.own (D, .lst us) List.mem_cons_self).1, hz, F4, us ++ [v], ?_, g2.trans (s2.gr.trans s3.gr), s5.trans s6, ?_⟩
      · rw [List.length_append]; exact Nat.succ_le_succ hu
      · rw [List.range_succ, List.filterMap_append]
        have e1 : [i].filterMap r = [y] := by rw [List.filterMap_cons, hy]; rfl
        rw [e1]
        exact (ra.mono (s2.gr.trans s3.gr)).snoc r3
    · have s4 := Stp.cons s2.ok s3
      refine ⟨F4, us, Nat.le_succ_of_le hu, g2.trans (s2.gr.trans s3.gr), st.trans (s2.trans s4), ?_⟩
      rw [List.range_succ, List.filterMap_append]
      have e1 : [i].filterMap r = [] := by rw [List.filterMap_cons, hy]; rfl
      rw [e1, List.append_nil]
      exact ra.mono (s2.gr.trans s3.gr)
  · have ei : i = ds.length := by omega
    subst ei
    exact .inl ⟨wk.stop F' _ H' g2 st.ok _ (Nat.le_refl _), q D us F' H' hD0 st ra⟩

variable {scope : Scope} {ifs : List Expr} {x y : Str} {px py spos : Pos} {n n2 : Nat}
/-- the block of a comprehension -/
abbrev blkX (X : Cx) (scope : Scope) (s : Shared) (H : Hp) (C : Addr) (cl : List (Str × Addr)) (fp : List Addr) : Cx := X.blk s H scope (compEnvC scope cl C X.env) fp
def uE (X : Cx) (scope : Scope) (e : Expr) : TE := fun σ H Q => ∀ s H0 C cl fp, wE (blkX X scope s H0 C cl fp) e σ H Q
def uT (X : Cx) (scope : Scope) (e : Expr) : TT := fun σ H Q => ∀ s H0 C cl fp, wT (blkX X scope s H0 C cl fp) e σ H Q
theorem pe_u (s : Shared) (H : Hp) (C : Addr) (cl : List (Str × Addr)) (fp : List Addr) : PE (blkX X scope s H C cl fp) e (uE X scope e) := ⟨fun pins s' _ _ _ I h => h s H C cl fp pins s' I⟩
theorem pt_u (s : Shared) (H : Hp) (C : Addr) (cl : List (Str × Addr)) (fp : List Addr) : PT (blkX X scope s H C cl fp) e (uT X scope e) := ⟨fun pins s' _ _ _ I h => h s H C cl fp pins s' I⟩
/-- a comprehension's body over items of a list of Lean values: each keeps the state and gives f a, where pr a -/
structure Blk1 (X : Cx) (scope : Scope) (n : Nat) (elt : Expr) (ifs : List Expr) (σ : L2.St) (F : Hp) {α β γ : Type} (G : β → Own) (enc : α → PyData) (encR : γ → PyData) (xs : List α) (f : β → α → Option γ × β) (tt : TT) : Prop where
  pts : ∀ s H C cl fp, PTs (blkX X scope s H C cl fp) ifs tt
  run : ∀ st a v F' H', a ∈ xs → Gr F F' → WOk F' (G st) H' → R X.K F' v (enc a) → ∀ (Q1 : V → Hp → Prop) (Q0 : Hp → Prop),
    (∀ v F2 H2 y, (f st a).1 = some y → Stp F' (G st) H' F2 (G (f st a).2) H2 → R X.K F2 v (encR y) → Q1 v H2) → (∀ F2 H2, (f st a).1 = none → Stp F' (G st) H' F2 (G (f st a).2) H2 → Q0 H2) →
    tt (σ.set n (some v)) H' fun b H3 => if b = true then uE X scope elt (σ.set n (some v)) H3 Q1 else Q0 H3
def runS {α β γ : Type} (f : β → α → Option γ × β) : β → List α → List γ × β
  | s, [] => ([], s)
  | s, a :: as => ((match (f s a).1 with | some y => y :: (runS f (f s a).2 as).1 | none => (runS f (f s a).2 as).1), (runS f (f s a).2 as).2)
def stS {α β γ : Type} (f : β → α → Option γ × β) (s : β) (xs : List α) : Nat → β
  | 0 => s
  | i + 1 => match xs[i]? with | some a => (f (stS f s xs i) a).2 | none => stS f s xs i
theorem stS_cons {α β γ : Type} (f : β → α → Option γ × β) (s : β) (a : α) (xs : List α) : ∀ i, stS f s (a :: xs) (i + 1) = stS f (f s a).2 xs i
  | 0 => rfl
  | i + 1 => by
    show (match (a :: xs)[i + 1]? with | some b => (f (stS f s (a :: xs) (i + 1)) b).2 | none => stS f s (a :: xs) (i + 1)) = _
    rw [stS_cons f s a xs i, List.getElem?_cons_succ]
    rfl
theorem stS_run {α β γ : Type} (f : β → α → Option γ × β) : ∀ (xs : List α) (s : β), stS f s xs xs.length = (runS f s xs).2
  | [], s => rfl
  | a :: xs, s => by
    rw [List.length_cons, stS_cons, stS_run f xs]
    rfl
theorem runS_eq {α β γ : Type} (f : β → α → Option γ × β) (enc : γ → PyData) : ∀ (xs : List α) (s : β), (List.range xs.length).filterMap (fun i => (xs[i]?).bind fun a => (f (stS f s xs i) a).1.map enc) = (runS f s xs).1.map enc
  | [], s => rfl
  | a :: xs, s => by
    rw [List.length_cons, List.range_succ_eq_map, List.filterMap_cons, List.filterMap_map]
    have ih := runS_eq f enc xs (f s a).2
    have e1 : ((fun i => ((a :: xs)[i]?).bind fun b => (f (stS f s (a :: xs) i) b).1.map enc) ∘ Nat.succ) = fun i => (xs[i]?).bind fun b => (f (stS f (f s a).2 xs i) b).1.map enc := by
      funext i
      show ((a :: xs)[i + 1]?).bind _ = _
      rw [List.getElem?_cons_succ, stS_cons]
    rw [e1, ih]
    have e2 : (((a :: xs)[0]?).bind fun b => (f (stS f s (a :: xs) 0) b).1.map enc) = (f s a).1.map enc := rfl
    rw [e2]
    cases h : (f s a).1 with
    | none => simp only [Option.map_none, runS, h]
    | some y => simp only [Option.map_some, runS, h, List.map_cons]
variable {α β γ : Type} {G : β → Own} {enc : α → PyData} {encR : γ → PyData} {xs : List α} {f : β → α → Option γ × β} {st0 : β} {tt : TT}
theorem lc1_read {g : TG} (hg0 : g = gName n) (hi : ZI X tg iter σ F O (xs.map enc) (G st0)) (B : Blk1 X scope n elt ifs σ F G enc encR xs f tt) {F1 H : Hp} (g1 : Gr F F1) (w : WOk F1 O H) {Q : VK}
    (q : ∀ p us F2 H2, H p = none → Stp F1 O H F2 ((p, .lst us) :: G (runS f st0 xs).2) H2 → RA X.K F2 us ((runS f st0 xs).1.map encR) → Q (.ref p) H2) : tLc (wI X tg iter) g tt (uE X scope elt) [n] σ H Q := by
  subst hg0
  refine lc_read (fun i => G (stS f st0 xs i)) (fun i => (xs[i]?).bind fun a => (f (stS f st0 xs i) a).1.map encR) (fun F1 H g1 w Q q => hi F1 H g1 w Q q) (fun i d v F' H' hd gg ww rr Q1 Q0 h1 h0 => ?_) g1 w (fun p us F2 H2 hp s2 ra => ?_)
  · rw [List.getElem?_map] at hd
    cases ha : xs[i]? with
    | none => rw [ha] at hd; cases hd
    | some a =>
      rw [ha] at hd; cases hd
      have es : stS f st0 xs (i + 1) = (f (stS f st0 xs i) a).2 := by show (match xs[i]? with | some a => _ | none => _) = _; rw [ha]
      rw [ha] at h1 h0
      rw [es] at h1 h0
      have e1 : (wipe σ [n]).set n (some v) = σ.set n (some v) := by
        show (σ.set n none).set n (some v) = _
        rw [List.set_set]
      refine ⟨?_, ?_⟩
      · show ((wipe σ [n]).set n (some v)).set n none = σ.set n none
        rw [e1, List.set_set]
      · rw [e1]
        refine B.run _ a v F' H' (List.mem_of_getElem? ha) gg ww rr Q1 Q0 (fun v F2 H2 y hy s r => h1 v F2 H2 (encR y) (by show Option.map encR _ = _; rw [hy]; rfl) s r) fun F2 H2 hy s => h0 F2 H2 (by show Option.map encR _ = _; rw [hy]; rfl) s
  · rw [List.length_map] at s2 ra
    rw [stS_run] at s2
    rw [runS_eq] at ra
    exact q p us F2 H2 hp s2 ra
theorem zn_lc1 (hc : X.calm = true) (hN : X.N.Nodup) (hi : ZI X (.Name x px) iter σ F O (xs.map enc) (G st0)) (B : Blk1 X scope n elt ifs σ F G enc encR xs f tt) (ok : BlkOk X.N X.env.scope scope [(x, n)])
    (hg : ∀ s H C cl fp, PG (blkX X scope s H C cl fp) (.Name x px) (gName n)) (hs : ∀ x, foldedSetIterable iter X.env x = pure x := by intro _; rfl) :
    ZN X (.ListComp elt [⟨.Name x px, iter, ifs, 0⟩] scope pos) σ F O ((runS f st0 xs).1.map encR) (G (runS f st0 xs).2) := fun F1 H g1 w Q q =>
  wE_of (pe_lc hc hN pi_w ok hg B.pts pe_u hs) (lc1_read rfl hi B g1 w q)
theorem zs_setLc1 (w : WOk F O H) {i : Nat} {rest : List Stmt} {D : Ends} (hc : X.calm = true) (hN : X.N.Nodup) (hi : ZI X (.Name x px) iter σ F O (xs.map enc) (G st0)) (B : Blk1 X scope n elt ifs σ F G enc encR xs f tt) (ok : BlkOk X.N X.env.scope scope [(x, n)])
    (hg : ∀ s H C cl fp, PG (blkX X scope s H C cl fp) (.Name x px) (gName n)) (hy : X.N[i]? = some y) (hyl : X.env.scope.names.lookup y = some .local)
    (kk : ∀ p us F1 H1, H p = none → Stp F O H F1 ((p, .lst us) :: G (runS f st0 xs).2) H1 → RA X.K F1 us ((runS f st0 xs).1.map encR) → ZS X rest (σ.set i (some (.ref p))) H1 D)
    (hsw : swapsWith (.ListComp elt [⟨.Name x px, iter, ifs, 0⟩] scope pos) (some (.Name y py)) spos.line X.env = pure true) (hs : ∀ x, foldedSetIterable iter X.env x = pure x := by intro _; rfl) :
    ZS X (.Assign [.Name y py] (.ListComp elt [⟨.Name x px, iter, ifs, 0⟩] scope pos) spos :: rest) σ H D :=
  wSs_of (pss_cons (ps_setLc hc hN hy hyl hsw pi_w ok hg B.pts pe_u hs) pss_w) (lc1_read (Q := fun v H' => ZS X rest (σ.set i (some v)) H' D) rfl hi B Gr.refl w fun p us F2 H2 hp s ra => kk p us F2 H2 hp s ra)

/-! the bodies: pure or with a state, with or without a test -/
theorem blk_map {f0 : α → γ} {O : Own} (he : ∀ s H0 C cl fp a v F', a ∈ xs → Gr F F' → R X.K F' v (enc a) → ZE (blkX X scope s H0 C cl fp) elt (σ.set n (some v)) F' O (encR (f0 a)) O) :
    Blk1 X scope n elt [] σ F (fun (_ : Unit) => O) enc encR xs (fun _ a => (some (f0 a), ())) tYes where
  pts := fun s H C cl fp => pts_nil
  run := fun st a v F' H' ha g w r Q1 Q0 h1 h0 => by
    show (if true = true then uE X scope elt (σ.set n (some v)) H' Q1 else Q0 H')
    rw [if_pos rfl]
    intro s H0 C cl fp
    exact he s H0 C cl fp a v F' ha g r F' H' Gr.refl w _ fun u F2 H2 s2 r2 => h1 u F2 H2 _ rfl s2 r2
theorem blk_filter {f0 : α → γ} {O : Own} {c : Expr} {pr : α → Bool} (hc : ∀ s H0 C cl fp a v F', a ∈ xs → Gr F F' → R X.K F' v (enc a) → ZT (blkX X scope s H0 C cl fp) c (σ.set n (some v)) F' O (pr a) O)
    (he : ∀ s H0 C cl fp a v F', a ∈ xs → pr a = true → Gr F F' → R X.K F' v (enc a) → ZE (blkX X scope s H0 C cl fp) elt (σ.set n (some v)) F' O (encR (f0 a)) O) :
    Blk1 X scope n elt [c] σ F (fun (_ : Unit) => O) enc encR xs (fun _ a => (if pr a then some (f0 a) else none, ())) (uT X scope c) where
  pts := fun s H C cl fp => pts_one (pt_u s H C cl fp)
  run := fun st a v F' H' ha g w r Q1 Q0 h1 h0 => by
    intro s H0 C cl fp
    refine hc s H0 C cl fp a v F' ha g r F' H' Gr.refl w _ fun F2 H2 s2 => ?_
    cases hp : pr a with
    | true =>
      rw [if_pos rfl]
      intro s H0 C cl fp
      exact he s H0 C cl fp a v F2 ha hp (g.trans s2.gr) (r.mono s2.gr) F2 H2 Gr.refl s2.ok _ fun u F3 H3 s3 r3 => h1 u F3 H3 _ (by rw [hp]; rfl) (s2.trans s3) r3
    | false =>
      rw [if_neg (by decide)]
      exact h0 F2 H2 (by rw [hp]; rfl) s2
theorem blk_state {f0 : β → α → γ × β} (he : ∀ s H0 C cl fp st a v F', a ∈ xs → Gr F F' → R X.K F' v (enc a) → ZE (blkX X scope s H0 C cl fp) elt (σ.set n (some v)) F' (G st) (encR (f0 st a).1) (G (f0 st a).2)) :
    Blk1 X scope n elt [] σ F G enc encR xs (fun st a => (some (f0 st a).1, (f0 st a).2)) tYes where
  pts := fun s H C cl fp => pts_nil
  run := fun st a v F' H' ha g w r Q1 Q0 h1 h0 => by
    show (if true = true then uE X scope elt (σ.set n (some v)) H' Q1 else Q0 H')
    rw [if_pos rfl]
    intro s H0 C cl fp
    exact he s H0 C cl fp st a v F' ha g r F' H' Gr.refl w _ fun u F2 H2 s2 r2 => h1 u F2 H2 _ rfl s2 r2
theorem runS_map {f0 : α → γ} : ∀ xs : List α, (runS (fun (_ : Unit) a => (some (f0 a), ())) () xs).1 = xs.map f0
  | [] => rfl
  | a :: xs => by show _ :: _ = _; rw [runS_map xs]; rfl
theorem runS_filter {f0 : α → γ} {pr : α → Bool} : ∀ xs : List α, (runS (fun (_ : Unit) a => (if pr a then some (f0 a) else none, ())) () xs).1 = (xs.filter pr).map f0
  | [] => rfl
  | a :: xs => by
    show (match (if pr a then some (f0 a) else none) with | some y => _ | none => _) = _
    rw [List.filter_cons]
    cases hp : pr a with
    | true => rw [if_pos rfl, if_pos rfl, List.map_cons, ← runS_filter xs]
    | false => rw [if_neg (by decide), if_neg (by decide), ← runS_filter xs]
/-- the state threaded: the results, the last state -/
def mapS (f0 : β → α → γ × β) : β → List α → List γ × β
  | s, [] => ([], s)
  | s, a :: as => ((f0 s a).1 :: (mapS f0 (f0 s a).2 as).1, (mapS f0 (f0 s a).2 as).2)
theorem runS_state {f0 : β → α → γ × β} : ∀ (xs : List α) (s : β), runS (fun st a => (some (f0 st a).1, (f0 st a).2)) s xs = mapS f0 s xs
  | [], s => rfl
  | a :: xs, s => by
    show (_ :: _, _) = (_ :: _, _)
    rw [runS_state xs]
end
end Z

end
section
namespace Z
open PySem PySem.Spec PyProof.Rows L2

/-! ### Lean values as data -/
abbrev eI : Int → PyData := PyData.int
abbrev eB : Bool → PyData := PyData.bool
abbrev eS : Str → PyData := PyData.str
abbrev eU : Unit → PyData := fun _ => PyData.none
abbrev eL {α : Type} (e : α → PyData) (xs : List α) : PyData := .list (xs.map e)
abbrev eTL {α : Type} (e : α → PyData) (xs : List α) : PyData := .tuple (xs.map e)
abbrev eT2 {α β : Type} (e1 : α → PyData) (e2 : β → PyData) (p : α × β) : PyData := .tuple [e1 p.1, e2 p.2]
abbrev eT3 {α β γ : Type} (e1 : α → PyData) (e2 : β → PyData) (e3 : γ → PyData) (p : α × β × γ) : PyData := .tuple [e1 p.1, e2 p.2.1, e3 p.2.2]
abbrev eT4 {α β γ δ : Type} (e1 : α → PyData) (e2 : β → PyData) (e3 : γ → PyData) (e4 : δ → PyData) (p : α × β × γ × δ) : PyData := .tuple [e1 p.1, e2 p.2.1, e3 p.2.2.1, e4 p.2.2.2]
def eO {α : Type} (e : α → PyData) : Option α → PyData
  | none => .none
  | some x => e x
theorem atI_0 {α : Type} {a : α} {l : List α} : atI (a :: l) 0 = some a := by simp [atI, ixN]
theorem atI_1 {α : Type} {a b : α} {l : List α} : atI (a :: b :: l) 1 = some b := by
  have : (1 : Int) < (l.length : Int) + 1 + 1 := by omega
  simp [atI, ixN, this]
theorem atI_2 {α : Type} {a b c : α} {l : List α} : atI (a :: b :: c :: l) 2 = some c := by
  have : (2 : Int) < (l.length : Int) + 1 + 1 + 1 := by omega
  simp [atI, ixN, this]
theorem atI_3 {α : Type} {a b c d : α} {l : List α} : atI (a :: b :: c :: d :: l) 3 = some d := by
  have : (3 : Int) < (l.length : Int) + 1 + 1 + 1 + 1 := by omega
  simp [atI, ixN, this]
theorem atI_4 {α : Type} {a b c d e : α} {l : List α} : atI (a :: b :: c :: d :: e :: l) 4 = some e := by
  have : (4 : Int) < (l.length : Int) + 1 + 1 + 1 + 1 + 1 := by omega
  simp [atI, ixN, this]
/-- xs[i] -/
def ixL {α : Type} [Inhabited α] (xs : List α) (i : Int) : α := (atI xs i).getD default
theorem ixN_in {n : Nat} {i : Int} (h : -(n : Int) ≤ i ∧ i < n) : ∃ j, ixN n i = some j ∧ j < n := by
  unfold ixN
  by_cases h0 : 0 ≤ i
  · rw [if_pos h0, if_pos h.2]
    exact ⟨_, rfl, by omega⟩
  · rw [if_neg h0, if_pos h.1]
    exact ⟨_, rfl, by omega⟩
theorem atI_in {α : Type} [Inhabited α] {xs : List α} {i : Int} (h : -(xs.length : Int) ≤ i ∧ i < xs.length) : atI xs i = some (ixL xs i) := by
  obtain ⟨j, hj, hl⟩ := ixN_in h
  unfold ixL atI
  rw [hj]
  show xs[j]? = some (xs[j]?.getD default)
  rw [List.getElem?_eq_getElem hl]; rfl
theorem atI_map {α : Type} [Inhabited α] {xs : List α} {i : Int} {e : α → PyData} (h : -(xs.length : Int) ≤ i ∧ i < xs.length) : atI (xs.map e) i = some (e (ixL xs i)) := by
  have h1 := atI_in h
  unfold atI at h1 ⊢
  rw [List.length_map]
  cases q : ixN xs.length i with
  | none => rw [q] at h1; cases h1
  | some j =>
    rw [q] at h1
    show (xs.map e)[j]? = _
    have h1 : xs[j]? = some (ixL xs i) := h1
    rw [List.getElem?_map, h1]; rfl
theorem ixL_mem {α : Type} [Inhabited α] {xs : List α} {i : Int} (h : -(xs.length : Int) ≤ i ∧ i < xs.length) : ixL xs i ∈ xs := by
  have h1 := atI_in h
  unfold atI at h1
  cases q : ixN xs.length i with
  | none => rw [q] at h1; cases h1
  | some j =>
    rw [q] at h1
    have h1 : xs[j]? = some (ixL xs i) := h1
    exact List.mem_of_getElem? h1
theorem cutD_map {α : Type} {xs : List α} {e : α → PyData} {lo hi : Option Int} : cutD (xs.map e) lo hi = (cutD xs lo hi).map e := by
  unfold cutD
  rw [List.length_map, List.map_take, List.map_drop]

section
variable {X : Cx} {e a b c tg iter elt : Expr} {es : List Expr} {σ : L2.St} {F H : Hp} {O O1 O2 O3 : Own} {d da db : PyData} {ds rs : List PyData} {pos p : Pos} {i j : Int} {k k1 k2 : Bool}
theorem zn_eq {rs' : List PyData} (h : ZN X e σ F O rs O1) (q : rs = rs') : ZN X e σ F O rs' O1 := q ▸ h
theorem zn_ze {α : Type} {enc : α → PyData} {xs : List α} (h : ZN X e σ F O (xs.map enc) O1) : ZE X e σ F O (eL enc xs) O1 := h.ze
/-- typed -/
theorem ze_ixLt {α : Type} [Inhabited α] {enc : α → PyData} {xs : List α} (ha : ZE X a σ F O (eL enc xs) O1) (hb : ZE X b σ F O1 (.int i) O2) (h : -(xs.length : Int) ≤ i ∧ i < xs.length) (hs : PlainIx b := by exact fun _ _ => rfl) : ZE X (.Subscript a b pos) σ F O (enc (ixL xs i)) O2 :=
  ze_ixL ha hb (atI_map h) hs
theorem ze_ixTt {α : Type} [Inhabited α] {enc : α → PyData} {xs : List α} (ha : ZE X a σ F O (eTL enc xs) O1) (hb : ZE X b σ F O1 (.int i) O2) (h : -(xs.length : Int) ≤ i ∧ i < xs.length) (hs : PlainIx b := by exact fun _ _ => rfl) : ZE X (.Subscript a b pos) σ F O (enc (ixL xs i)) O2 :=
  ze_ixT ha hb (atI_map h) hs
theorem ze_ixOt {α : Type} [Inhabited α] {enc : α → PyData} {xs : List α} (n m : Nat) {x : Str} {px : Pos} {p : Addr} {vs : List V} (hσ : σ[n]? = some (some (.ref p))) (hb : ZE X b σ F O (.int i) O1) (hO : O1[m]? = some (p, .lst vs)) (hr : RA X.K F vs (xs.map enc)) (h : -(xs.length : Int) ≤ i ∧ i < xs.length)
    (hN : X.N[n]? = some x := by rfl) (hv : Vis X.env.scope x := by first | exact Or.inl rfl | exact Or.inr (Or.inl rfl) | exact Or.inr (Or.inr rfl)) (hs : PlainIx b := by exact fun _ _ => rfl) (hd : (x == ("__debug__" : Str)) = false := by decide)
    (hcd : (x == ("__classdict__" : Str)) = false := by decide) : ZE X (.Subscript (.Name x px) b pos) σ F O (enc (ixL xs i)) O1 := ze_ixO n m hσ hb hO hr (atI_map h) hN hv hs hd hcd
variable {lo hi : Option Expr} {p2 : Pos} {l u : Option Int}
theorem zn_slt {α : Type} {enc : α → PyData} {xs : List α} (ha : ZE X a σ F O (eL enc xs) O1) (hl : ZO X lo σ F O1 l O2) (hu : ZO X hi σ F O2 u O3) : ZN X (.Subscript a (.Slice lo hi none p2) pos) σ F O ((cutD xs l u).map enc) O3 := zn_eq (zn_sl ha hl hu) cutD_map
theorem zn_slOt {α : Type} {enc : α → PyData} {xs : List α} (n m : Nat) {x : Str} {px : Pos} {p : Addr} {vs : List V} (hσ : σ[n]? = some (some (.ref p))) (hl : ZO X lo σ F O l O2) (hu : ZO X hi σ F O2 u O3) (hO : O3[m]? = some (p, .lst vs)) (hr : RA X.K F vs (xs.map enc))
    (hN : X.N[n]? = some x := by rfl) (hv : Vis X.env.scope x := by first | exact Or.inl rfl | exact Or.inr (Or.inl rfl) | exact Or.inr (Or.inr rfl)) (hd : (x == ("__debug__" : Str)) = false := by decide)
    (hcd : (x == ("__classdict__" : Str)) = false := by decide) : ZN X (.Subscript (.Name x px) (.Slice lo hi none p2) pos) σ F O ((cutD xs l u).map enc) O3 := zn_eq (zn_slO n m hσ hl hu hO hr hN hv hd hcd) cutD_map
theorem ze_lenLt {α : Type} {enc : α → PyData} {xs : List α} (hm : X.mg "len" = none) (ha : ZE X e σ F O (eL enc xs) O1) (hg : Gl X "len" := by rfl) (he : starEach [e] X.env = (false, eval e X.env) :: starEach [] X.env := by rfl) (hpl : (backTo pos (starEach [] X.env)).any (·.1) = false := by rfl) : ZE X (.Call (.Name "len" p) [e] [] pos) σ F O (eI (xs.length : Nat)) O1 :=
  ze_eq (ze_lenL hm ha hg he hpl) (by rw [List.length_map])
theorem ze_lenTt {α : Type} {enc : α → PyData} {xs : List α} (hm : X.mg "len" = none) (ha : ZE X e σ F O (eTL enc xs) O1) (hg : Gl X "len" := by rfl) (he : starEach [e] X.env = (false, eval e X.env) :: starEach [] X.env := by rfl) (hpl : (backTo pos (starEach [] X.env)).any (·.1) = false := by rfl) : ZE X (.Call (.Name "len" p) [e] [] pos) σ F O (eI (xs.length : Nat)) O1 :=
  ze_eq (ze_lenT hm ha hg he hpl) (by rw [List.length_map])
theorem ze_lenOt {α : Type} {enc : α → PyData} {xs : List α} (n m : Nat) {x : Str} {px : Pos} {q : Addr} {vs : List V} (hm : X.mg "len" = none) (hσ : σ[n]? = some (some (.ref q))) (hO : O[m]? = some (q, .lst vs)) (hr : RA X.K F vs (xs.map enc)) (hN : X.N[n]? = some x := by rfl)
    (hv : Vis X.env.scope x := by first | exact Or.inl rfl | exact Or.inr (Or.inl rfl) | exact Or.inr (Or.inr rfl)) (hg : Gl X "len" := by rfl) (hd : (x == ("__debug__" : Str)) = false := by decide) (hcd : (x == ("__classdict__" : Str)) = false := by decide)
    (he : starEach [.Name x px] X.env = (false, eval (.Name x px) X.env) :: starEach [] X.env := by rfl) (hpl : (backTo pos (starEach [] X.env)).any (·.1) = false := by rfl) : ZE X (.Call (.Name "len" p) [.Name x px] [] pos) σ F O (eI (xs.length : Nat)) O :=
  ze_eq (ze_lenO n m hm hσ hO hr hN hv hg hd hcd he hpl) (by rw [List.length_map])
theorem zn_catt {α : Type} {enc : α → PyData} {xs ys : List α} (ha : ZE X a σ F O (eL enc xs) O1) (hb : ZE X b σ F O1 (eL enc ys) O2) (h : xs.length + ys.length ≤ sizeLine) : ZN X (.BinOp a .Add b pos) σ F O ((xs ++ ys).map enc) O2 :=
  zn_eq (zn_cat ha hb (by rw [List.length_map, List.length_map]; exact h)) (List.map_append).symm
theorem zt_trLt {α : Type} {enc : α → PyData} {xs : List α} (h : ZE X e σ F O (eL enc xs) O1) (he : ∀ whole, isTrue e X.env whole = (do let v ← whole; standAt e.pos; holding [v] (truthy v)) := by intro _; rfl) : ZT X e σ F O (!xs.isEmpty) O1 := zt_eq (zt_trL h he) (by rw [List.isEmpty_map])
theorem zt_trOt {α : Type} {enc : α → PyData} {xs : List α} (n m : Nat) {x : Str} {p : Addr} {vs : List V} (hσ : σ[n]? = some (some (.ref p))) (hO : O[m]? = some (p, .lst vs)) (hr : RA X.K F vs (xs.map enc)) (hN : X.N[n]? = some x := by rfl)
    (hv : Vis X.env.scope x := by first | exact Or.inl rfl | exact Or.inr (Or.inl rfl) | exact Or.inr (Or.inr rfl)) (hd : (x == ("__debug__" : Str)) = false := by decide) (hcd : (x == ("__classdict__" : Str)) = false := by decide)
    (he : ∀ whole, isTrue (.Name x pos) X.env whole = (do let v ← whole; standAt (Expr.Name x pos).pos; holding [v] (truthy v)) := by intro _; rfl) : ZT X (.Name x pos) σ F O (!xs.isEmpty) O := zt_eq (zt_trO n m hσ hO hr hN hv hd hcd he) (by rw [List.isEmpty_map])

/-! ### comprehensions over names, typed -/
variable {scope : Scope} {ifs : List Expr} {x y : Str} {px py spos : Pos} {n : Nat} {α β γ : Type} {enc : α → PyData} {encR : γ → PyData} {xs : List α}
theorem zn_lcM {f0 : α → γ} (hc : X.calm = true) (hN : X.N.Nodup) (hi : ZI X (.Name x px) iter σ F O (xs.map enc) O1) (he : ∀ s H0 C cl fp a v F', a ∈ xs → Gr F F' → R X.K F' v (enc a) → ZE (blkX X scope s H0 C cl fp) elt (σ.set n (some v)) F' O1 (encR (f0 a)) O1)
    (ok : BlkOk X.N X.env.scope scope [(x, n)]) (hg : ∀ s H C cl fp, PG (blkX X scope s H C cl fp) (.Name x px) (gName n)) (hs : ∀ x, foldedSetIterable iter X.env x = pure x := by intro _; rfl) :
    ZN X (.ListComp elt [⟨.Name x px, iter, [], 0⟩] scope pos) σ F O ((xs.map f0).map encR) O1 :=
  zn_eq (zn_lc1 hc hN hi (blk_map he) ok hg hs) (by rw [runS_map])
theorem zn_lcF {f0 : α → γ} {pr : α → Bool} {c : Expr} (hc : X.calm = true) (hN : X.N.Nodup) (hi : ZI X (.Name x px) iter σ F O (xs.map enc) O1) (ht : ∀ s H0 C cl fp a v F', a ∈ xs → Gr F F' → R X.K F' v (enc a) → ZT (blkX X scope s H0 C cl fp) c (σ.set n (some v)) F' O1 (pr a) O1)
    (he : ∀ s H0 C cl fp a v F', a ∈ xs → pr a = true → Gr F F' → R X.K F' v (enc a) → ZE (blkX X scope s H0 C cl fp) elt (σ.set n (some v)) F' O1 (encR (f0 a)) O1)
    (ok : BlkOk X.N X.env.scope scope [(x, n)]) (hg : ∀ s H C cl fp, PG (blkX X scope s H C cl fp) (.Name x px) (gName n)) (hs : ∀ x, foldedSetIterable iter X.env x = pure x := by intro _; rfl) :
    ZN X (.ListComp elt [⟨.Name x px, iter, [c], 0⟩] scope pos) σ F O (((xs.filter pr).map f0).map encR) O1 :=
  zn_eq (zn_lc1 hc hN hi (blk_filter ht he) ok hg hs) (by rw [runS_filter])
theorem zn_lcS {G : β → Own} {st0 : β} {f0 : β → α → γ × β} (hc : X.calm = true) (hN : X.N.Nodup) (hi : ZI X (.Name x px) iter σ F O (xs.map enc) (G st0)) (he : ∀ s H0 C cl fp st a v F', a ∈ xs → Gr F F' → R X.K F' v (enc a) → ZE (blkX X scope s H0 C cl fp) elt (σ.set n (some v)) F' (G st) (encR (f0 st a).1) (G (f0 st a).2))
    (ok : BlkOk X.N X.env.scope scope [(x, n)]) (hg : ∀ s H C cl fp, PG (blkX X scope s H C cl fp) (.Name x px) (gName n)) (hs : ∀ x, foldedSetIterable iter X.env x = pure x := by intro _; rfl) :
    ZN X (.ListComp elt [⟨.Name x px, iter, [], 0⟩] scope pos) σ F O ((mapS f0 st0 xs).1.map encR) (G (mapS f0 st0 xs).2) := by
  have h := zn_lc1 (pos := pos) hc hN hi (blk_state he) ok hg hs
  rw [runS_state] at h
  exact h
variable {i0 : Nat} {rest : List Stmt} {D : Ends}
theorem zs_setLcM (w : WOk F O H) {f0 : α → γ} (hc : X.calm = true) (hN : X.N.Nodup) (hi : ZI X (.Name x px) iter σ F O (xs.map enc) O1) (he : ∀ s H0 C cl fp a v F', a ∈ xs → Gr F F' → R X.K F' v (enc a) → ZE (blkX X scope s H0 C cl fp) elt (σ.set n (some v)) F' O1 (encR (f0 a)) O1)
    (ok : BlkOk X.N X.env.scope scope [(x, n)]) (hg : ∀ s H C cl fp, PG (blkX X scope s H C cl fp) (.Name x px) (gName n)) (hy : X.N[i0]? = some y) (hyl : X.env.scope.names.lookup y = some .local)
    (hsw : swapsWith (.ListComp elt [⟨.Name x px, iter, [], 0⟩] scope pos) (some (.Name y py)) spos.line X.env = pure true)
    (kk : ∀ p us F1 H1, H p = none → Stp F O H F1 ((p, .lst us) :: O1) H1 → RA X.K F1 us ((xs.map f0).map encR) → ZS X rest (σ.set i0 (some (.ref p))) H1 D) (hs : ∀ x, foldedSetIterable iter X.env x = pure x := by intro _; rfl) :
    ZS X (.Assign [.Name y py] (.ListComp elt [⟨.Name x px, iter, [], 0⟩] scope pos) spos :: rest) σ H D :=
  zs_setLc1 w hc hN hi (blk_map he) ok hg hy hyl (fun p us F1 H1 hp s r => kk p us F1 H1 hp s (by rw [runS_map] at r; exact r)) hsw hs
theorem zs_setLcF (w : WOk F O H) {f0 : α → γ} {pr : α → Bool} {c : Expr} (hc : X.calm = true) (hN : X.N.Nodup) (hi : ZI X (.Name x px) iter σ F O (xs.map enc) O1) (ht : ∀ s H0 C cl fp a v F', a ∈ xs → Gr F F' → R X.K F' v (enc a) → ZT (blkX X scope s H0 C cl fp) c (σ.set n (some v)) F' O1 (pr a) O1)
    (he : ∀ s H0 C cl fp a v F', a ∈ xs → pr a = true → Gr F F' → R X.K F' v (enc a) → ZE (blkX X scope s H0 C cl fp) elt (σ.set n (some v)) F' O1 (encR (f0 a)) O1)
    (ok : BlkOk X.N X.env.scope scope [(x, n)]) (hg : ∀ s H C cl fp, PG (blkX X scope s H C cl fp) (.Name x px) (gName n)) (hy : X.N[i0]? = some y) (hyl : X.env.scope.names.lookup y = some .local)
    (hsw : swapsWith (.ListComp elt [⟨.Name x px, iter, [c], 0⟩] scope pos) (some (.Name y py)) spos.line X.env = pure true)
    (kk : ∀ p us F1 H1, H p = none → Stp F O H F1 ((p, .lst us) :: O1) H1 → RA X.K F1 us (((xs.filter pr).map f0).map encR) → ZS X rest (σ.set i0 (some (.ref p))) H1 D) (hs : ∀ x, foldedSetIterable iter X.env x = pure x := by intro _; rfl) :
    ZS X (.Assign [.Name y py] (.ListComp elt [⟨.Name x px, iter, [c], 0⟩] scope pos) spos :: rest) σ H D :=
  zs_setLc1 w hc hN hi (blk_filter ht he) ok hg hy hyl (fun p us F1 H1 hp s r => kk p us F1 H1 hp s (by rw [runS_filter] at r; exact r)) hsw hs
theorem zs_setLcS (w : WOk F O H) {G : β → Own} {st0 : β} {f0 : β → α → γ × β} (hc : X.calm = true) (hN : X.N.Nodup) (hi : ZI X (.Name x px) iter σ F O (xs.map enc) (G st0)) (he : ∀ s H0 C cl fp st a v F', a ∈ xs → Gr F F' → R X.K F' v (enc a) → ZE (blkX X scope s H0 C cl fp) elt (σ.set n (some v)) F' (G st) (encR (f0 st a).1) (G (f0 st a).2))
    (ok : BlkOk X.N X.env.scope scope [(x, n)]) (hg : ∀ s H C cl fp, PG (blkX X scope s H C cl fp) (.Name x px) (gName n)) (hy : X.N[i0]? = some y) (hyl : X.env.scope.names.lookup y = some .local)
    (hsw : swapsWith (.ListComp elt [⟨.Name x px, iter, [], 0⟩] scope pos) (some (.Name y py)) spos.line X.env = pure true)
    (kk : ∀ p us F1 H1, H p = none → Stp F O H F1 ((p, .lst us) :: G (mapS f0 st0 xs).2) H1 → RA X.K F1 us ((mapS f0 st0 xs).1.map encR) → ZS X rest (σ.set i0 (some (.ref p))) H1 D) (hs : ∀ x, foldedSetIterable iter X.env x = pure x := by intro _; rfl) :
    ZS X (.Assign [.Name y py] (.ListComp elt [⟨.Name x px, iter, [], 0⟩] scope pos) spos :: rest) σ H D :=
  zs_setLc1 w hc hN hi (blk_state he) ok hg hy hyl (fun p us F1 H1 hp s r => kk p us F1 H1 hp (by rw [runS_state] at s; exact s) (by rw [runS_state] at r; exact r)) hsw hs

/-! ### typed loops -/
/-- a loop without an early end: a fold -/
theorem zs_forF (w : WOk F O H) {body : List Stmt} {f : β → α → β} {b0 : β} (hp : PassesOwn (model X.prog X.w) X.A X.env X.xe) (hc : X.calm = true) (hi : ZI X tg iter σ F O (xs.map enc) O1) (Rel : Nat → β → L2.St → Hp → Own → Prop)
    (h0 : ∀ F1 H1, Stp F O H F1 O1 H1 → Rel 0 b0 σ F1 O1)
    (hb : ∀ i b a v σ' F0 F' O' H', xs[i]? = some a → b = (xs.take i).foldl f b0 → xs.length ≤ sizeLine → Rel i b σ' F0 O' → Gr F0 F' → Stp F O H F' O' H' → R X.K F' v (enc a) → wG X tg v σ' H' fun σ2 H2 => ZS X body σ2 H2 (turnEnds D F' O' H' (Rel (i + 1) (f b a)) fun _ _ => False))
    (hd : ∀ σ' F' O' H', Stp F O H F' O' H' → Rel xs.length (xs.foldl f b0) σ' F' O' → ZS X rest σ' H' D)
    (hs : ∀ x, foldedSetIterable iter X.env x = pure x := by intro _; rfl) : ZS X (.For tg iter body [] pos :: rest) σ H D := by
  refine zs_for w hp hc hi (fun i σ' F' O' => Rel i ((xs.take i).foldl f b0) σ' F' O') (fun F1 H1 s => h0 F1 H1 s) (fun i d x σ' F0 F' O' H' hd hz rel g st r => ?_) (fun σ' F' O' H' st rel => hd σ' F' O' H' st (by rw [List.length_map, List.take_length] at rel; exact rel)) hs
  rw [List.getElem?_map] at hd
  cases ha : xs[i]? with
  | none => rw [ha] at hd; cases hd
  | some a =>
    rw [ha] at hd; cases hd
    have e1 : (xs.take (i + 1)).foldl f b0 = f ((xs.take i).foldl f b0) a := by
      rw [List.take_add_one, ha, List.foldl_append]; rfl
    rw [List.length_map] at hz
    refine wG_mono (hb i _ a x σ' F0 F' O' H' ha rfl hz rel g st r) fun σ2 H2 q => wSs_mono q (fun σ3 H3 ⟨F3, O3, s3, r3⟩ => ⟨F3, O3, s3, by rw [e1]; exact r3⟩) (fun _ _ q => q) (fun _ _ q => q.elim) (fun σ3 H3 ⟨F3, O3, s3, r3⟩ => ⟨F3, O3, s3, by rw [e1]; exact r3⟩)
/-- a turn's outcome: on, out by break, out by return -/
inductive Turn (β ρ : Type) where
  | nx (b : β) | bk (b : β) | rt (r : ρ)
inductive Out (β ρ : Type) where
  | nx (b : β) | rt (r : ρ)
def loopT {α β ρ : Type} (f : β → α → Turn β ρ) : β → List α → Out β ρ
  | b, [] => .nx b
  | b, x :: xs => match f b x with
    | .nx b' => loopT f b' xs
    | .bk b' => .nx b'
    | .rt r => .rt r
theorem loopT_nx {α β ρ : Type} {f : β → α → Turn β ρ} {b b' : β} {x : α} {xs : List α} (h : f b x = .nx b') : loopT f b (x :: xs) = loopT f b' xs := by
  show (match f b x with | .nx b' => _ | .bk b' => _ | .rt r => _) = _
  rw [h]
theorem loopT_bk {α β ρ : Type} {f : β → α → Turn β ρ} {b b' : β} {x : α} {xs : List α} (h : f b x = .bk b') : loopT f b (x :: xs) = .nx b' := by
  show (match f b x with | .nx b' => _ | .bk b' => _ | .rt r => _) = _
  rw [h]
theorem loopT_rt {α β ρ : Type} {f : β → α → Turn β ρ} {b : β} {r : ρ} {x : α} {xs : List α} (h : f b x = .rt r) : loopT f b (x :: xs) = .rt r := by
  show (match f b x with | .nx b' => _ | .bk b' => _ | .rt r => _) = _
  rw [h]
theorem zs_forT (w : WOk F O H) {body : List Stmt} {ρ : Type} {f : β → α → Turn β ρ} {b0 : β} (hp : PassesOwn (model X.prog X.w) X.A X.env X.xe) (hc : X.calm = true) (hi : ZI X tg iter σ F O (xs.map enc) O1) (Rel : Nat → β → L2.St → Hp → Own → Prop)
    (h0 : ∀ F1 H1, Stp F O H F1 O1 H1 → Rel 0 b0 σ F1 O1)
    (hb : ∀ i b a v σ' F0 F' O' H', xs[i]? = some a → loopT f b0 xs = loopT f b (a :: xs.drop (i + 1)) → xs.length ≤ sizeLine → Rel i b σ' F0 O' → Gr F0 F' → Stp F O H F' O' H' → R X.K F' v (enc a) → wG X tg v σ' H' fun σ2 H2 => ZS X body σ2 H2
      { nx := fun σ3 H3 => ∃ b' F3 O3, f b a = .nx b' ∧ Stp F' O' H' F3 O3 H3 ∧ Rel (i + 1) b' σ3 F3 O3, rt := D.rt, bk := fun σ3 H3 => ∃ b' j F3 O3, f b a = .bk b' ∧ Stp F' O' H' F3 O3 H3 ∧ Rel j b' σ3 F3 O3, ct := fun σ3 H3 => ∃ b' F3 O3, f b a = .nx b' ∧ Stp F' O' H' F3 O3 H3 ∧ Rel (i + 1) b' σ3 F3 O3 })
    (hd : ∀ j b' σ' F' O' H', loopT f b0 xs = .nx b' → Stp F O H F' O' H' → Rel j b' σ' F' O' → ZS X rest σ' H' D)
    (hs : ∀ x, foldedSetIterable iter X.env x = pure x := by intro _; rfl) : ZS X (.For tg iter body [] pos :: rest) σ H D := by
  refine zs_for w hp hc hi (fun i σ' F' O' => ∃ b, loopT f b0 xs = loopT f b (xs.drop i) ∧ Rel i b σ' F' O') (fun F1 H1 s => ⟨b0, rfl, h0 F1 H1 s⟩) (fun i d x σ' F0 F' O' H' hd' hz ⟨b, e, rel⟩ g st r => ?_) (fun σ' F' O' H' st ⟨b, e, rel⟩ => hd _ b σ' F' O' H' ?_ st rel) hs
  · rw [List.getElem?_map] at hd'
    cases ha : xs[i]? with
    | none => rw [ha] at hd'; cases hd'
    | some a =>
      rw [ha] at hd'; cases hd'
      obtain ⟨hi', ea⟩ := List.getElem?_eq_some_iff.mp ha
      have e1 : xs.drop i = a :: xs.drop (i + 1) := by rw [List.drop_eq_getElem_cons hi', ea]
      rw [e1] at e
      rw [List.length_map] at hz
      have onn : ∀ σ3 H3, (∃ b' F3 O3, f b a = .nx b' ∧ Stp F' O' H' F3 O3 H3 ∧ Rel (i + 1) b' σ3 F3 O3) → ∃ F3 O3, Stp F' O' H' F3 O3 H3 ∧ ∃ b, loopT f b0 xs = loopT f b (xs.drop (i + 1)) ∧ Rel (i + 1) b σ3 F3 O3 := fun σ3 H3 ⟨b', F3, O3, hf, s3, r3⟩ => ⟨F3, O3, s3, b', e.trans (loopT_nx hf), r3⟩
      refine wG_mono (hb i b a x σ' F0 F' O' H' ha e hz rel g st r) fun σ2 H2 q => wSs_mono q onn (fun _ _ q => q) (fun σ3 H3 ⟨b', j, F3, O3, hf, s3, r3⟩ => hd j b' σ3 F3 O3 H3 (e.trans (loopT_bk hf)) (st.trans s3) r3) onn
  · rw [e, List.length_map, List.drop_length]; rfl
def outE {β ρ τ : Type} (o : Out β ρ) (f : β → τ) (g : ρ → τ) : τ := match o with
  | .nx b => f b
  | .rt r => g r
theorem outE_nx {β ρ τ : Type} {o : Out β ρ} {f : β → τ} {g : ρ → τ} {b : β} (h : o = .nx b) : outE o f g = f b := by rw [h]; rfl
theorem outE_rt {β ρ τ : Type} {o : Out β ρ} {f : β → τ} {g : ρ → τ} {r : ρ} (h : o = .rt r) : outE o f g = g r := by rw [h]; rfl
/-- the joining of two ways -/
theorem zs_ifJ (w : WOk F O H) {body els : List Stmt} (hc : ZT X c σ F O k O1) (J : L2.St → Hp → Prop) (h1 : k = true → ∀ F1 H1, Stp F O H F1 O1 H1 → ZS X body σ H1 { D with nx := J }) (h2 : k = false → ∀ F1 H1, Stp F O H F1 O1 H1 → ZS X els σ H1 { D with nx := J })
    (h3 : ∀ σ' H', J σ' H' → ZS X rest σ' H' D) : ZS X (.If c body els pos :: rest) σ H D :=
  zs_if w hc (fun hk F1 H1 s => wSs_mono (h1 hk F1 H1 s) (fun σ' H' q => h3 σ' H' q) (fun _ _ q => q) (fun _ _ q => q) (fun _ _ q => q)) (fun hk F1 H1 s => wSs_mono (h2 hk F1 H1 s) (fun σ' H' q => h3 σ' H' q) (fun _ _ q => q) (fun _ _ q => q) (fun _ _ q => q))
theorem cond_t {α : Type} {c : Bool} {a b : α} (h : c = true) : cond c a b = a := by rw [h]; rfl
theorem cond_f {α : Type} {c : Bool} {a b : α} (h : c = false) : cond c a b = b := by rw [h]; rfl
end
theorem keys_erase : ∀ (O : Own) (m : Nat), keys (O.eraseIdx m) = (keys O).eraseIdx m
  | [], _ => rfl
  | _ :: _, 0 => rfl
  | q :: O, m + 1 => congrArg (q.1 :: ·) (keys_erase O m)
/-- what is mine at place m, made behind the start, becomes what stays -/
theorem Stp.freezeAt {F F' H H' : Hp} {O O' : Own} {p : Addr} {o : HO} (m : Nat) (x : Stp F O H F' O' H') (hm : O'[m]? = some (p, o)) (h : H p = none) : Stp F O H (upd F' p o) (O'.eraseIdx m) H' := by
  have hk : keys (O'.eraseIdx m) = (keys O').eraseIdx m := keys_erase O' m
  have nd := x.ok.nd
  have hkm : (keys O')[m]? = some p := by unfold keys; rw [List.getElem?_map, hm]; rfl
  have hne : ∀ q ∈ O'.eraseIdx m, q.1 ≠ p := fun q hq e => by
    have h1 : p ∈ keys (O'.eraseIdx m) := List.mem_map.mpr ⟨q, hq, e⟩
    rw [hk] at h1
    obtain ⟨i, hi, h2⟩ := List.mem_eraseIdx_iff_getElem?.mp h1
    obtain ⟨l1, g1⟩ := List.getElem?_eq_some_iff.mp hkm
    obtain ⟨l2, g2⟩ := List.getElem?_eq_some_iff.mp h2
    exact hi ((List.getElem_inj nd).mp (g2.trans g1.symm))
  have hsub : ∀ q ∈ O'.eraseIdx m, q ∈ O' := fun q hq => List.mem_of_mem_eraseIdx hq
  have hp := x.ok.at_ hm
  refine ⟨⟨fun b u e => ?_, fun q hq => ?_, ?_, fun b xs e => ?_, fun q hq => x.ok.szo q (hsub q hq)⟩, fun b u e => ?_, x.keep, fun b u e => ?_, fun b hb => x.ky b ?_, x.dom⟩
  · by_cases hb : b = p
    · subst hb; rw [upd_same] at e; cases e; exact hp.1
    · rw [upd_ne hb] at e; exact x.ok.sub b u e
  · have hq' := x.ok.own q (hsub q hq)
    rw [upd_ne (hne q hq)]; exact hq'
  · rw [hk]; exact (List.eraseIdx_sublist _ _).nodup nd
  · by_cases hb : b = p
    · subst hb
      rw [upd_same] at e; cases e
      exact x.ok.szo (b, .lst xs) (List.mem_of_getElem? hm) xs rfl
    · rw [upd_ne hb] at e; exact x.ok.sz b xs e
  · have g := x.gr b u e
    rw [upd_ne (ne_of_none g hp.2)]; exact g
  · by_cases hb : b = p
    · subst hb; exact .inr h
    · rw [upd_ne hb] at e; exact x.fr b u e
  · obtain ⟨q, hq, rfl⟩ := List.mem_map.mp hb
    exact List.mem_map.mpr ⟨q, hsub q hq, rfl⟩
theorem Stp.dropAt {F F' H H' : Hp} {O O' : Own} (m : Nat) (x : Stp F O H F' O' H') : Stp F O H F' (O'.eraseIdx m) H' := by
  have hk : keys (O'.eraseIdx m) = (keys O').eraseIdx m := keys_erase O' m
  have hsub : ∀ q ∈ O'.eraseIdx m, q ∈ O' := fun q hq => List.mem_of_mem_eraseIdx hq
  refine ⟨⟨x.ok.sub, fun q hq => x.ok.own q (hsub q hq), by rw [hk]; exact (List.eraseIdx_sublist _ _).nodup x.ok.nd, x.ok.sz, fun q hq => x.ok.szo q (hsub q hq)⟩, x.gr, x.keep, x.fr, fun b hb => x.ky b ?_, x.dom⟩
  obtain ⟨q, hq, rfl⟩ := List.mem_map.mp hb
  exact List.mem_map.mpr ⟨q, hsub q hq, rfl⟩
theorem Stp.newAt {F F' H H' : Hp} {O O' : Own} (x : Stp F O H F' O' H') {p : Addr} (h : H' p = none) : H p = none := by
  cases z : H p with
  | none => rfl
  | some u => exact absurd h (x.dom p (by rw [z]; simp))
end Z

end
section
namespace Z
open PySem PySem.Spec PyProof.Rows L2

/-! ### the store of draws -/
structure Sto where
  ix : Nat
  dig : Nat
  step : Nat
  seed : Int
def stoL (c : V) (s : Sto) : List V := [c, .int s.ix, .int s.dig, .int s.step, .int s.seed]
abbrev stoO (a : Addr) (c : V) (s : Sto) : Addr × HO := (a, .lst (stoL c s))
def stoD (cs : List Int) (s : Sto) : List PyData := [eL eI cs, eI s.ix, eI s.dig, eI s.step, eI s.seed]
theorem sto_ra {K : PySem.W.Frag} {F : Hp} {c : V} {cs : List Int} {s : Sto} (h : R K F c (eL eI cs)) : RA K F (stoL c s) (stoD cs s) := .cons h (.cons (.int _) (.cons (.int _) (.cons (.int _) (.cons (.int _) .nil))))
/-- data in, the store turned, data out -/
def spS (K : PySem.W.Frag) (A : List Int → Sto → List PyData → PyData → Sto → Prop) : Sp := fun vs H Q _ => ∃ (F : Hp) (a : Addr) (c : V) (cs : List Int) (s : Sto) (ws : List V) (ds : List PyData) (r : PyData) (s' : Sto),
  vs = .ref a :: ws ∧ WOk F [stoO a c s] H ∧ R K F c (eL eI cs) ∧ RA K F ws ds ∧ A cs s ds r s' ∧ ∀ v F' H', Stp F [stoO a c s] H F' [stoO a c s'] H' → R K F' v r → Q v H'
section
variable {X : Cx} {e a b c tg iter elt : Expr} {es : List Expr} {σ : L2.St} {F H : Hp} {O O1 O2 O3 : Own} {d da db : PyData} {ds rs : List PyData} {pos p : Pos} {i j : Int} {k k1 k2 : Bool} {x : Str} {n : Nat} {ps : List Str}
theorem ze_callS {A : List Int → Sto → List PyData → PyData → Sto → Prop} {cs : List Int} {s s' : Sto} {q : Addr} {cv : V} {sx : Str} {sp : Pos} (l m : Nat) (G : Fn X.prog X.w X.K X.mg X.base n x ps (spS X.K A)) (hr : Room n X.A) (hσ : σ[l]? = some (some (.ref q))) (hc : R X.K F cv (eL eI cs)) (ha : ZA X es σ F O ds O1) (hO : O1[m]? = some (stoO q cv s)) (hA : A cs s ds d s')
    (hN : X.N[l]? = some sx := by rfl) (hv : Vis X.env.scope sx := by first | exact Or.inl rfl | exact Or.inr (Or.inl rfl) | exact Or.inr (Or.inr rfl)) (hg : Gl X x := by rfl) (hdb : (x == ("__debug__" : Str)) = false := by decide) (hd : (sx == ("__debug__" : Str)) = false := by decide) (hcd : (sx == ("__classdict__" : Str)) = false := by decide)
    (he : starEach (.Name sx sp :: es) X.env = (false, eval (.Name sx sp) X.env) :: starEach es X.env := by rfl) (hpl : (backTo pos (starEach es X.env)).any (·.1) = false := by rfl) : ZE X (.Call (.Name x p) (.Name sx sp :: es) [] pos) σ F O d (O1.set m (stoO q cv s')) := fun F1 H g w Q qq => by
  obtain ⟨f, fd, G, hm, hk, hb⟩ := G.ex
  refine wE_of (pe_call G hr hg hm hk hb .nil (E := E0) pass0 (pa_cons (pe_var hN hv hd hcd) pa_w he) hdb he hpl) ⟨_, hσ, ha F1 H g w _ fun vs F2 H2 s1 r1 => ?_⟩
  show spS X.K A ((V.ref q :: vs) ++ []) H2 Q E0
  rw [List.append_nil]
  exact ⟨F2, q, cv, cs, s, vs, ds, d, s', rfl, s1.ok.one hO, hc.mono (g.trans s1.gr), r1, hA, fun v F' H' s2 r2 => qq _ _ _ (s1.trans (Stp.moreAt s1.ok hO s2)) r2⟩

/-! ### more built-ins -/
theorem ze_abs (hm : X.mg "abs" = none) (ha : ZE X e σ F O (.int i) O1) (hg : Gl X "abs" := by rfl) (he : starEach [e] X.env = (false, eval e X.env) :: starEach [] X.env := by rfl) (hpl : (backTo pos (starEach [] X.env)).any (·.1) = false := by rfl) : ZE X (.Call (.Name "abs" p) [e] [] pos) σ F O (eI (i.natAbs : Nat)) O1 :=
  ze_callB call_abs hm (by decide +kernel) (za_cons ha za_nil he) (fun F1 H1 vs _ w r Q q => by
    obtain ⟨v, rfl, r1⟩ := r.one
    refine ⟨i, by rw [r1.int_inv], q _ _ _ (Stp.refl w) ?_⟩
    have e1 : (if i < 0 then -i else i) = ((i.natAbs : Nat) : Int) := by split <;> omega
    rw [e1]
    exact .int _) hg (by decide) (by decide) he hpl
theorem ze_fdivW (ha : ZE X a σ F O (.int i) O1) (hb : ZE X b σ F O1 (.int j) O2) (h : 0 < j) (h2 : j < 2 ^ 64) : ZE X (.BinOp a .FloorDiv b pos) σ F O (.int (i / j)) O2 := ze_opC op_fdivW (wide_div (b := 64) h (by omega) (by decide) (by decide)) ha hb
theorem ze_mulR (ha : ZE X a σ F O (.int i) O1) (hb : ZE X b σ F O1 (.int j) O2) (h : -(2 ^ 64) < j ∧ j < 2 ^ 64) : ZE X (.BinOp a .Mult b pos) σ F O (.int (i * j)) O2 := ze_mul ha hb (.inr h)
theorem ze_mulL (ha : ZE X a σ F O (.int i) O1) (hb : ZE X b σ F O1 (.int j) O2) (h : -(2 ^ 64) < i ∧ i < 2 ^ 64) : ZE X (.BinOp a .Mult b pos) σ F O (.int (i * j)) O2 := ze_mul ha hb (.inl h)
/-- the script, as it lies -/
theorem walks_sqL {K : PySem.W.Frag} {F : Hp} {a : Addr} {xs : List V} {ds : List PyData} (e : SqL K F a xs) (r : RA K F xs ds) (hz : ds.length ≤ sizeLine) : Walks K (Itl K a) F ds where
  sz := hz
  go := fun F3 O3 H3 g w i hi => ⟨xs, xs[i]'(by rw [r.len]; exact hi), w.sub.sqL (g.sqL e), List.getElem?_eq_getElem _⟩
  stop := fun F3 O3 H3 g w i hi => ⟨xs, w.sub.sqL (g.sqL e), by rw [r.len]; exact hi⟩
  yld := fun F3 O3 H3 g w i x H' d hd y => by
    obtain ⟨rfl, y⟩ := y
    have hx := y xs (w.sub.sqL (g.sqL e))
    exact ⟨F3, Stp.refl w, (r.at_ i x d hx hd).mono g⟩
theorem ra_ints {K : PySem.W.Frag} {F : Hp} : ∀ ns : List Int, RA K F (ns.map V.int) (ns.map PyData.int)
  | [] => .nil
  | n :: ns => .cons (.int n) (ra_ints ns)
theorem ints_ra {K : PySem.W.Frag} {F : Hp} : ∀ {ns : List Int} {vs : List V}, RA K F vs (ns.map PyData.int) → vs = ns.map V.int
  | [], vs, h => h.nil_inv
  | n :: ns, vs, h => by
    obtain ⟨v, ws, rfl, r, t⟩ := RA.cons_inv h
    rw [r.int_inv, ints_ra t]; rfl
theorem strs_ra {K : PySem.W.Frag} {F : Hp} : ∀ {ns : List Str} {vs : List V}, RA K F vs (ns.map PyData.str) → vs = ns.map V.str
  | [], vs, h => h.nil_inv
  | n :: ns, vs, h => by
    obtain ⟨v, ws, rfl, r, t⟩ := RA.cons_inv h
    rw [r.str_inv, strs_ra t]; rfl
theorem zi_sqL {q : Addr} {xs : List V} {y : Str} {py : Pos} (hσ : σ[n]? = some (some (.ref q))) (hq : SqL X.K F q xs) (r : RA X.K F xs ds) (hz : ds.length ≤ sizeLine) (hN : X.N[n]? = some y := by rfl) (hv : Vis X.env.scope y := by first | exact Or.inl rfl | exact Or.inr (Or.inl rfl) | exact Or.inr (Or.inr rfl))
    (hd : (y == ("__debug__" : Str)) = false := by decide) (hcd : (y == ("__classdict__" : Str)) = false := by decide) : ZI X tg (.Name y py) σ F O ds O := fun F1 H g w Q qq =>
  wI_of (pi_list (pe_var hN hv hd hcd)) ⟨_, hσ, q, rfl, ⟨xs, w.sub.sqL (g.sqL hq)⟩, qq _ _ _ (Stp.refl w) (walks_sqL (g.sqL hq) (r.mono g) hz)⟩

/-! ### in -/
theorem inV_int (i : Int) : ∀ ns : List Int, inV (.int i) (ns.map V.int) = decide (i ∈ ns)
  | [] => by simp [inV]
  | n :: ns => by
    have ih := inV_int i ns
    unfold inV at ih ⊢
    rw [List.map_cons, List.any_cons, ih]
    show (n == i || decide (i ∈ ns)) = _
    rw [Bool.eq_iff_iff, Bool.or_eq_true, beq_iff_eq, decide_eq_true_iff, decide_eq_true_iff, List.mem_cons]
    exact or_congr_left eq_comm
theorem inV_str (i : Str) : ∀ ns : List Str, inV (.str i) (ns.map V.str) = decide (i ∈ ns)
  | [] => by simp [inV]
  | n :: ns => by
    have ih := inV_str i ns
    unfold inV at ih ⊢
    rw [List.map_cons, List.any_cons, ih]
    show (n == i || decide (i ∈ ns)) = _
    rw [Bool.eq_iff_iff, Bool.or_eq_true, beq_iff_eq, decide_eq_true_iff, decide_eq_true_iff, List.mem_cons]
    exact or_congr_left eq_comm
theorem all_flat_int : ∀ ns : List Int, (ns.map V.int).all flatV = true
  | [] => rfl
  | n :: ns => by rw [List.map_cons, List.all_cons, all_flat_int ns]; rfl
theorem all_flat_str : ∀ ns : List Str, (ns.map V.str).all flatV = true
  | [] => rfl
  | n :: ns => by rw [List.map_cons, List.all_cons, all_flat_str ns]; rfl
theorem cm_inI {ns : List Int} : CmpR X .In F O (.int i) (eL eI ns) (decide (i ∈ ns)) := ⟨_, op_in_seq, fun _ _ _ _ _ w r1 r2 Q q => by
  obtain ⟨l, xs, rfl, e1, a1⟩ := r2.lst_inv
  have ex := ints_ra a1
  subst ex
  rw [r1.int_inv]
  exact ⟨l, _, rfl, .inl (.inl (.inl (w.sub _ _ e1))), rfl, all_flat_int ns, by show Q (V.bl (if false = true then _ else _)) _; rw [if_neg (by decide), inV_int]; exact q⟩⟩
theorem cm_ninI {ns : List Int} : CmpR X .NotIn F O (.int i) (eL eI ns) (!decide (i ∈ ns)) := ⟨_, op_notIn_seq, fun _ _ _ _ _ w r1 r2 Q q => by
  obtain ⟨l, xs, rfl, e1, a1⟩ := r2.lst_inv
  have ex := ints_ra a1
  subst ex
  rw [r1.int_inv]
  exact ⟨l, _, rfl, .inl (.inl (.inl (w.sub _ _ e1))), rfl, all_flat_int ns, by show Q (V.bl (if true = true then _ else _)) _; rw [if_pos rfl, inV_int]; exact q⟩⟩
theorem cm_inS {y : Str} {ns : List Str} : CmpR X .In F O (.str y) (eL eS ns) (decide (y ∈ ns)) := ⟨_, op_in_seq, fun _ _ _ _ _ w r1 r2 Q q => by
  obtain ⟨l, xs, rfl, e1, a1⟩ := r2.lst_inv
  have ex := strs_ra a1
  subst ex
  rw [r1.str_inv]
  exact ⟨l, _, rfl, .inl (.inl (.inl (w.sub _ _ e1))), rfl, all_flat_str ns, by show Q (V.bl (if false = true then _ else _)) _; rw [if_neg (by decide), inV_str]; exact q⟩⟩
theorem cm_ninS {y : Str} {ns : List Str} : CmpR X .NotIn F O (.str y) (eL eS ns) (!decide (y ∈ ns)) := ⟨_, op_notIn_seq, fun _ _ _ _ _ w r1 r2 Q q => by
  obtain ⟨l, xs, rfl, e1, a1⟩ := r2.lst_inv
  have ex := strs_ra a1
  subst ex
  rw [r1.str_inv]
  exact ⟨l, _, rfl, .inl (.inl (.inl (w.sub _ _ e1))), rfl, all_flat_str ns, by show Q (V.bl (if true = true then _ else _)) _; rw [if_pos rfl, inV_str]; exact q⟩⟩
theorem cm_inTS {y : Str} {ns : List Str} : CmpR X .In F O (.str y) (eTL eS ns) (decide (y ∈ ns)) := ⟨_, op_in_seq, fun _ _ _ _ _ w r1 r2 Q q => by
  obtain ⟨l, xs, rfl, e1, a1⟩ := r2.tup_inv
  have ex := strs_ra a1
  subst ex
  rw [r1.str_inv]
  exact ⟨l, _, rfl, .inr (w.sub.sqT e1), rfl, all_flat_str ns, by show Q (V.bl (if false = true then _ else _)) _; rw [if_neg (by decide), inV_str]; exact q⟩⟩
/-! ### sorted of ints -/
def sortI (xs : List Int) : List Int := xs.mergeSort (fun a b => decide (a ≤ b))
theorem sortI_perm (xs : List Int) : (sortI xs).Perm xs := List.mergeSort_perm _ _
theorem sortI_sorted (xs : List Int) : (sortI xs).Pairwise (· ≤ ·) := by
  have h := List.pairwise_mergeSort (le := fun a b : Int => decide (a ≤ b)) (fun a b c => by simp; omega) (fun a b => by simp; omega) xs
  exact h.imp (by intro a b; simp)
theorem sorted_unique {xs ys : List Int} (h : xs.Perm ys) (hx : xs.Pairwise (· ≤ ·)) (hy : ys.Pairwise (· ≤ ·)) : xs = ys := List.Perm.eq_of_pairwise (fun a b _ _ h1 h2 => Int.le_antisymm h1 h2) hx hy h
theorem zn_sortI {ns : List Int} (hm : X.mg "sorted" = none) (ha : ZE X e σ F O (eL eI ns) O1) (hg : Gl X "sorted" := by rfl) (he : starEach [e] X.env = (false, eval e X.env) :: starEach [] X.env := by rfl) (hpl : (backTo pos (starEach [] X.env)).any (·.1) = false := by rfl) : ZN X (.Call (.Name "sorted" p) [e] [] pos) σ F O ((sortI ns).map eI) O1 :=
  zn_callB cr_sortedI hm (by decide +kernel) (za_cons ha za_nil he) (fun F1 H1 vs _ w r Q q => by
    obtain ⟨v, rfl, r1⟩ := r.one
    obtain ⟨l, xs, rfl, e1, a1⟩ := r1.lst_inv
    have ex := ints_ra a1
    subst ex
    refine ⟨l, ns, rfl, .inl (.inl (w.sub _ _ e1)), fun ns' p hp hs hn => ?_⟩
    have ee : ns' = sortI ns := sorted_unique (hp.trans (sortI_perm ns).symm) hs (sortI_sorted ns)
    rw [ee]
    have hz := w.sz _ _ e1
    exact q p _ _ _ hn (Stp.alloc w hn (by show ((sortI ns).map V.int).length ≤ _; rw [List.length_map, (sortI_perm ns).length_eq]; rw [List.length_map] at hz; exact hz)) (ra_ints _)) hg (by decide) (by decide) he hpl
theorem ze_ifc {α : Type} (f : α → PyData) {x y : α} (hc : ZT X c σ F O k O1) (ha : k = true → ZE X a σ F O1 (f x) O2) (hb : k = false → ZE X b σ F O1 (f y) O2) : ZE X (.IfExp c a b pos) σ F O (f (cond k x y)) O2 := by
  have h := ze_if0 (pos := pos) f hc ha hb
  have e1 : (if k = true then x else y) = cond k x y := by cases k <;> rfl
  rw [e1] at h
  exact h
def setL {α : Type} (xs : List α) (i : Int) (v : α) : List α := match ixN xs.length i with
  | some q => xs.set q v
  | none => xs
theorem setL_eq {α : Type} {xs : List α} {i : Int} {v : α} {q : Nat} (h : ixN xs.length i = some q) : setL xs i v = xs.set q v := by
  unfold setL
  rw [h]
theorem setL_length {α : Type} (xs : List α) (i : Int) (v : α) : (setL xs i v).length = xs.length := by
  unfold setL
  split
  · rw [List.length_set]
  · rfl
def repL {α : Type} (xs : List α) (i : Int) : List α := (List.replicate i.toNat xs).flatten
theorem zn_rept {α : Type} {enc : α → PyData} {xs : List α} (ha : ZE X a σ F O (eL enc xs) O1) (hb : ZE X b σ F O1 (.int i) O2) (h0 : 0 ≤ i) (h1 : i < 2 ^ 62) (h : xs.length * i.toNat ≤ sizeLine) : ZN X (.BinOp a .Mult b pos) σ F O ((repL xs i).map enc) O2 :=
  zn_eq (zn_rep ha hb h0 h1 (by rw [List.length_map]; exact h)) (by unfold repL; rw [List.map_flatten, List.map_replicate])
theorem bls_ra {K : PySem.W.Frag} {F : Hp} : ∀ {ns : List Bool} {vs : List V}, RA K F vs (ns.map PyData.bool) → vs = ns.map V.bl
  | [], vs, h => h.nil_inv
  | n :: ns, vs, h => by
    obtain ⟨v, ws, rfl, r, t⟩ := RA.cons_inv h
    rw [r.bl_inv, bls_ra t]; rfl
theorem ze_all {ns : List Bool} (hc : X.calm = true) (hm : X.mg "all" = none) (ha : ZE X e σ F O (eL eB ns) O1) (hg : Gl X "all" := by rfl) (he : starEach [e] X.env = (false, eval e X.env) :: starEach [] X.env := by rfl) (hpl : (backTo pos (starEach [] X.env)).any (·.1) = false := by rfl) : ZE X (.Call (.Name "all" p) [e] [] pos) σ F O (.bool (ns.all id)) O1 :=
  ze_callB (cr_all hc) hm (by decide +kernel) (za_cons ha za_nil he) (fun F1 H1 vs _ w r Q q => by
    obtain ⟨v, rfl, r1⟩ := r.one
    obtain ⟨l, xs, rfl, e1, a1⟩ := r1.lst_inv
    have ex := bls_ra a1
    subst ex
    exact ⟨l, ns, rfl, .inl (.inl (w.sub _ _ e1)), q _ _ _ (Stp.refl w) (.bl _)⟩) hg (by decide) (by decide) he hpl
theorem ze_any {ns : List Bool} (hc : X.calm = true) (hm : X.mg "any" = none) (ha : ZE X e σ F O (eL eB ns) O1) (hg : Gl X "any" := by rfl) (he : starEach [e] X.env = (false, eval e X.env) :: starEach [] X.env := by rfl) (hpl : (backTo pos (starEach [] X.env)).any (·.1) = false := by rfl) : ZE X (.Call (.Name "any" p) [e] [] pos) σ F O (.bool (ns.any id)) O1 :=
  ze_callB (cr_any hc) hm (by decide +kernel) (za_cons ha za_nil he) (fun F1 H1 vs _ w r Q q => by
    obtain ⟨v, rfl, r1⟩ := r.one
    obtain ⟨l, xs, rfl, e1, a1⟩ := r1.lst_inv
    have ex := bls_ra a1
    subst ex
    exact ⟨l, ns, rfl, .inl (.inl (w.sub _ _ e1)), q _ _ _ (Stp.refl w) (.bl _)⟩) hg (by decide) (by decide) he hpl
def ixS (x : Str) (i : Int) : Str := ⟨#[(atI x.cps.toList i).getD 0]⟩
theorem ze_ixSt {x : Str} (ha : ZE X a σ F O (.str x) O1) (hb : ZE X b σ F O1 (.int i) O2) (hz : x.length ≤ sizeLine) (h : -(x.length : Int) ≤ i ∧ i < x.length) (hs : PlainIx b := by exact fun _ _ => rfl) : ZE X (.Subscript a b pos) σ F O (.str (ixS x i)) O2 := by
  have hl : x.cps.toList.length = x.length := rfl
  obtain ⟨j, hj, hlt⟩ := ixN_in (n := x.cps.toList.length) (i := i) (by rw [hl]; exact h)
  have h1 : atI x.cps.toList i = some ((atI x.cps.toList i).getD 0) := by
    unfold atI
    rw [hj]
    show x.cps.toList[j]? = some (x.cps.toList[j]?.getD 0)
    rw [List.getElem?_eq_getElem hlt]; rfl
  exact ze_ixS ha hb hz h1 hs
theorem zn_lstt {α : Type} {enc : α → PyData} {xs : List α} (h : ZA X es σ F O (xs.map enc) O1) (hz : xs.length ≤ sizeLine := by show _ ≤ (16777216 : Nat); exact Nat.le_of_ble_eq_true rfl) : ZN X (.List es pos) σ F O (xs.map enc) O1 := zn_lst h (by rw [List.length_map]; exact hz)
theorem ze_tupt {α : Type} {enc : α → PyData} {xs : List α} {kk} (h : ZA X es σ F O (xs.map enc) O1) (hz : xs.length ≤ sizeLine := by show _ ≤ (16777216 : Nat); exact Nat.le_of_ble_eq_true rfl) : ZE X (.Tuple es kk pos) σ F O (eTL enc xs) O1 := ze_tup h (by rw [List.length_map]; exact hz)
end
end Z

end
section
namespace Z
open PySem PySem.Spec PyProof.Rows L2

/-! ### isinstance -/
def tyName : PyData → String
  | .none => "NoneType" | .bool _ => "bool" | .int _ => "int" | .str _ => "str" | .list _ => "list" | .tuple _ => "tuple" | .dict _ => "dict"
section
variable {K : PySem.W.Frag} {F H : Hp} {v : V} {d : PyData}
theorem R.tyX (h : R K F v d) (g : Gr F H) : TyX K H v (.type (tyName d)) := by
  cases h with
  | non => exact .base .non
  | bl b => exact .base (.bl b)
  | int i => exact .base (.int i)
  | str x => exact .base (.str x)
  | lst e _ _ => exact .base (.lst (g _ _ e))
  | tup e _ _ => exact .base (.tup (g _ _ e))
end
section
variable {X : Cx} {e a b c tg iter elt : Expr} {es : List Expr} {σ : L2.St} {F H : Hp} {O O1 O2 O3 : Own} {d da db : PyData} {ds rs : List PyData} {pos p : Pos} {i j : Int} {k k1 k2 : Bool} {x y : Str} {n m : Nat}
theorem ze_isi {T : String} {px : Pos} (hm : X.mg "isinstance" = none) (hT : X.mg (Str.ofString T) = none) (ha : ZE X e σ F O d O1) (hk : kitB (tyName d) T = some k) (hv : bootBuiltins (Str.ofString T) = some (.type T) := by decide +kernel) (hg : Gl X "isinstance" := by rfl) (hgT : Gl X (Str.ofString T) := by rfl)
    (hn : Str.ofString T ≠ "__name__" := by decide) (hd : (Str.ofString T == ("__debug__" : Str)) = false := by decide)
    (he : starEach (e :: [.Name (Str.ofString T) px]) X.env = (false, eval e X.env) :: starEach [.Name (Str.ofString T) px] X.env := by rfl) (he2 : starEach (.Name (Str.ofString T) px :: []) X.env = (false, eval (.Name (Str.ofString T) px) X.env) :: starEach [] X.env := by rfl)
    (hpl : (backTo pos (starEach [.Name (Str.ofString T) px] X.env)).any (·.1) = false := by rfl) : ZE X (.Call (.Name "isinstance" p) [e, .Name (Str.ofString T) px] [] pos) σ F O (.bool k) O1 := fun F1 H g w Q q =>
  wE_of (pe_callB call_isi hg hm boot_isinstance (pa_cons pe_w (pa_cons (pe_bltn (v := .ty T) hgT hT hv rfl hn hd) pa_nil he2) he) (by decide) (by decide) he hpl)
    (ha F1 H g w _ fun v F2 H2 s1 r1 => ⟨v, .ty T, .type (tyName d), .type T, k, rfl, .ty T, r1.tyX s1.ok.sub, kit_ty hk, q _ _ _ s1 (.bl k)⟩)

/-! ### ways that are known -/
variable {rest body els : List Stmt} {D : Ends}
theorem zs_ifT (w : WOk F O H) (hc : ZT X c σ F O true O1) (h1 : ∀ F1 H1, Stp F O H F1 O1 H1 → ZS X body σ H1 { D with nx := fun σ' H' => ZS X rest σ' H' D }) : ZS X (.If c body els pos :: rest) σ H D := zs_if w hc (fun _ => h1) fun h => Bool.noConfusion h
theorem zs_ifF (w : WOk F O H) (hc : ZT X c σ F O false O1) (h1 : ∀ F1 H1, Stp F O H F1 O1 H1 → ZS X els σ H1 { D with nx := fun σ' H' => ZS X rest σ' H' D }) : ZS X (.If c body els pos :: rest) σ H D := zs_if w hc (fun h => Bool.noConfusion h) fun _ => h1

/-! ### pop -/
variable {q : Addr} {vs : List V} {px apos cpos : Pos}
theorem ze_popO (n m : Nat) {v : V} (hσ : σ[n]? = some (some (.ref q))) (hO : O[m]? = some (q, .lst (vs ++ [v]))) (hr : R X.K F v d) (hN : X.N[n]? = some x := by rfl)
    (hv : Vis X.env.scope x := by first | exact Or.inl rfl | exact Or.inr (Or.inl rfl) | exact Or.inr (Or.inr rfl)) (hd : (x == ("__debug__" : Str)) = false := by decide) (hcd : (x == ("__classdict__" : Str)) = false := by decide)
    (hbase : attributeBase (.Name x px) "pop" X.env (eval (.Name x px) X.env) = eval (.Name x px) X.env := by rfl)
    (hline : (apos.endLine == cpos.line) = true := by rfl) : ZE X (.Call (.Attribute (.Name x px) "pop" apos) [] [] cpos) σ F O d (O.set m (q, .lst vs)) := fun F1 H g w Q qq => by
  have hH := (w.at_ hO).1
  refine wE_of (pe_bm0 PySem.F.plainAttrs_list PySem.F.slot_list_pop PySem.F.type_list_pop mt_pop (pe_var hN hv hd hcd) hbase hline) ⟨_, hσ, .inl ⟨rfl, _, .inl (.inl hH)⟩, q, vs ++ [v], v, rfl, rfl, hH, by simp, ?_⟩
  have hz := w.szo _ (List.mem_of_getElem? hO) _ rfl
  rw [List.dropLast_concat]
  exact qq _ _ _ (Stp.write w hO (by show vs.length ≤ _; rw [List.length_append] at hz; omega)) (hr.mono g)

/-! ### xs.index(y) of ints -/
theorem idxOf_before : ∀ (ns : List Int) (i : Int) (m : Nat) (t : Int), m < ns.idxOf i → ns[m]? = some t → t ≠ i
  | [], i, m, t, h, _ => by simp at h
  | a :: ns, i, 0, t, h, e => by
    have e : a = t := by simpa using e
    subst e
    intro z; subst z
    rw [List.idxOf_cons_self] at h; exact absurd h (Nat.lt_irrefl _)
  | a :: ns, i, m + 1, t, h, e => by
    by_cases ha : a = i
    · subst ha; rw [List.idxOf_cons_self] at h; omega
    · rw [List.idxOf_cons] at h
      have hb : (a == i) = false := beq_eq_false_iff_ne.mpr ha
      rw [hb] at h
      have h : m + 1 < ns.idxOf i + 1 := h
      exact idxOf_before ns i m t (by omega) (by simpa using e)
theorem ze_indexI {ns : List Int} (ha : ZE X a σ F O (eL eI ns) O1) (hb : ZE X b σ F O1 (eI i) O2) (hi : i ∈ ns)
    (hbase : attributeBase a "index" X.env (eval a X.env) = eval a X.env := by rfl)
    (hfew : ((backTo cpos (starEach (b :: []) X.env)).all (fun x => !x.1) && (backToKw cpos (keywordEach [] X.env)).all (fun x => x.1.isSome)
      && decide ((b :: []).length + ([] : List Keyword).length + (if ([] : List Keyword).isEmpty then 0 else 1) < 30)) = true := by rfl)
    (hline : (apos.endLine == cpos.line) = true := by rfl) (hse : starEach (b :: []) X.env = (false, eval b X.env) :: starEach [] X.env := by rfl) (hplain : (backTo cpos (starEach [] X.env)).any (·.1) = false := by rfl) :
    ZE X (.Call (.Attribute a "index" apos) [b] [] cpos) σ F O (eI (ns.idxOf i : Nat)) O2 := fun F1 H g w Q qq => by
  refine wE_of (pe_bm PySem.F.plainAttrs_list PySem.F.slot_list_index PySem.F.type_list_index mt_index pe_w (pa_cons pe_w pa_nil hse) hbase hfew hline hse hplain) (ha F1 H g w _ fun v F2 H2 s1 r1 => ?_)
  obtain ⟨l, xs, rfl, e1, a1⟩ := r1.lst_inv
  have ex := ints_ra a1
  subst ex
  refine ⟨.inl ⟨rfl, _, .inl (.inl (s1.ok.sub _ _ e1))⟩, hb F2 H2 (g.trans s1.gr) s1.ok _ fun u F3 H3 s2 r2 => ?_⟩
  have hlt := List.idxOf_lt_length_iff.mpr hi
  refine ⟨l, ns.map V.int, u, ns.idxOf i, .int i, rfl, rfl, .inl (.inl (s2.ok.sub _ _ (s2.gr _ _ e1))), by rw [r2.int_inv]; rfl, all_flat_int ns, ?_, ?_, ?_, qq _ _ _ (s1.trans s2) (.int _)⟩
  · rw [List.getElem?_map, List.getElem?_eq_getElem hlt, List.getElem_idxOf]; rfl
  · rw [r2.int_inv]; show (i == i) = true; exact beq_self_eq_true _
  · intro m' z' hm hz
    rw [List.getElem?_map] at hz
    cases hq : ns[m']? with
    | none => rw [hq] at hz; cases hz
    | some t =>
      rw [hq] at hz; cases hz
      rw [r2.int_inv]
      show (t == i) = false
      exact beq_eq_false_iff_ne.mpr fun e => idxOf_before ns i m' t hm hq e
end

/-! ### how many values -/
mutual
def dsz : PyData → Nat
  | .list xs => 1 + dszL xs
  | .tuple xs => 1 + dszL xs
  | .none => 1 | .bool _ => 1 | .int _ => 1 | .str _ => 1 | .dict _ => 1
def dszL : List PyData → Nat
  | [] => 0
  | d :: ds => dsz d + dszL ds
end
theorem dszL_app : ∀ xs ys : List PyData, dszL (xs ++ ys) = dszL xs + dszL ys
  | [], ys => by simp [dszL]
  | x :: xs, ys => by rw [List.cons_append]; simp only [dszL]; rw [dszL_app xs ys]; omega
theorem dsz_list (xs : List PyData) : dsz (.list xs) = 1 + dszL xs := by simp [dsz]
theorem dsz_tuple (xs : List PyData) : dsz (.tuple xs) = 1 + dszL xs := by simp [dsz]
theorem dsz_pos (d : PyData) : 1 ≤ dsz d := by cases d <;> simp [dsz]
theorem dszL_map_le {α : Type} {e : α → PyData} {c : Nat} : ∀ {xs : List α}, (∀ x ∈ xs, dsz (e x) ≤ c) → dszL (xs.map e) ≤ c * xs.length
  | [], _ => by simp [dszL]
  | x :: xs, h => by
    have h1 := h x List.mem_cons_self
    have h2 := dszL_map_le (xs := xs) fun y hy => h y (List.mem_cons_of_mem _ hy)
    rw [List.map_cons, List.length_cons, Nat.mul_succ]
    simp only [dszL]; omega
theorem dsz_L {α : Type} {e : α → PyData} {c : Nat} {xs : List α} (h : ∀ x ∈ xs, dsz (e x) ≤ c) : dsz (eL e xs) ≤ 1 + c * xs.length := by
  show dsz (.list _) ≤ _
  rw [dsz_list]
  have := dszL_map_le h
  omega
theorem dsz_T2 {α β : Type} {e1 : α → PyData} {e2 : β → PyData} {p : α × β} {c1 c2 : Nat} (h1 : dsz (e1 p.1) ≤ c1) (h2 : dsz (e2 p.2) ≤ c2) : dsz (eT2 e1 e2 p) ≤ 1 + c1 + c2 := by
  show dsz (.tuple _) ≤ _
  rw [dsz_tuple]
  simp only [dszL]; omega
theorem dsz_I (i : Int) : dsz (eI i) ≤ 1 := by simp [dsz]
theorem dsz_B (i : Bool) : dsz (eB i) ≤ 1 := by simp [dsz]
theorem dsz_S (i : Str) : dsz (eS i) ≤ 1 := by simp [dsz]
theorem dsz_O {α : Type} {e : α → PyData} {o : Option α} {c : Nat} (h : ∀ x, o = some x → dsz (e x) ≤ c) (hc : 1 ≤ c) : dsz (eO e o) ≤ c := by
  cases o with
  | none => simp [eO, dsz]; exact hc
  | some x => exact h x rfl
end Z

end
section
namespace Z
open PySem PySem.Spec PyProof.Rows L2

/-! ### what is mine, lent as data for the time of a call -/
def frz (F : Hp) (O : Own) : Hp := fun b => match O.find? (fun q => decide (q.1 = b)) with
  | some q => some q.2
  | none => F b
def unf (F : Hp) (O : Own) : Hp := fun b => if b ∈ keys O then none else F b
section
variable {K : PySem.W.Frag} {F F' F1 F2 H H' : Hp} {v : V} {d : PyData} {a p : Addr} {vs : List V} {ds : List PyData} {O O' : Own} {o o' : HO}
theorem frz_cases (F : Hp) (O : Own) (b : Addr) : (∃ q ∈ O, q.1 = b ∧ frz F O b = some q.2) ∨ (b ∉ keys O ∧ frz F O b = F b) := by
  unfold frz
  cases e : O.find? (fun q => decide (q.1 = b)) with
  | some q => exact .inl ⟨q, List.mem_of_find?_eq_some e, by have := List.find?_some e; simpa using this, rfl⟩
  | none =>
    refine .inr ⟨fun h => ?_, rfl⟩
    obtain ⟨q, hq, rfl⟩ := List.mem_map.mp h
    have := List.find?_eq_none.mp e q hq
    simp at this
theorem WOk.frz (w : WOk F O H) : WOk (frz F O) [] H where
  sub := fun b u e => by
    rcases frz_cases F O b with ⟨q, hq, rfl, h⟩ | ⟨_, h⟩
    · rw [h] at e; cases e; exact (w.own q hq).1
    · rw [h] at e; exact w.sub b u e
  own := fun _ h => nomatch h
  nd := List.nodup_nil
  sz := fun b xs e => by
    rcases frz_cases F O b with ⟨q, hq, rfl, h⟩ | ⟨_, h⟩
    · rw [h] at e; exact w.szo q hq xs (Option.some.inj e)
    · rw [h] at e; exact w.sz b xs e
  szo := fun _ h => nomatch h
theorem Gr.frz (w : WOk F O H) : Gr F (frz F O) := fun b o e => by
  rcases frz_cases F O b with ⟨q, hq, rfl, h⟩ | ⟨_, h⟩
  · rw [(w.own q hq).2] at e; cases e
  · rw [h]; exact e
theorem frz_at (w : WOk F O H) {k : Nat} (h : O[k]? = some (a, o)) : frz F O a = some o := by
  rcases frz_cases F O a with ⟨q, hq, e, h2⟩ | ⟨n, _⟩
  · have h1 := (w.own q hq).1
    rw [e, (w.at_ h).1] at h1
    rw [h2, ← h1]
  · exact absurd (w.key h) n
theorem Stp.unf (w : WOk F O H) (x : Stp (frz F O) [] H F' [] H') : Stp F O H (unf F' O) O H' where
  ok := {
    sub := fun b u e => by
      unfold Z.unf at e
      split at e
      · cases e
      · exact x.ok.sub b u e
    own := fun q hq => ⟨x.keep _ _ (w.own q hq).1 (by intro z; cases z), by
      unfold Z.unf
      exact if_pos (show q.1 ∈ keys O from List.mem_map.mpr ⟨q, hq, rfl⟩)⟩
    nd := w.nd
    sz := fun b xs e => by
      unfold Z.unf at e
      split at e
      · cases e
      · exact x.ok.sz b xs e
    szo := w.szo }
  gr := fun b o e => by
    have hb : b ∉ keys O := fun h => by
      obtain ⟨q, hq, rfl⟩ := List.mem_map.mp h
      rw [(w.own q hq).2] at e; cases e
    unfold Z.unf
    rw [if_neg hb]
    exact x.gr b o (Gr.frz w b o e)
  keep := fun b o e _ => x.keep b o e (by intro z; cases z)
  fr := fun b o e => by
    unfold Z.unf at e
    split at e
    · cases e
    · rename_i hb
      rcases x.fr b o e with h | h
      · rcases frz_cases F O b with ⟨q, hq, rfl, _⟩ | ⟨_, h2⟩
        · exact absurd (List.mem_map.mpr ⟨q, hq, rfl⟩) hb
        · rw [h2] at h; exact .inl h
      · exact .inr h
  ky := fun _ h => .inl h
  dom := x.dom
theorem Gr.frz2 (g : Gr F F1) : Gr (Z.frz F O) (Z.frz F1 O) := fun b o e => by
  unfold Z.frz at e ⊢
  split at e
  · exact e
  · exact g b o e
end
section
variable {X : Cx} {e a b c tg iter elt : Expr} {es : List Expr} {σ : L2.St} {F H : Hp} {O O1 O2 O3 : Own} {d da db : PyData} {ds rs : List PyData} {pos p : Pos} {i j : Int} {k k1 k2 : Bool} {x : Str} {n : Nat} {ps : List Str}
theorem ze_eqB (h : ZE X e σ F O (.bool k1) O1) (q : k1 = k) : ZE X e σ F O (.bool k) O1 := q ▸ h
/-- a call whose first argument is a value that stands on what is mine -/
theorem ze_callDZ {A : List PyData → PyData → Prop} {sx : Str} {sp : Pos} {v : V} (l : Nat) (G : Fn X.prog X.w X.K X.mg X.base n x ps (spD X.K A)) (hr : Room n X.A) (hσ : σ[l]? = some (some v)) (hv0 : ∀ F1 H1, Gr F F1 → WOk F1 O H1 → R X.K (frz F1 O) v d) (ha : ZA X es σ F O ds O) (hA : A (d :: ds) (.bool k))
    (hN : X.N[l]? = some sx := by rfl) (hv : Vis X.env.scope sx := by first | exact Or.inl rfl | exact Or.inr (Or.inl rfl) | exact Or.inr (Or.inr rfl)) (hg : Gl X x := by rfl) (hdb : (x == ("__debug__" : Str)) = false := by decide) (hd : (sx == ("__debug__" : Str)) = false := by decide) (hcd : (sx == ("__classdict__" : Str)) = false := by decide)
    (he : starEach (.Name sx sp :: es) X.env = (false, eval (.Name sx sp) X.env) :: starEach es X.env := by rfl) (hpl : (backTo pos (starEach es X.env)).any (·.1) = false := by rfl) : ZE X (.Call (.Name x p) (.Name sx sp :: es) [] pos) σ F O (.bool k) O := fun F1 H g w Q qq => by
  obtain ⟨f, fd, G, hm, hk, hb⟩ := G.ex
  refine wE_of (pe_call G hr hg hm hk hb .nil (E := E0) pass0 (pa_cons (pe_var hN hv hd hcd) pa_w he) hdb he hpl) ⟨_, hσ, ha F1 H g w _ fun vs F2 H2 s1 r1 => ?_⟩
  show spD X.K A ((v :: vs) ++ []) H2 Q E0
  rw [List.append_nil]
  refine ⟨frz F2 O, d :: ds, .bool k, s1.ok.frz, .cons (hv0 F2 H2 (g.trans s1.gr) s1.ok) (r1.mono (Gr.frz s1.ok)), hA, fun u F' H' s2 r2 => qq _ _ _ (s1.trans (Stp.unf s1.ok s2)) ?_⟩
  rw [r2.bl_inv]; exact .bl _
theorem ze_callDO {A : List PyData → PyData → Prop} {sx : Str} {sp : Pos} {q : Addr} {us : List V} {d0 : List PyData} (l m : Nat) (G : Fn X.prog X.w X.K X.mg X.base n x ps (spD X.K A)) (hr : Room n X.A) (hσ : σ[l]? = some (some (.ref q))) (hO : O[m]? = some (q, .lst us)) (hra : RA X.K F us d0) (ha : ZA X es σ F O ds O) (hA : A (.list d0 :: ds) (.bool k))
    (hN : X.N[l]? = some sx := by rfl) (hv : Vis X.env.scope sx := by first | exact Or.inl rfl | exact Or.inr (Or.inl rfl) | exact Or.inr (Or.inr rfl)) (hg : Gl X x := by rfl) (hdb : (x == ("__debug__" : Str)) = false := by decide) (hd : (sx == ("__debug__" : Str)) = false := by decide) (hcd : (sx == ("__classdict__" : Str)) = false := by decide)
    (he : starEach (.Name sx sp :: es) X.env = (false, eval (.Name sx sp) X.env) :: starEach es X.env := by rfl) (hpl : (backTo pos (starEach es X.env)).any (·.1) = false := by rfl) : ZE X (.Call (.Name x p) (.Name sx sp :: es) [] pos) σ F O (.bool k) O :=
  ze_callDZ l G hr hσ (fun F1 H1 g w => (hra.mono (g.trans (Gr.frz w))).lst (frz_at w hO)) ha hA hN hv hg hdb hd hcd he hpl

instance instInhPyData : Inhabited PyData := ⟨.none⟩
instance instInhStr : Inhabited Str := ⟨⟨#[]⟩⟩
/-! ### the store of a script -/
def sto0 (ns : List Int) : Sto := ⟨0, 0, 0, ns.foldl (fun b a : Int => (b * 1000003 + a % 2305843009213693951 + 1) % 2305843009213693951) (17 + (ns.length : Int))⟩
def spMk (K : PySem.W.Frag) : Sp := fun vs H Q _ => ∃ (F : Hp) (a : Addr) (ns : List Int), vs = [.ref a] ∧ WOk F [] H ∧ SqL K F a (ns.map V.int) ∧ ns.length ≤ 63 ∧ ∀ p c F' H', H p = none → Stp F [] H F' [stoO p c (sto0 ns)] H' → R K F' c (eL eI ns) → Q (.ref p) H'
theorem zn_callMk {ns : List Int} {q : Addr} {sx : Str} {sp : Pos} (l : Nat) (G : Fn X.prog X.w X.K X.mg X.base n x ps (spMk X.K)) (hr : Room n X.A) (hσ : σ[l]? = some (some (.ref q))) (hS : SqL X.K F q (ns.map V.int)) (hl : ns.length ≤ 63)
    (hN : X.N[l]? = some sx := by rfl) (hv : Vis X.env.scope sx := by first | exact Or.inl rfl | exact Or.inr (Or.inl rfl) | exact Or.inr (Or.inr rfl)) (hg : Gl X x := by rfl) (hdb : (x == ("__debug__" : Str)) = false := by decide) (hd : (sx == ("__debug__" : Str)) = false := by decide) (hcd : (sx == ("__classdict__" : Str)) = false := by decide)
    (he : starEach (.Name sx sp :: []) X.env = (false, eval (.Name sx sp) X.env) :: starEach [] X.env := by rfl) (hpl : (backTo pos (starEach [] X.env)).any (·.1) = false := by rfl) : ZN X (.Call (.Name x p) [.Name sx sp] [] pos) σ F [] (stoD ns (sto0 ns)) [] := fun F1 H g w Q qq => by
  obtain ⟨f, fd, G, hm, hk, hb⟩ := G.ex
  refine wE_of (pe_call G hr hg hm hk hb .nil (E := E0) pass0 (pa_cons (pe_var hN hv hd hcd) pa_nil he) hdb he hpl) ⟨_, hσ, ?_⟩
  exact ⟨F1, q, ns, rfl, w, g.sqL hS, hl, fun p c F' H' hp s2 r2 => qq p _ _ _ hp s2 (sto_ra r2)⟩
theorem sto_inv {K : PySem.W.Frag} {us : List V} {ns : List Int} {s : Sto} (h : RA K F us (stoD ns s)) : ∃ c, us = stoL c s ∧ R K F c (eL eI ns) := by
  obtain ⟨c, us, rfl, rc, h⟩ := h.cons_inv
  obtain ⟨i1, us, rfl, q1, h⟩ := h.cons_inv
  obtain ⟨i2, us, rfl, q2, h⟩ := h.cons_inv
  obtain ⟨i3, us, rfl, q3, h⟩ := h.cons_inv
  obtain ⟨i4, us, rfl, q4, h⟩ := h.cons_inv
  obtain rfl := h.nil_inv
  obtain rfl := q1.int_inv
  obtain rfl := q2.int_inv
  obtain rfl := q3.int_inv
  obtain rfl := q4.int_inv
  exact ⟨c, rfl, rc⟩
def spLaw (K : PySem.W.Frag) : Sp := fun vs H Q _ => ∃ (a : Addr) (ns : List Int), vs = [.ref a] ∧ ns.length ≤ 63 ∧ SqL K H a (ns.map V.int) ∧ ∀ H', Q (.bl true) H'
/-- a world to start from: nothing but the script -/
theorem law_start {K : PySem.W.Frag} {H : Hp} {a : Addr} {vs : List V} (hl : vs.length ≤ 63) (h : SqL K H a vs) : ∃ F, WOk F [] H ∧ SqL K F a vs := by
  have one : ∀ o, H a = some o → (∀ xs, o = .lst xs → xs.length ≤ sizeLine) → WOk (fun b => if b = a then some o else none) [] H := fun o e hz =>
    { sub := fun b u e2 => by
        dsimp only at e2
        split at e2
        · rename_i hb; cases e2; rw [hb]; exact e
        · cases e2
      own := fun _ h => (nomatch h)
      nd := List.nodup_nil
      sz := fun b xs e2 => by
        split at e2
        · cases e2; exact hz xs rfl
        · cases e2
      szo := fun _ h => (nomatch h) }
  have hlz : vs.length ≤ sizeLine := by rw [← szL]; omega
  rcases h with (h | ⟨o, h⟩) | h
  · exact ⟨_, one _ h (fun xs e => by cases e; exact hlz), .inl (.inl (if_pos rfl))⟩
  · exact ⟨_, one _ h (fun xs e => by cases e), .inl (.inr ⟨o, if_pos rfl⟩)⟩
  · exact ⟨fun _ => none, { sub := fun _ _ e => (nomatch e), own := fun _ h => (nomatch h), nd := List.nodup_nil, sz := fun _ _ e => (nomatch e), szo := fun _ h => (nomatch h) }, .inr h⟩
end
end Z

end
section
namespace Z
open PySem PySem.Spec PyProof.Rows L2

theorem rangeI_at {lo hi x : Int} {i : Nat} (h : (rangeI lo hi)[i]? = some x) : x = lo + (i : Int) ∧ lo ≤ x ∧ x < hi := by
  have hl := (List.getElem?_eq_some_iff.mp h).1
  rw [rangeI_length] at hl
  unfold rangeI at h
  rw [List.getElem?_map, List.getElem?_range hl] at h
  have h : lo + (i : Int) = x := Option.some.inj h
  omega
theorem rangeI_mem {lo hi x : Int} : x ∈ rangeI lo hi ↔ lo ≤ x ∧ x < hi := by
  constructor
  · intro h
    obtain ⟨i, hi⟩ := List.mem_iff_getElem?.mp h
    have := rangeI_at hi
    omega
  · intro h
    refine List.mem_iff_getElem?.mpr ⟨(x - lo).toNat, ?_⟩
    unfold rangeI
    rw [List.getElem?_map, List.getElem?_range (by omega)]
    show some (lo + ((x - lo).toNat : Int)) = some x
    congr 1; omega
theorem foldl_inv {α β : Type} {f : β → α → β} (P : β → Prop) : ∀ {xs : List α} {b : β}, P b → (∀ b a, a ∈ xs → P b → P (f b a)) → P (xs.foldl f b)
  | [], _, h, _ => h
  | x :: xs, b, h, hf => foldl_inv P (xs := xs) (hf b x List.mem_cons_self h) fun b a ha => hf b a (List.mem_cons_of_mem _ ha)
section
variable {X : Cx} {e a b c tg iter elt : Expr} {es : List Expr} {σ : L2.St} {F H : Hp} {O O1 O2 O3 : Own} {d da db : PyData} {ds rs : List PyData} {pos apos cpos : Pos} {i j : Int} {k k1 k2 : Bool} {x : Str} {n m : Nat} {D : Ends} {rest : List Stmt} {p : Addr} {vs : List V} {v : V}
theorem ze_to {d' : PyData} {O1' : Own} (h : ZE X e σ F O d O1) (hd : d = d') (hO : O1 = O1') : ZE X e σ F O d' O1' := hd ▸ hO ▸ h
/-- an expression that tells a value and leaves the heap (a place in what is mine) -/
def ZP (X : Cx) (a : Expr) (σ : L2.St) (F : Hp) (O : Own) (v : V) : Prop := ∀ F1 H1, Gr F F1 → WOk F1 O H1 → ∀ Q : VK, Q v H1 → wE X a σ H1 Q
theorem zp_ixO (n m : Nat) {px : Pos} (hσ : σ[n]? = some (some (.ref p))) (hb : ZE X b σ F O (.int i) O) (hO : O[m]? = some (p, .lst vs)) (h : atI vs i = some v)
    (hN : X.N[n]? = some x := by rfl) (hv : Vis X.env.scope x := by first | exact Or.inl rfl | exact Or.inr (Or.inl rfl) | exact Or.inr (Or.inr rfl)) (hs : PlainIx b := by exact fun _ _ => rfl) (hd : (x == ("__debug__" : Str)) = false := by decide)
    (hcd : (x == ("__classdict__" : Str)) = false := by decide) : ∀ F1 H1, Gr F F1 → WOk F1 O H1 → ∀ Q : VK, (∀ F2 H2, Stp F1 O H1 F2 O H2 → Q v H2) → wE X (.Subscript (.Name x px) b pos) σ H1 Q := fun F1 H g w Q q =>
  wE_of (pe_ix ix_list (pe_var hN hv hd hcd) pe_w hs) ⟨_, hσ, hb F1 H g w _ fun y F2 H2 s1 r1 => ⟨p, vs, i, v, rfl, r1.int_inv, .inl (.inl (s1.ok.at_ hO).1), h, q _ _ s1⟩⟩
/-- a[i].append(e) where a[i] is mine -/
theorem zs_appendP (w : WOk F O H) {q : Addr} (m : Nat) (hp : ∀ F1 H1, Gr F F1 → WOk F1 O H1 → ∀ Q : VK, (∀ F2 H2, Stp F1 O H1 F2 O H2 → Q (.ref q) H2) → wE X a σ H1 Q) (he : ZE X e σ F O d O) (hO : O[m]? = some (q, .lst vs)) (hz : vs.length < sizeLine) (kk : ∀ v F1 H1, Stp F O H F1 (O.set m (q, .lst (vs ++ [v]))) H1 → R X.K F1 v d → ZS X rest σ H1 D)
    (hs : swapsWith (.Call (.Attribute a "append" apos) [e] [] cpos) none pos.line X.env = pure false := by rfl)
    (hbase : attributeBase a "append" X.env (eval a X.env) = eval a X.env := by rfl)
    (hfew : ((backTo cpos (starEach (e :: []) X.env)).all (fun x => !x.1) && (backToKw cpos (keywordEach [] X.env)).all (fun x => x.1.isSome)
      && decide ((e :: []).length + ([] : List Keyword).length + (if ([] : List Keyword).isEmpty then 0 else 1) < 30)) = true := by rfl)
    (hline : (apos.endLine == cpos.line) = true := by rfl) (hse : starEach (e :: []) X.env = (false, eval e X.env) :: starEach [] X.env := by rfl) (hplain : (backTo cpos (starEach [] X.env)).any (·.1) = false := by rfl) :
    ZS X (.Expr (.Call (.Attribute a "append" apos) [e] [] cpos) pos :: rest) σ H D := by
  refine wSs_of (pss_cons (ps_expr (pe_bm PySem.F.plainAttrs_list PySem.F.slot_list_append PySem.F.type_list_append mt_append pe_w (pa_cons pe_w pa_nil hse) hbase hfew hline hse hplain) hs) pss_w) ?_
  refine hp F H Gr.refl w _ fun F0 H0 s0 => ⟨.inl ⟨rfl, _, .inl (.inl (s0.ok.at_ hO).1)⟩, he F0 H0 s0.gr s0.ok _ fun v F1 H1 s1 r1 => ?_⟩
  exact ⟨q, vs, v, rfl, rfl, (s1.ok.at_ hO).1, hz, kk v _ _ ((s0.trans s1).trans (Stp.write s1.ok hO (by show (vs ++ [v]).length ≤ _; rw [List.length_append]; exact hz))) r1⟩
theorem zs_reverseP (w : WOk F O H) {q : Addr} (m : Nat) (hp : ∀ F1 H1, Gr F F1 → WOk F1 O H1 → ∀ Q : VK, (∀ F2 H2, Stp F1 O H1 F2 O H2 → Q (.ref q) H2) → wE X a σ H1 Q) (hO : O[m]? = some (q, .lst vs)) (kk : ∀ F1 H1, Stp F O H F1 (O.set m (q, .lst vs.reverse)) H1 → ZS X rest σ H1 D)
    (hs : swapsWith (.Call (.Attribute a "reverse" apos) [] [] cpos) none pos.line X.env = pure false := by rfl)
    (hbase : attributeBase a "reverse" X.env (eval a X.env) = eval a X.env := by rfl)
    (hline : (apos.endLine == cpos.line) = true := by rfl) : ZS X (.Expr (.Call (.Attribute a "reverse" apos) [] [] cpos) pos :: rest) σ H D := by
  refine wSs_of (pss_cons (ps_expr (pe_bm0 PySem.F.plainAttrs_list PySem.F.slot_list_reverse PySem.F.type_list_reverse mt_reverse pe_w hbase hline) hs) pss_w) ?_
  refine hp F H Gr.refl w _ fun F0 H0 s0 => ⟨.inl ⟨rfl, _, .inl (.inl (s0.ok.at_ hO).1)⟩, q, vs, rfl, rfl, (s0.ok.at_ hO).1, kk _ _ (s0.trans (Stp.write s0.ok hO (by show vs.reverse.length ≤ _; rw [List.length_reverse]; exact s0.ok.szo _ (List.mem_of_getElem? hO) _ rfl)))⟩
/-- a display whose first thing is a new list: both are mine -/
theorem zs_setLst1 (w : WOk F O H) (he : ZN X e σ F O rs O1) (hes : ∀ p0 us, ZA X es σ F ((p0, .lst us) :: O1) ds ((p0, .lst us) :: O1)) (hN : X.N.Nodup) (hi : X.N[n]? = some x) (hx : Loc X.env.scope x)
    (kk : ∀ p p0 us vs F1 H1, H p = none → H p0 = none → Stp F O H F1 ((p, .lst (.ref p0 :: vs)) :: (p0, .lst us) :: O1) H1 → RA X.K F1 us rs → RA X.K F1 vs ds → ZS X rest (σ.set n (some (.ref p))) H1 D)
    (hz : ds.length + 1 ≤ sizeLine := by show _ ≤ (16777216 : Nat); exact Nat.le_of_ble_eq_true rfl) {px : Pos}
    (hs : swapsWith (.List (e :: es) cpos) (some (.Name x px)) pos.line X.env = pure false := by rfl) (hf : X.fn x = true ∨ X.env.scope.names.lookup x = some .local := by first | exact .inl rfl | exact .inr rfl | assumption) (hse : starEach (e :: es) X.env = (false, eval e X.env) :: starEach es X.env := by rfl) : ZS X (.Assign [.Name x px] (.List (e :: es) cpos) pos :: rest) σ H D := by
  refine wSs_of (pss_cons (ps_set hN hi hx (pe_lst (pa_cons pe_w pa_w hse)) hs hf) pss_w) ?_
  refine he F H Gr.refl w _ fun p0 us F1 H1 hp0 s1 r1 => hes p0 us F1 H1 s1.gr s1.ok _ fun vs F2 H2 s2 r2 => ?_
  have hl : (V.ref p0 :: vs).length ≤ sizeLine := by rw [List.length_cons, r2.len]; exact hz
  refine ⟨hl, fun p hp => kk p p0 us vs _ _ ?_ hp0 ((s1.trans s2).trans (Stp.alloc s2.ok hp hl)) (r1.mono s2.gr) r2⟩
  cases z : H p with
  | none => rfl
  | some u => exact absurd hp ((s1.trans s2).dom p (by rw [z]; simp))
end
end Z

end
section
namespace Z
open PySem PySem.Spec PyProof.Rows L2
section
variable {X : Cx} {e a b c tg iter elt tg1 iter1 : Expr} {es : List Expr} {σ : L2.St} {F H : Hp} {O O1 O2 O3 : Own} {d da db : PyData} {ds rs : List PyData} {pos p : Pos} {i j : Int} {k k1 k2 : Bool} {x y : Str} {n m : Nat} {px py spos : Pos} {scope : Scope} {ifs : List Expr}
variable {α α1 β γ : Type} {G : β → Own} {enc : α → PyData} {enc1 : α1 → PyData} {encR : γ → PyData} {xs : List α} {st0 : β} {own : List (Str × Nat)} {vs1 : List Nat}
def uG (X : Cx) (scope : Scope) (tg : Expr) : TG := fun v σ H Q => ∀ s H0 C cl fp, wG (blkX X scope s H0 C cl fp) tg v σ H Q
def uI (X : Cx) (scope : Scope) (tg iter : Expr) : TI := fun σ H Rr => ∀ s H0 C cl fp, wI (blkX X scope s H0 C cl fp) tg iter σ H Rr
theorem pg_u (s : Shared) (H : Hp) (C : Addr) (cl : List (Str × Addr)) (fp : List Addr) : PG (blkX X scope s H C cl fp) tg (uG X scope tg) := ⟨fun pins s' _ _ _ u _ I r h => h s H C cl fp pins s' u I r⟩
theorem pi_u (s : Shared) (H : Hp) (C : Addr) (cl : List (Str × Addr)) (fp : List Addr) : PI (blkX X scope s H C cl fp) tg iter (uI X scope tg iter) := ⟨fun pins s' _ _ _ I h => h s H C cl fp pins s' I⟩
/-- how a target is bound to an item -/
structure Bd (X : Cx) (scope : Scope) (tg : Expr) (vs : List Nat) (σ0 : L2.St) (enc : α → PyData) (xs : List α) (B : α → L2.St → Hp → Prop) : Prop where
  wp : ∀ a σ2 F', B a σ2 F' → wipe σ2 vs = wipe σ0 vs
  mono : ∀ a σ2 F' F'', B a σ2 F' → Gr F' F'' → B a σ2 F''
  tgt : ∀ s H0 C cl fp a v F' O' H' Q, a ∈ xs → WOk F' O' H' → R X.K F' v (enc a) → (∀ σ2, B a σ2 F' → Q σ2 H') → wG (blkX X scope s H0 C cl fp) tg v (wipe σ0 vs) H' Q
def genF (pr : β → α → Bool) (f0 : β → α → γ) (s1 s2 : β → α → β) : β → α → Option γ × β := fun st a => if pr st a then (some (f0 st a), s2 st a) else (none, s1 st a)
theorem lcX_read {B : α → L2.St → Hp → Prop} {f : β → α → Option γ × β} {tt : TT} (hi : ZI X tg iter σ F O (xs.map enc) (G st0)) (bd : Bd X scope tg (own.map (·.2)) σ enc xs B)
    (hb : ∀ st a σ2 F' H', a ∈ xs → Gr F F' → WOk F' (G st) H' → B a σ2 F' → ∀ (Q1 : V → Hp → Prop) (Q0 : Hp → Prop), (∀ v F2 H2 y, (f st a).1 = some y → Stp F' (G st) H' F2 (G (f st a).2) H2 → R X.K F2 v (encR y) → Q1 v H2) → (∀ F2 H2, (f st a).1 = none → Stp F' (G st) H' F2 (G (f st a).2) H2 → Q0 H2) →
      tt σ2 H' fun b H3 => if b = true then uE X scope elt σ2 H3 Q1 else Q0 H3)
    {F1 H : Hp} (g1 : Gr F F1) (w : WOk F1 O H) {Q : VK}
    (q : ∀ p us F2 H2, H p = none → Stp F1 O H F2 ((p, .lst us) :: G (runS f st0 xs).2) H2 → RA X.K F2 us ((runS f st0 xs).1.map encR) → Q (.ref p) H2) : tLc (wI X tg iter) (uG X scope tg) tt (uE X scope elt) (own.map (·.2)) σ H Q := by
  refine lc_read (fun i => G (stS f st0 xs i)) (fun i => (xs[i]?).bind fun a => (f (stS f st0 xs i) a).1.map encR) (fun F1 H g1 w Q q => hi F1 H g1 w Q q) (fun i d v F' H' hd gg ww rr Q1 Q0 h1 h0 => ?_) g1 w (fun p us F2 H2 hp s2 ra => ?_)
  · rw [List.getElem?_map] at hd
    cases ha : xs[i]? with
    | none => rw [ha] at hd; cases hd
    | some a =>
      rw [ha] at hd; cases hd
      have es : stS f st0 xs (i + 1) = (f (stS f st0 xs i) a).2 := by show (match xs[i]? with | some a => _ | none => _) = _; rw [ha]
      rw [ha] at h1 h0
      rw [es] at h1 h0
      intro s H0 C cl fp
      refine bd.tgt s H0 C cl fp a v F' _ H' _ (List.mem_of_getElem? ha) ww rr fun σ2 b2 => ⟨bd.wp a σ2 F' b2, ?_⟩
      exact hb _ a σ2 F' H' (List.mem_of_getElem? ha) gg ww b2 Q1 Q0 (fun v F2 H2 y hy s r => h1 v F2 H2 (encR y) (by show Option.map encR _ = _; rw [hy]; rfl) s r) fun F2 H2 hy s => h0 F2 H2 (by show Option.map encR _ = _; rw [hy]; rfl) s
  · rw [List.length_map] at s2 ra
    rw [stS_run] at s2
    rw [runS_eq] at ra
    exact q p us F2 H2 hp s2 ra
/-- test and item as such a body -/
theorem body_t {B : α → L2.St → Hp → Prop} {pr : β → α → Bool} {f0 : β → α → γ} {s1 s2 : β → α → β} {c : Expr} (bd : Bd X scope tg (own.map (·.2)) σ enc xs B)
    (ht : ∀ s H0 C cl fp st a σ2 F', a ∈ xs → Gr F F' → B a σ2 F' → ZT (blkX X scope s H0 C cl fp) c σ2 F' (G st) (pr st a) (G (s1 st a)))
    (he : ∀ s H0 C cl fp st a σ2 F', a ∈ xs → pr st a = true → Gr F F' → B a σ2 F' → ZE (blkX X scope s H0 C cl fp) elt σ2 F' (G (s1 st a)) (encR (f0 st a)) (G (s2 st a))) :
    ∀ st a σ2 F' H', a ∈ xs → Gr F F' → WOk F' (G st) H' → B a σ2 F' → ∀ (Q1 : V → Hp → Prop) (Q0 : Hp → Prop), (∀ v F2 H2 y, (genF pr f0 s1 s2 st a).1 = some y → Stp F' (G st) H' F2 (G (genF pr f0 s1 s2 st a).2) H2 → R X.K F2 v (encR y) → Q1 v H2) → (∀ F2 H2, (genF pr f0 s1 s2 st a).1 = none → Stp F' (G st) H' F2 (G (genF pr f0 s1 s2 st a).2) H2 → Q0 H2) →
      uT X scope c σ2 H' fun b H3 => if b = true then uE X scope elt σ2 H3 Q1 else Q0 H3 := fun st a σ2 F' H' ha g w b2 Q1 Q0 h1 h0 => by
  intro s H0 C cl fp
  unfold genF at h1 h0
  refine ht s H0 C cl fp st a σ2 F' ha g b2 F' H' Gr.refl w _ fun F2 H2 s2' => ?_
  cases hp : pr st a with
  | true =>
    rw [if_pos rfl]
    intro s H0 C cl fp
    refine he s H0 C cl fp st a σ2 F2 ha hp (g.trans s2'.gr) (bd.mono _ _ _ _ b2 s2'.gr) F2 H2 Gr.refl s2'.ok _ fun u F3 H3 s3 r3 => h1 u F3 H3 (f0 st a) (by rw [hp]; rfl) ?_ r3
    rw [hp]
    exact s2'.trans s3
  | false =>
    rw [if_neg (by decide)]
    refine h0 F2 H2 (by rw [hp]; rfl) ?_
    rw [hp]
    exact s2'
theorem body_n {B : α → L2.St → Hp → Prop} {f0 : β → α → γ} {s2 : β → α → β}
    (he : ∀ s H0 C cl fp st a σ2 F', a ∈ xs → Gr F F' → B a σ2 F' → ZE (blkX X scope s H0 C cl fp) elt σ2 F' (G st) (encR (f0 st a)) (G (s2 st a))) :
    ∀ st a σ2 F' H', a ∈ xs → Gr F F' → WOk F' (G st) H' → B a σ2 F' → ∀ (Q1 : V → Hp → Prop) (Q0 : Hp → Prop), (∀ v F2 H2 y, ((fun st a => (some (f0 st a), s2 st a)) st a : Option γ × β).1 = some y → Stp F' (G st) H' F2 (G ((fun st a => (some (f0 st a), s2 st a)) st a : Option γ × β).2) H2 → R X.K F2 v (encR y) → Q1 v H2) → (∀ F2 H2, ((fun st a => (some (f0 st a), s2 st a)) st a : Option γ × β).1 = none → Stp F' (G st) H' F2 (G ((fun st a => (some (f0 st a), s2 st a)) st a : Option γ × β).2) H2 → Q0 H2) →
      tYes σ2 H' fun b H3 => if b = true then uE X scope elt σ2 H3 Q1 else Q0 H3 := fun st a σ2 F' H' ha g w b2 Q1 Q0 h1 h0 => by
  show (if true = true then uE X scope elt σ2 H' Q1 else Q0 H')
  rw [if_pos rfl]
  intro s H0 C cl fp
  exact he s H0 C cl fp st a σ2 F' ha g b2 F' H' Gr.refl w _ fun u F2 H2 s2 r2 => h1 u F2 H2 _ rfl s2 r2
theorem zn_lcXt {B : α → L2.St → Hp → Prop} {pr : β → α → Bool} {f0 : β → α → γ} {s1 s2 : β → α → β} {c : Expr} (hc : X.calm = true) (hN : X.N.Nodup) (hi : ZI X tg iter σ F O (xs.map enc) (G st0)) (bd : Bd X scope tg (own.map (·.2)) σ enc xs B)
    (ht : ∀ s H0 C cl fp st a σ2 F', a ∈ xs → Gr F F' → B a σ2 F' → ZT (blkX X scope s H0 C cl fp) c σ2 F' (G st) (pr st a) (G (s1 st a)))
    (he : ∀ s H0 C cl fp st a σ2 F', a ∈ xs → pr st a = true → Gr F F' → B a σ2 F' → ZE (blkX X scope s H0 C cl fp) elt σ2 F' (G (s1 st a)) (encR (f0 st a)) (G (s2 st a)))
    (ok : BlkOk X.N X.env.scope scope own) (hs : ∀ x, foldedSetIterable iter X.env x = pure x := by intro _; rfl) :
    ZN X (.ListComp elt [⟨tg, iter, [c], 0⟩] scope pos) σ F O ((runS (genF pr f0 s1 s2) st0 xs).1.map encR) (G (runS (genF pr f0 s1 s2) st0 xs).2) := fun F1 H g1 w Q q =>
  wE_of (pe_lc hc hN pi_w ok pg_u (fun s H C cl fp => pts_one (pt_u s H C cl fp)) pe_u hs) (lcX_read hi bd (body_t bd ht he) g1 w q)
theorem zn_lcXn {B : α → L2.St → Hp → Prop} {f0 : β → α → γ} {s2 : β → α → β} (hc : X.calm = true) (hN : X.N.Nodup) (hi : ZI X tg iter σ F O (xs.map enc) (G st0)) (bd : Bd X scope tg (own.map (·.2)) σ enc xs B)
    (he : ∀ s H0 C cl fp st a σ2 F', a ∈ xs → Gr F F' → B a σ2 F' → ZE (blkX X scope s H0 C cl fp) elt σ2 F' (G st) (encR (f0 st a)) (G (s2 st a)))
    (ok : BlkOk X.N X.env.scope scope own) (hs : ∀ x, foldedSetIterable iter X.env x = pure x := by intro _; rfl) :
    ZN X (.ListComp elt [⟨tg, iter, [], 0⟩] scope pos) σ F O ((mapS (fun st a => (f0 st a, s2 st a)) st0 xs).1.map encR) (G (mapS (fun st a => (f0 st a, s2 st a)) st0 xs).2) := by
  have h : ZN X (.ListComp elt [⟨tg, iter, [], 0⟩] scope pos) σ F O ((runS (fun st a => (some (f0 st a), s2 st a)) st0 xs).1.map encR) (G (runS (fun st a => (some (f0 st a), s2 st a)) st0 xs).2) := fun F1 H g1 w Q q =>
    wE_of (pe_lc hc hN pi_w ok pg_u (fun s H C cl fp => pts_nil) pe_u hs) (lcX_read hi bd (body_n he) g1 w q)
  rw [runS_state (f0 := fun st a => (f0 st a, s2 st a))] at h
  exact h
/-- a comprehension that goes into a plain local -/
theorem zs_setLcXt (w : WOk F O H) {i0 : Nat} {rest : List Stmt} {D : Ends} {B : α → L2.St → Hp → Prop} {pr : β → α → Bool} {f0 : β → α → γ} {s1 s2 : β → α → β} {c : Expr} (hc : X.calm = true) (hN : X.N.Nodup) (hi : ZI X tg iter σ F O (xs.map enc) (G st0)) (bd : Bd X scope tg (own.map (·.2)) σ enc xs B)
    (ht : ∀ s H0 C cl fp st a σ2 F', a ∈ xs → Gr F F' → B a σ2 F' → ZT (blkX X scope s H0 C cl fp) c σ2 F' (G st) (pr st a) (G (s1 st a)))
    (he : ∀ s H0 C cl fp st a σ2 F', a ∈ xs → pr st a = true → Gr F F' → B a σ2 F' → ZE (blkX X scope s H0 C cl fp) elt σ2 F' (G (s1 st a)) (encR (f0 st a)) (G (s2 st a)))
    (ok : BlkOk X.N X.env.scope scope own) (hy : X.N[i0]? = some y) (hyl : X.env.scope.names.lookup y = some .local)
    (hsw : swapsWith (.ListComp elt [⟨tg, iter, [c], 0⟩] scope pos) (some (.Name y py)) spos.line X.env = pure true)
    (kk : ∀ p us F1 H1, H p = none → Stp F O H F1 ((p, .lst us) :: G (runS (genF pr f0 s1 s2) st0 xs).2) H1 → RA X.K F1 us ((runS (genF pr f0 s1 s2) st0 xs).1.map encR) → ZS X rest (σ.set i0 (some (.ref p))) H1 D) (hs : ∀ x, foldedSetIterable iter X.env x = pure x := by intro _; rfl) :
    ZS X (.Assign [.Name y py] (.ListComp elt [⟨tg, iter, [c], 0⟩] scope pos) spos :: rest) σ H D :=
  wSs_of (pss_cons (ps_setLc hc hN hy hyl hsw pi_w ok pg_u (fun s H C cl fp => pts_one (pt_u s H C cl fp)) pe_u hs) pss_w) (lcX_read (Q := fun v H' => ZS X rest (σ.set i0 (some v)) H' D) hi bd (body_t bd ht he) Gr.refl w fun p us F2 H2 hp s ra => kk p us F2 H2 hp s ra)
theorem zs_setLcXn (w : WOk F O H) {i0 : Nat} {rest : List Stmt} {D : Ends} {B : α → L2.St → Hp → Prop} {f0 : β → α → γ} {s2 : β → α → β} (hc : X.calm = true) (hN : X.N.Nodup) (hi : ZI X tg iter σ F O (xs.map enc) (G st0)) (bd : Bd X scope tg (own.map (·.2)) σ enc xs B)
    (he : ∀ s H0 C cl fp st a σ2 F', a ∈ xs → Gr F F' → B a σ2 F' → ZE (blkX X scope s H0 C cl fp) elt σ2 F' (G st) (encR (f0 st a)) (G (s2 st a)))
    (ok : BlkOk X.N X.env.scope scope own) (hy : X.N[i0]? = some y) (hyl : X.env.scope.names.lookup y = some .local)
    (hsw : swapsWith (.ListComp elt [⟨tg, iter, [], 0⟩] scope pos) (some (.Name y py)) spos.line X.env = pure true)
    (kk : ∀ p us F1 H1, H p = none → Stp F O H F1 ((p, .lst us) :: G (mapS (fun st a => (f0 st a, s2 st a)) st0 xs).2) H1 → RA X.K F1 us ((mapS (fun st a => (f0 st a, s2 st a)) st0 xs).1.map encR) → ZS X rest (σ.set i0 (some (.ref p))) H1 D) (hs : ∀ x, foldedSetIterable iter X.env x = pure x := by intro _; rfl) :
    ZS X (.Assign [.Name y py] (.ListComp elt [⟨tg, iter, [], 0⟩] scope pos) spos :: rest) σ H D :=
  wSs_of (pss_cons (ps_setLc hc hN hy hyl hsw pi_w ok pg_u (fun s H C cl fp => pts_nil) pe_u hs) pss_w) (lcX_read (Q := fun v H' => ZS X rest (σ.set i0 (some v)) H' D) hi bd (body_n he) Gr.refl w fun p us F2 H2 hp s ra => kk p us F2 H2 hp (by rw [runS_state (f0 := fun st a => (f0 st a, s2 st a))] at s; exact s) (by rw [runS_state (f0 := fun st a => (f0 st a, s2 st a))] at ra; exact ra))

theorem tYes_if {σ : L2.St} {H : Hp} {p q : Hp → Prop} (h : p H) : tYes σ H fun b H3 => if b = true then p H3 else q H3 := by
  show (if true = true then p H else q H)
  rw [if_pos rfl]; exact h
/-! ### two fors, without a state -/
/-- the reading: the first item's list, then the second's .. -/
theorem lc2_read {wi wi1 : TI} {g g1 : TG} {te : TE} {tt1 : TT} {vs : List Nat} {K : PySem.W.Frag} {xs : List α} {ys : α → List α1} {r : α → α1 → Option PyData} {B : α → L2.St → Hp → Prop}
    (hi : ∀ F1 H, Gr F F1 → WOk F1 O H → ∀ Q : It → Hp → Prop, (∀ J F2 H2, Stp F1 O H F2 O H2 → Walks K J F2 (xs.map enc) → Q J H2) → wi σ H Q)
    (hg : ∀ a x F' O' H' Q, a ∈ xs → WOk F' O' H' → R K F' x (enc a) → (∀ σ2, wipe σ2 vs = wipe σ vs → B a σ2 F' → Q σ2 H') → g x (wipe σ vs) H' Q)
    (hBm : ∀ a σ2 F' F'', B a σ2 F' → Gr F' F'' → B a σ2 F'')
    (hi1 : ∀ a σ2 F1 H, a ∈ xs → Gr F F1 → B a σ2 F1 → WOk F1 O H → ∀ Q : It → Hp → Prop, (∀ J F2 H2, Stp F1 O H F2 O H2 → Walks K J F2 ((ys a).map enc1) → Q J H2) → wi1 σ2 H Q)
    (hb : ∀ a b σ2 x F' H', a ∈ xs → b ∈ ys a → Gr F F' → WOk F' O H' → B a σ2 F' → R K F' x (enc1 b) → ∀ (Q1 : V → Hp → Prop) (Q0 : Hp → Prop), (∀ v F2 H2 y, r a b = some y → Stp F' O H' F2 O H2 → R K F2 v y → Q1 v H2) → (∀ F2 H2, r a b = none → Stp F' O H' F2 O H2 → Q0 H2) →
      g1 x (wipe σ2 vs1) H' fun σ3 H3 => wipe σ3 vs1 = wipe σ2 vs1 ∧ tt1 σ3 H3 fun b H4 => if b = true then te σ3 H4 Q1 else Q0 H4)
    (hz : (xs.flatMap fun a => (ys a).filterMap (r a)).length ≤ sizeLine)
    {F1 H : Hp} (gg1 : Gr F F1) (w : WOk F1 O H) {Q : VK} (q : ∀ p us F2 H2, H p = none → Stp F1 O H F2 ((p, .lst us) :: O) H2 → RA K F2 us (xs.flatMap fun a => (ys a).filterMap (r a)) → Q (.ref p) H2) : tLc2 wi g tYes wi1 g1 tt1 te vs vs1 σ H Q := by
  refine hi F1 H gg1 w _ fun J F2 H2 s1 wk => fun D hD => ?_
  have hD0 : H D = none := by
    cases z : H D with
    | none => rfl
    | some u => exact absurd hD (s1.dom D (by rw [z]; simp))
  have hsplit : ∀ i, i < xs.length → ∃ a, xs[i]? = some a ∧ ((xs.take (i + 1)).flatMap fun a => (ys a).filterMap (r a)) = ((xs.take i).flatMap fun a => (ys a).filterMap (r a)) ++ (ys a).filterMap (r a) := fun i h => by
    refine ⟨xs[i], List.getElem?_eq_getElem h, ?_⟩
    rw [List.take_add_one, List.getElem?_eq_getElem h, List.flatMap_append]
    simp
  have hle : ∀ i j a, xs[i]? = some a → (((xs.take i).flatMap fun a => (ys a).filterMap (r a)) ++ ((ys a).take j).filterMap (r a)).length ≤ sizeLine := fun i j a ha => by
    refine Nat.le_trans (List.Sublist.length_le ?_) hz
    obtain ⟨hi, e⟩ := List.getElem?_eq_some_iff.mp ha
    obtain ⟨a', ha', e2⟩ := hsplit i hi
    rw [ha] at ha'; cases ha'
    have h1 : (((xs.take i).flatMap fun a => (ys a).filterMap (r a)) ++ ((ys a).take j).filterMap (r a)).Sublist ((xs.take (i + 1)).flatMap fun a => (ys a).filterMap (r a)) := by
      rw [e2]
      exact List.Sublist.append (List.Sublist.refl _) ((List.take_sublist _ _).filterMap _)
    refine h1.trans ?_
    have e3 : xs = xs.take (i + 1) ++ xs.drop (i + 1) := (List.take_append_drop _ _).symm
    have e4 : (xs.flatMap fun a => (ys a).filterMap (r a)) = ((xs.take (i + 1)).flatMap fun a => (ys a).filterMap (r a)) ++ ((xs.drop (i + 1)).flatMap fun a => (ys a).filterMap (r a)) := by rw [← List.flatMap_append, List.take_append_drop]
    rw [e4]
    exact List.sublist_append_left _ _
  refine ⟨fun i m H' => m = xs.length - i ∧ i ≤ xs.length ∧ ∃ F' us, Gr F2 F' ∧ Stp F1 O H F' ((D, .lst us) :: O) H' ∧ RA K F' us ((xs.take i).flatMap fun a => (ys a).filterMap (r a)), ⟨xs.length, by simp, Nat.zero_le _, F2, [], Gr.refl, s1.trans (Stp.alloc s1.ok hD (Nat.zero_le _)), .nil⟩, ?_⟩
  rintro i m H' ⟨rfl, hle', F', us, g2, st, ra⟩
  by_cases hlt : i < xs.length
  · obtain ⟨a, ha, hsp⟩ := hsplit i hlt
    have ham := List.mem_of_getElem? ha
    refine .inr ⟨wk.go F' _ H' g2 st.ok i (by rw [List.length_map]; exact hlt), fun H3 => ∃ F3 us', Gr F2 F3 ∧ Stp F1 O H F3 ((D, .lst us') :: O) H3 ∧ RA K F3 us' ((xs.take (i + 1)).flatMap fun a => (ys a).filterMap (r a)), fun H3 ⟨F3, us', h2, h3, h4⟩ => ⟨xs.length - (i + 1), by omega, rfl, hlt, F3, us', h2, h3, h4⟩, fun x H3 y => ?_⟩
    obtain ⟨F3, s2, rx⟩ := wk.yld F' _ H' g2 st.ok i x H3 (enc a) (by rw [List.getElem?_map, ha]; rfl) y
    refine hg a x F3 _ H3 _ ham s2.ok rx fun σ2 hw b2 => ⟨hw, ?_⟩
    refine tYes_if ?_
    have g3 : Gr F F3 := gg1.trans (s1.gr.trans (g2.trans s2.gr))
    refine hi1 a σ2 F3 H3 ham g3 b2 s2.ok.tail _ fun J1 F4 H4 s3 wk1 => ?_
    have st4 := st.trans (s2.trans (Stp.cons s2.ok s3))
    refine ⟨fun j m H' => m = (ys a).length - j ∧ j ≤ (ys a).length ∧ ∃ F' us, Gr F4 F' ∧ Stp F1 O H F' ((D, .lst us) :: O) H' ∧ RA K F' us (((xs.take i).flatMap fun a => (ys a).filterMap (r a)) ++ ((ys a).take j).filterMap (r a)), ⟨(ys a).length, by simp, Nat.zero_le _, F4, us, Gr.refl, st4, by
      rw [List.take_zero, List.filterMap_nil, List.append_nil]
      exact ra.mono (s2.gr.trans s3.gr)⟩, ?_⟩
    rintro j m H5 ⟨rfl, hjl, F5, us5, g5, st5, ra5⟩
    by_cases hjt : j < (ys a).length
    · have hbj : (ys a)[j]? = some (ys a)[j] := List.getElem?_eq_getElem hjt
      have htk : ((ys a).take (j + 1)).filterMap (r a) = ((ys a).take j).filterMap (r a) ++ (match r a (ys a)[j] with | some y => [y] | none => []) := by
        rw [List.take_add_one, hbj, List.filterMap_append]
        congr 1
        show [(ys a)[j]].filterMap (r a) = _
        rw [List.filterMap_cons]
        cases r a (ys a)[j] <;> rfl
      refine .inr ⟨wk1.go F5 _ H5 g5 st5.ok j (by rw [List.length_map]; exact hjt), fun H6 => ∃ F6 us', Gr F4 F6 ∧ Stp F1 O H F6 ((D, .lst us') :: O) H6 ∧ RA K F6 us' (((xs.take i).flatMap fun a => (ys a).filterMap (r a)) ++ ((ys a).take (j + 1)).filterMap (r a)), fun H6 ⟨F6, us', h2, h3, h4⟩ => ⟨(ys a).length - (j + 1), by omega, rfl, hjt, F6, us', h2, h3, h4⟩, fun x5 H6 y5 => ?_⟩
      obtain ⟨F6, s6, rx5⟩ := wk1.yld F5 _ H5 g5 st5.ok j x5 H6 (enc1 (ys a)[j]) (by rw [List.getElem?_map, hbj]; rfl) y5
      have g34 : Gr F3 F6 := s3.gr.trans (g5.trans s6.gr)
      refine hb a (ys a)[j] σ2 x5 F6 H6 ham (List.getElem_mem hjt) (g3.trans g34) s6.ok.tail (hBm a σ2 F3 F6 b2 g34) rx5 _ _ (fun v F7 H7 y hy s7 r7 => ?_) fun F7 H7 hy s7 => ?_
      · have st7 := st5.trans (s6.trans (Stp.cons s6.ok s7))
        have hl7 : us5.length < sizeLine := by
          have h1 := hle i (j + 1) a ha
          rw [htk, hy, ← List.append_assoc, List.length_append] at h1
          have h2 := ra5.len
          have h1 : _ + 1 ≤ sizeLine := h1
          rw [← h2] at h1
          exact h1
        have s8 := Stp.write (o' := .lst (us5 ++ [v])) st7.ok (k := 0) rfl (by show (us5 ++ [v]).length ≤ _; rw [List.length_append]; exact hl7)
        refine ⟨us5, (st7.ok.own (D, .lst us5) List.mem_cons_self).1, hl7, F7, us5 ++ [v], g5.trans (s6.gr.trans s7.gr), st7.trans s8, ?_⟩
        rw [htk, hy, ← List.append_assoc]
        exact (ra5.mono (s6.gr.trans s7.gr)).snoc r7
      · refine ⟨F7, us5, g5.trans (s6.gr.trans s7.gr), st5.trans (s6.trans (Stp.cons s6.ok s7)), ?_⟩
        rw [htk, hy]
        show RA K F7 us5 (_ ++ (_ ++ []))
        rw [List.append_nil]
        exact ra5.mono (s6.gr.trans s7.gr)
    · have ej : j = (ys a).length := by omega
      subst ej
      refine .inl ⟨wk1.stop F5 _ H5 g5 st5.ok _ (by rw [List.length_map]; exact Nat.le_refl _), F5, us5, ?_, st5, ?_⟩
      · exact g2.trans (s2.gr.trans (s3.gr.trans g5))
      · rw [hsp]
        rw [List.take_length] at ra5
        exact ra5
  · have ei : i = xs.length := by omega
    subst ei
    rw [List.take_length] at ra
    exact .inl ⟨wk.stop F' _ H' g2 st.ok _ (by rw [List.length_map]; exact Nat.le_refl _), q D us F' H' hD0 st ra⟩
/-- how the second target is bound -/
structure Bd1 (X : Cx) (scope : Scope) (tg1 : Expr) (vs1 : List Nat) (enc1 : α1 → PyData) (xs : List α) (ys : α → List α1) (B : α → L2.St → Hp → Prop) (B1 : α → α1 → L2.St → Hp → Prop) : Prop where
  mono : ∀ a b σ2 F' F'', B1 a b σ2 F' → Gr F' F'' → B1 a b σ2 F''
  tgt : ∀ s H0 C cl fp a b v σ2 F' O' H' Q, a ∈ xs → b ∈ ys a → B a σ2 F' → WOk F' O' H' → R X.K F' v (enc1 b) → (∀ σ3, wipe σ3 vs1 = wipe σ2 vs1 → B1 a b σ3 F' → Q σ3 H') → wG (blkX X scope s H0 C cl fp) tg1 v (wipe σ2 vs1) H' Q
theorem flat_map {α α1 γ : Type} {encR : γ → PyData} {xs : List α} {ys : α → List α1} {f0 : α → α1 → γ} : (xs.flatMap fun a => (ys a).filterMap fun b => some (encR (f0 a b))) = (xs.flatMap fun a => (ys a).map (f0 a)).map encR := by
  rw [List.map_flatMap]
  congr 1; funext a
  rw [List.map_map, ← List.filterMap_eq_map]; rfl
theorem flat_filter {α α1 γ : Type} {encR : γ → PyData} {xs : List α} {ys : α → List α1} {f0 : α → α1 → γ} {pr : α → α1 → Bool} : (xs.flatMap fun a => (ys a).filterMap fun b => if pr a b then some (encR (f0 a b)) else none) = (xs.flatMap fun a => ((ys a).filter (pr a)).map (f0 a)).map encR := by
  rw [List.map_flatMap]
  congr 1; funext a
  rw [List.map_map]
  induction ys a with
  | nil => rfl
  | cons b bs ih =>
    rw [List.filterMap_cons, List.filter_cons]
    cases h : pr a b with
    | true => rw [if_pos rfl, if_pos rfl, List.map_cons, ← ih]; rfl
    | false => rw [if_neg (by decide), if_neg (by decide), ← ih]
theorem lc2n_read {B : α → L2.St → Hp → Prop} {B1 : α → α1 → L2.St → Hp → Prop} {ys : α → List α1} {f0 : α → α1 → γ} (hi : ZI X tg iter σ F O (xs.map enc) O) (bd : Bd X scope tg (own.map (·.2)) σ enc xs B)
    (hi1 : ∀ s H0 C cl fp a σ2 F', a ∈ xs → Gr F F' → B a σ2 F' → ZI (blkX X scope s H0 C cl fp) tg1 iter1 σ2 F' O ((ys a).map enc1) O) (bd1 : Bd1 X scope tg1 vs1 enc1 xs ys B B1)
    (he : ∀ s H0 C cl fp a b σ3 F', a ∈ xs → b ∈ ys a → Gr F F' → B1 a b σ3 F' → ZE (blkX X scope s H0 C cl fp) elt σ3 F' O (encR (f0 a b)) O) (hz : (xs.flatMap fun a => (ys a).map (f0 a)).length ≤ sizeLine)
    {F1 H : Hp} (g1 : Gr F F1) (w : WOk F1 O H) {Q : VK} (q : ∀ p us F2 H2, H p = none → Stp F1 O H F2 ((p, .lst us) :: O) H2 → RA X.K F2 us ((xs.flatMap fun a => (ys a).map (f0 a)).map encR) → Q (.ref p) H2) :
    tLc2 (wI X tg iter) (uG X scope tg) tYes (uI X scope tg1 iter1) (uG X scope tg1) tYes (uE X scope elt) (own.map (·.2)) vs1 σ H Q :=
  lc2_read (ys := ys) (r := fun a b => some (encR (f0 a b))) (B := B) (enc1 := enc1) (fun F1 H g1 w Q q => hi F1 H g1 w Q q) (fun a x F' O' H' Q ha w r k s H0 C cl fp => bd.tgt s H0 C cl fp a x F' O' H' Q ha w r fun σ2 b2 => k σ2 (bd.wp _ _ _ b2) b2) bd.mono
    (fun a σ2 F1 H ha g b2 w Q q s H0 C cl fp => hi1 s H0 C cl fp a σ2 F1 ha g b2 F1 H Gr.refl w Q q)
    (fun a b σ2 x F' H' ha hb g w b2 r Q1 Q0 h1 h0 s H0 C cl fp => bd1.tgt s H0 C cl fp a b x σ2 F' O H' _ ha hb b2 w r fun σ3 hw b3 => ⟨hw, tYes_if fun s H0 C cl fp => he s H0 C cl fp a b σ3 F' ha hb g b3 F' H' Gr.refl w _ fun u F2 H2 s2 r2 => h1 u F2 H2 _ rfl s2 r2⟩)
    (by rw [flat_map, List.length_map]; exact hz) g1 w fun p us F2 H2 hp s r => q p us F2 H2 hp s (by rw [flat_map] at r; exact r)
theorem lc2t_read {B : α → L2.St → Hp → Prop} {B1 : α → α1 → L2.St → Hp → Prop} {ys : α → List α1} {f0 : α → α1 → γ} {pr : α → α1 → Bool} {c : Expr} (hi : ZI X tg iter σ F O (xs.map enc) O) (bd : Bd X scope tg (own.map (·.2)) σ enc xs B)
    (hi1 : ∀ s H0 C cl fp a σ2 F', a ∈ xs → Gr F F' → B a σ2 F' → ZI (blkX X scope s H0 C cl fp) tg1 iter1 σ2 F' O ((ys a).map enc1) O) (bd1 : Bd1 X scope tg1 vs1 enc1 xs ys B B1)
    (ht : ∀ s H0 C cl fp a b σ3 F', a ∈ xs → b ∈ ys a → Gr F F' → B1 a b σ3 F' → ZT (blkX X scope s H0 C cl fp) c σ3 F' O (pr a b) O)
    (he : ∀ s H0 C cl fp a b σ3 F', a ∈ xs → b ∈ ys a → pr a b = true → Gr F F' → B1 a b σ3 F' → ZE (blkX X scope s H0 C cl fp) elt σ3 F' O (encR (f0 a b)) O) (hz : (xs.flatMap fun a => ((ys a).filter (pr a)).map (f0 a)).length ≤ sizeLine)
    {F1 H : Hp} (g1 : Gr F F1) (w : WOk F1 O H) {Q : VK} (q : ∀ p us F2 H2, H p = none → Stp F1 O H F2 ((p, .lst us) :: O) H2 → RA X.K F2 us ((xs.flatMap fun a => ((ys a).filter (pr a)).map (f0 a)).map encR) → Q (.ref p) H2) :
    tLc2 (wI X tg iter) (uG X scope tg) tYes (uI X scope tg1 iter1) (uG X scope tg1) (uT X scope c) (uE X scope elt) (own.map (·.2)) vs1 σ H Q :=
  lc2_read (ys := ys) (r := fun a b => if pr a b then some (encR (f0 a b)) else none) (B := B) (enc1 := enc1) (fun F1 H g1 w Q q => hi F1 H g1 w Q q) (fun a x F' O' H' Q ha w r k s H0 C cl fp => bd.tgt s H0 C cl fp a x F' O' H' Q ha w r fun σ2 b2 => k σ2 (bd.wp _ _ _ b2) b2) bd.mono
    (fun a σ2 F1 H ha g b2 w Q q s H0 C cl fp => hi1 s H0 C cl fp a σ2 F1 ha g b2 F1 H Gr.refl w Q q)
    (fun a b σ2 x F' H' ha hb g w b2 r Q1 Q0 h1 h0 s H0 C cl fp => bd1.tgt s H0 C cl fp a b x σ2 F' O H' _ ha hb b2 w r fun σ3 hw b3 => ⟨hw, fun s H0 C cl fp => ht s H0 C cl fp a b σ3 F' ha hb g b3 F' H' Gr.refl w _ fun F2 H2 s2 => by
      cases hp : pr a b with
      | true =>
        rw [if_pos rfl]
        intro s H0 C cl fp
        exact he s H0 C cl fp a b σ3 F2 ha hb hp (g.trans s2.gr) (bd1.mono _ _ _ _ _ b3 s2.gr) F2 H2 Gr.refl s2.ok _ fun u F3 H3 s3 r3 => h1 u F3 H3 _ (by rw [hp]; rfl) (s2.trans s3) r3
      | false =>
        rw [if_neg (by decide)]
        exact h0 F2 H2 (by rw [hp]; rfl) s2⟩)
    (by rw [flat_filter, List.length_map]; exact hz) g1 w fun p us F2 H2 hp s r => q p us F2 H2 hp s (by rw [flat_filter] at r; exact r)
theorem zn_lc2n {B : α → L2.St → Hp → Prop} {B1 : α → α1 → L2.St → Hp → Prop} {ys : α → List α1} {f0 : α → α1 → γ} (hc : X.calm = true) (hN : X.N.Nodup) (hi : ZI X tg iter σ F O (xs.map enc) O) (bd : Bd X scope tg (own.map (·.2)) σ enc xs B)
    (hi1 : ∀ s H0 C cl fp a σ2 F', a ∈ xs → Gr F F' → B a σ2 F' → ZI (blkX X scope s H0 C cl fp) tg1 iter1 σ2 F' O ((ys a).map enc1) O) (bd1 : Bd1 X scope tg1 vs1 enc1 xs ys B B1)
    (he : ∀ s H0 C cl fp a b σ3 F', a ∈ xs → b ∈ ys a → Gr F F' → B1 a b σ3 F' → ZE (blkX X scope s H0 C cl fp) elt σ3 F' O (encR (f0 a b)) O) (hz : (xs.flatMap fun a => (ys a).map (f0 a)).length ≤ sizeLine)
    (ok : BlkOk X.N X.env.scope scope own) (hv : ∀ i ∈ vs1, i ∈ own.map (·.2)) (hs : ∀ x, foldedSetIterable iter X.env x = pure x := by intro _; rfl) (hs1 : ∀ env x, foldedSetIterable iter1 env x = pure x := by intro _ _; rfl) :
    ZN X (.ListComp elt [⟨tg, iter, [], 0⟩, ⟨tg1, iter1, [], 0⟩] scope pos) σ F O ((xs.flatMap fun a => (ys a).map (f0 a)).map encR) O := fun F1 H g1 w Q q =>
  wE_of (pe_lc2 hc hN pi_w ok hv pg_u (fun s H C cl fp => pts_nil) pi_u pg_u (fun s H C cl fp => pts_nil) pe_u hs hs1) (lc2n_read hi bd hi1 bd1 he hz g1 w q)
theorem zn_lc2t {B : α → L2.St → Hp → Prop} {B1 : α → α1 → L2.St → Hp → Prop} {ys : α → List α1} {f0 : α → α1 → γ} {pr : α → α1 → Bool} {c : Expr} (hc : X.calm = true) (hN : X.N.Nodup) (hi : ZI X tg iter σ F O (xs.map enc) O) (bd : Bd X scope tg (own.map (·.2)) σ enc xs B)
    (hi1 : ∀ s H0 C cl fp a σ2 F', a ∈ xs → Gr F F' → B a σ2 F' → ZI (blkX X scope s H0 C cl fp) tg1 iter1 σ2 F' O ((ys a).map enc1) O) (bd1 : Bd1 X scope tg1 vs1 enc1 xs ys B B1)
    (ht : ∀ s H0 C cl fp a b σ3 F', a ∈ xs → b ∈ ys a → Gr F F' → B1 a b σ3 F' → ZT (blkX X scope s H0 C cl fp) c σ3 F' O (pr a b) O)
    (he : ∀ s H0 C cl fp a b σ3 F', a ∈ xs → b ∈ ys a → pr a b = true → Gr F F' → B1 a b σ3 F' → ZE (blkX X scope s H0 C cl fp) elt σ3 F' O (encR (f0 a b)) O) (hz : (xs.flatMap fun a => ((ys a).filter (pr a)).map (f0 a)).length ≤ sizeLine)
    (ok : BlkOk X.N X.env.scope scope own) (hv : ∀ i ∈ vs1, i ∈ own.map (·.2)) (hs : ∀ x, foldedSetIterable iter X.env x = pure x := by intro _; rfl) (hs1 : ∀ env x, foldedSetIterable iter1 env x = pure x := by intro _ _; rfl) :
    ZN X (.ListComp elt [⟨tg, iter, [], 0⟩, ⟨tg1, iter1, [c], 0⟩] scope pos) σ F O ((xs.flatMap fun a => ((ys a).filter (pr a)).map (f0 a)).map encR) O := fun F1 H g1 w Q q =>
  wE_of (pe_lc2 hc hN pi_w ok hv pg_u (fun s H C cl fp => pts_nil) pi_u pg_u (fun s H C cl fp => pts_one (pt_u s H C cl fp)) pe_u hs hs1) (lc2t_read hi bd hi1 bd1 ht he hz g1 w q)
theorem zs_setLc2n (w : WOk F O H) {i0 : Nat} {rest : List Stmt} {D : Ends} {B : α → L2.St → Hp → Prop} {B1 : α → α1 → L2.St → Hp → Prop} {ys : α → List α1} {f0 : α → α1 → γ} (hc : X.calm = true) (hN : X.N.Nodup) (hi : ZI X tg iter σ F O (xs.map enc) O) (bd : Bd X scope tg (own.map (·.2)) σ enc xs B)
    (hi1 : ∀ s H0 C cl fp a σ2 F', a ∈ xs → Gr F F' → B a σ2 F' → ZI (blkX X scope s H0 C cl fp) tg1 iter1 σ2 F' O ((ys a).map enc1) O) (bd1 : Bd1 X scope tg1 vs1 enc1 xs ys B B1)
    (he : ∀ s H0 C cl fp a b σ3 F', a ∈ xs → b ∈ ys a → Gr F F' → B1 a b σ3 F' → ZE (blkX X scope s H0 C cl fp) elt σ3 F' O (encR (f0 a b)) O) (hz : (xs.flatMap fun a => (ys a).map (f0 a)).length ≤ sizeLine)
    (ok : BlkOk X.N X.env.scope scope own) (hv : ∀ i ∈ vs1, i ∈ own.map (·.2)) (hy : X.N[i0]? = some y) (hyl : X.env.scope.names.lookup y = some .local)
    (hsw : swapsWith (.ListComp elt [⟨tg, iter, [], 0⟩, ⟨tg1, iter1, [], 0⟩] scope pos) (some (.Name y py)) spos.line X.env = pure true)
    (kk : ∀ p us F1 H1, H p = none → Stp F O H F1 ((p, .lst us) :: O) H1 → RA X.K F1 us ((xs.flatMap fun a => (ys a).map (f0 a)).map encR) → ZS X rest (σ.set i0 (some (.ref p))) H1 D) (hs : ∀ x, foldedSetIterable iter X.env x = pure x := by intro _; rfl) (hs1 : ∀ env x, foldedSetIterable iter1 env x = pure x := by intro _ _; rfl) :
    ZS X (.Assign [.Name y py] (.ListComp elt [⟨tg, iter, [], 0⟩, ⟨tg1, iter1, [], 0⟩] scope pos) spos :: rest) σ H D :=
  wSs_of (pss_cons (ps_setLc2 hc hN hy hyl hsw pi_w ok hv pg_u (fun s H C cl fp => pts_nil) pi_u pg_u (fun s H C cl fp => pts_nil) pe_u hs hs1) pss_w) (lc2n_read (Q := fun v H' => ZS X rest (σ.set i0 (some v)) H' D) hi bd hi1 bd1 he hz Gr.refl w fun p us F2 H2 hp s ra => kk p us F2 H2 hp s ra)
theorem zs_setLc2t (w : WOk F O H) {i0 : Nat} {rest : List Stmt} {D : Ends} {B : α → L2.St → Hp → Prop} {B1 : α → α1 → L2.St → Hp → Prop} {ys : α → List α1} {f0 : α → α1 → γ} {pr : α → α1 → Bool} {c : Expr} (hc : X.calm = true) (hN : X.N.Nodup) (hi : ZI X tg iter σ F O (xs.map enc) O) (bd : Bd X scope tg (own.map (·.2)) σ enc xs B)
    (hi1 : ∀ s H0 C cl fp a σ2 F', a ∈ xs → Gr F F' → B a σ2 F' → ZI (blkX X scope s H0 C cl fp) tg1 iter1 σ2 F' O ((ys a).map enc1) O) (bd1 : Bd1 X scope tg1 vs1 enc1 xs ys B B1)
    (ht : ∀ s H0 C cl fp a b σ3 F', a ∈ xs → b ∈ ys a → Gr F F' → B1 a b σ3 F' → ZT (blkX X scope s H0 C cl fp) c σ3 F' O (pr a b) O)
    (he : ∀ s H0 C cl fp a b σ3 F', a ∈ xs → b ∈ ys a → pr a b = true → Gr F F' → B1 a b σ3 F' → ZE (blkX X scope s H0 C cl fp) elt σ3 F' O (encR (f0 a b)) O) (hz : (xs.flatMap fun a => ((ys a).filter (pr a)).map (f0 a)).length ≤ sizeLine)
    (ok : BlkOk X.N X.env.scope scope own) (hv : ∀ i ∈ vs1, i ∈ own.map (·.2)) (hy : X.N[i0]? = some y) (hyl : X.env.scope.names.lookup y = some .local)
    (hsw : swapsWith (.ListComp elt [⟨tg, iter, [], 0⟩, ⟨tg1, iter1, [c], 0⟩] scope pos) (some (.Name y py)) spos.line X.env = pure true)
    (kk : ∀ p us F1 H1, H p = none → Stp F O H F1 ((p, .lst us) :: O) H1 → RA X.K F1 us ((xs.flatMap fun a => ((ys a).filter (pr a)).map (f0 a)).map encR) → ZS X rest (σ.set i0 (some (.ref p))) H1 D) (hs : ∀ x, foldedSetIterable iter X.env x = pure x := by intro _; rfl) (hs1 : ∀ env x, foldedSetIterable iter1 env x = pure x := by intro _ _; rfl) :
    ZS X (.Assign [.Name y py] (.ListComp elt [⟨tg, iter, [], 0⟩, ⟨tg1, iter1, [c], 0⟩] scope pos) spos :: rest) σ H D :=
  wSs_of (pss_cons (ps_setLc2 hc hN hy hyl hsw pi_w ok hv pg_u (fun s H C cl fp => pts_nil) pi_u pg_u (fun s H C cl fp => pts_one (pt_u s H C cl fp)) pe_u hs hs1) pss_w) (lc2t_read (Q := fun v H' => ZS X rest (σ.set i0 (some v)) H' D) hi bd hi1 bd1 ht he hz Gr.refl w fun p us F2 H2 hp s ra => kk p us F2 H2 hp s ra)
end
end Z

end
section
namespace Z
open PySem PySem.Spec PyProof.Rows L2
/-! ### sorted, pairs of ints -/
def leP (a b : Int × Int) : Bool := !SrtO.lexB b a
def sortP (xs : List (Int × Int)) : List (Int × Int) := xs.mergeSort leP
theorem leP_iff {a b : Int × Int} : leP a b = true ↔ a.1 < b.1 ∨ (a.1 = b.1 ∧ a.2 ≤ b.2) := by
  unfold leP
  rw [Bool.not_eq_true', SrtO.lexB_no]
  omega
theorem sortP_perm (xs : List (Int × Int)) : (sortP xs).Perm xs := List.mergeSort_perm _ _
theorem sortP_sorted (xs : List (Int × Int)) : (sortP xs).Pairwise (fun a b => leP a b = true) :=
  List.pairwise_mergeSort (le := leP) (fun a b c h1 h2 => leP_iff.mpr (by have := leP_iff.mp h1; have := leP_iff.mp h2; omega)) (fun a b => by
    cases h : leP a b with
    | true => rfl
    | false =>
      have h2 : ¬ (a.1 < b.1 ∨ (a.1 = b.1 ∧ a.2 ≤ b.2)) := fun z => by rw [leP_iff.mpr z] at h; cases h
      show (false || leP b a) = true
      rw [Bool.false_or]
      exact leP_iff.mpr (by omega)) xs
theorem sortedP_unique {xs ys : List (Int × Int)} (h : xs.Perm ys) (hx : xs.Pairwise (fun a b => leP a b = true)) (hy : ys.Pairwise (fun a b => leP a b = true)) : xs = ys :=
  List.Perm.eq_of_pairwise (fun a b _ _ h1 h2 => by
    have := leP_iff.mp h1; have := leP_iff.mp h2
    exact Prod.ext (by omega) (by omega)) hx hy h
theorem sortP_of {xs : List (Int × Int)} (h : xs.Pairwise (fun a b => leP a b = true)) : sortP xs = xs := sortedP_unique (sortP_perm xs) (sortP_sorted xs) h
theorem sortI_of {xs : List Int} (h : xs.Pairwise (· ≤ ·)) : sortI xs = xs := sorted_unique (sortI_perm xs) (sortI_sorted xs) h
def keyP (F : Hp) (v : V) : Int × Int := match v with
  | .ref t => (match F t with | some (.tup [.int i, .int j]) => (i, j) | _ => (0, 0))
  | _ => (0, 0)
theorem R.pair {K : PySem.W.Frag} {F : Hp} {v : V} {p : Int × Int} (h : R K F v (eT2 eI eI p)) : ∃ t, v = .ref t ∧ F t = some (.tup [.int p.1, .int p.2]) ∧ keyP F v = p := by
  obtain ⟨t, vs, rfl, e, r⟩ := h.tupH_inv
  obtain ⟨u, w, rfl, r1, r2⟩ := r.two
  rw [r1.int_inv, r2.int_inv] at e
  exact ⟨t, rfl, e, by show (match F t with | some (.tup [.int i, .int j]) => (i, j) | _ => (0, 0)) = p; rw [e]⟩
theorem RA.pairs {K : PySem.W.Frag} {F : Hp} : ∀ {vs : List V} {ps : List (Int × Int)}, RA K F vs (ps.map (eT2 eI eI)) → vs.map (keyP F) = ps ∧ ∀ v ∈ vs, ∃ t, v = .ref t ∧ F t = some (.tup [.int (keyP F v).1, .int (keyP F v).2]) ∧ R K F v (eT2 eI eI (keyP F v))
  | vs, [], h => by
    have := h.nil_inv
    subst this
    exact ⟨rfl, fun _ z => nomatch z⟩
  | vs, p :: ps, h => by
    obtain ⟨v, ws, rfl, r, t⟩ := RA.cons_inv (show RA K F vs (eT2 eI eI p :: ps.map (eT2 eI eI)) from h)
    obtain ⟨e, g⟩ := RA.pairs t
    obtain ⟨a, rfl, ea, k⟩ := r.pair
    refine ⟨by rw [List.map_cons, e, k], fun u hu => ?_⟩
    rcases List.mem_cons.mp hu with rfl | hu
    · exact ⟨a, rfl, by rw [k]; exact ea, by rw [k]; exact r⟩
    · exact g u hu
theorem RA.of_all {K : PySem.W.Frag} {F : Hp} {f : V → PyData} : ∀ {vs : List V}, (∀ v ∈ vs, R K F v (f v)) → RA K F vs (vs.map f)
  | [], _ => .nil
  | v :: vs, h => .cons (h v List.mem_cons_self) (RA.of_all fun u hu => h u (List.mem_cons_of_mem _ hu))
section
variable {X : Cx} {e a b c tg iter elt : Expr} {es : List Expr} {σ : L2.St} {F H : Hp} {O O1 O2 O3 : Own} {d da db : PyData} {ds rs : List PyData} {pos p p2 apos cpos : Pos} {i j : Int} {k k1 k2 : Bool} {x y : Str} {n m : Nat}
theorem zn_sortP {ps : List (Int × Int)} (hm : X.mg "sorted" = none) (ha : ZE X e σ F O (eL (eT2 eI eI) ps) O1) (hg : Gl X "sorted" := by rfl) (he : starEach [e] X.env = (false, eval e X.env) :: starEach [] X.env := by rfl) (hpl : (backTo pos (starEach [] X.env)).any (·.1) = false := by rfl) : ZN X (.Call (.Name "sorted" p) [e] [] pos) σ F O ((sortP ps).map (eT2 eI eI)) O1 :=
  zn_callB cr_sortedPO hm (by decide +kernel) (za_cons ha za_nil he) (fun F1 H1 vs _ w r Q q => by
    obtain ⟨v, rfl, r1⟩ := r.one
    obtain ⟨l, xs, rfl, e1, a1⟩ := r1.lst_inv
    obtain ⟨hk, hx⟩ := a1.pairs
    refine ⟨l, xs, keyP F1, rfl, .inl (.inl (w.sub _ _ e1)), fun x hxm => ?_, fun ys p hs hb hn => ?_⟩
    · obtain ⟨t, e2, e3, _⟩ := hx x hxm
      exact ⟨t, e2, w.sub _ _ e3⟩
    · have ee : ys.map (keyP F1) = sortP ps := by
        refine sortedP_unique (((hb.perm.map (keyP F1)).trans (by rw [hk])).trans (sortP_perm ps).symm) ?_ (sortP_sorted ps)
        rw [List.pairwise_map]
        exact hs.imp fun {a b} h => by
          show leP (keyP F1 a) (keyP F1 b) = true
          unfold leP
          rw [show SrtO.lexB (keyP F1 b) (keyP F1 a) = false from h]; rfl
      have hz := w.sz _ _ e1
      have ra : RA X.K F1 ys ((sortP ps).map (eT2 eI eI)) := by
        rw [← ee, List.map_map]
        exact RA.of_all fun v hv => (hx v (hb.perm.mem_iff.mp hv)).elim fun t ht => ht.2.2
      exact q p _ _ _ hn (Stp.alloc w hn (by show ys.length ≤ _; rw [hb.perm.length_eq]; exact hz)) ra) hg (by decide) (by decide) he hpl

/-! ### list(range(..)) -/
theorem zn_lr1 {px : Pos} (hc : X.calm = true) (hl : X.mg "list" = none) (hm : X.mg "range" = none) (ha : ZE X a σ F O (.int j) O1) (hj : -16777216 ≤ j ∧ j ≤ 16777216) (hgl : Gl X "list" := by rfl) (hg : Gl X "range" := by rfl) (na : starEach [a] X.env = (false, eval a X.env) :: starEach [] X.env := by rfl)
    (nb : starEach [.Call (.Name "range" p2) [a] [] px] X.env = (false, eval (.Call (.Name "range" p2) [a] [] px) X.env) :: starEach [] X.env := by rfl) : ZN X (.Call (.Name "list" p) [.Call (.Name "range" p2) [a] [] px] [] pos) σ F O ((rangeI 0 j).map eI) O1 := fun F1 H g w Q q =>
  wE_of (pe_listRg hc hgl hl (prg_1 hg hm pe_w na) nb) (ha F1 H g w _ fun v F2 H2 s1 r1 => ⟨j, r1.int_inv, ⟨by omega, by omega, by omega, by omega, by omega⟩, fun l hl => by
    have hz : (rgV 0 j).length ≤ sizeLine := by rw [rgV_length, ← szL]; omega
    refine q l (rgV 0 j) _ _ ?_ (s1.trans (Stp.alloc s1.ok hl hz)) ?_
    · cases z : H l with
      | none => rfl
      | some u => exact absurd hl (s1.dom l (by rw [z]; simp))
    · have e : rgV 0 j = (rangeI 0 j).map V.int := by unfold rgV rangeI; rw [List.map_map]; rfl
      rw [e]; exact ra_ints _⟩)
theorem zn_lr2 {px : Pos} (hc : X.calm = true) (hl : X.mg "list" = none) (hm : X.mg "range" = none) (ha : ZE X a σ F O (.int i) O1) (hb : ZE X b σ F O1 (.int j) O2) (hj : -16777216 ≤ i ∧ i ≤ 16777216 ∧ -16777216 ≤ j ∧ j ≤ 16777216 ∧ j - i ≤ 16777216) (hgl : Gl X "list" := by rfl) (hg : Gl X "range" := by rfl) (na : starEach [a, b] X.env = (false, eval a X.env) :: starEach [b] X.env := by rfl)
    (nb : starEach [b] X.env = (false, eval b X.env) :: starEach [] X.env := by rfl) (hp : (backTo px (starEach [b] X.env)).any (·.1) = false := by rfl)
    (nc : starEach [.Call (.Name "range" p2) [a, b] [] px] X.env = (false, eval (.Call (.Name "range" p2) [a, b] [] px) X.env) :: starEach [] X.env := by rfl) : ZN X (.Call (.Name "list" p) [.Call (.Name "range" p2) [a, b] [] px] [] pos) σ F O ((rangeI i j).map eI) O2 := fun F1 H g w Q q =>
  wE_of (pe_listRg hc hgl hl (prg_2 hg hm pe_w pe_w na nb hp) nc) (ha F1 H g w _ fun v F2 H2 s1 r1 => hb F2 H2 (g.trans s1.gr) s1.ok _ fun u F3 H3 s2 r2 => ⟨i, j, r1.int_inv, r2.int_inv, ⟨by omega, by omega, by omega, by omega, by omega⟩, fun l hl => by
    have s3 := s1.trans s2
    have hz : (rgV i j).length ≤ sizeLine := by rw [rgV_length, ← szL]; omega
    refine q l (rgV i j) _ _ ?_ (s3.trans (Stp.alloc s3.ok hl hz)) ?_
    · cases z : H l with
      | none => rfl
      | some u => exact absurd hl (s3.dom l (by rw [z]; simp))
    · have e : rgV i j = (rangeI i j).map V.int := by unfold rgV rangeI; rw [List.map_map]; rfl
      rw [e]; exact ra_ints _⟩)
/-! ### max, min of two -/
theorem ze_max2 (hc : X.calm = true) (hm : X.mg "max" = none) (ha : ZE X a σ F O (.int i) O1) (hb : ZE X b σ F O1 (.int j) O2) (hg : Gl X "max" := by rfl) (na : starEach [a, b] X.env = (false, eval a X.env) :: starEach [b] X.env := by rfl)
    (nb : starEach [b] X.env = (false, eval b X.env) :: starEach [] X.env := by rfl) (hp : (backTo pos (starEach [b] X.env)).any (·.1) = false := by rfl) : ZE X (.Call (.Name "max" p) [a, b] [] pos) σ F O (eI (if j > i then j else i)) O2 :=
  ze_callB (call_max2 hc) hm (by decide +kernel) (za_cons ha (za_cons hb za_nil nb) na) (fun F1 H1 vs _ w r Q q => by
    obtain ⟨v, u, rfl, r1, r2⟩ := r.two
    exact ⟨i, j, by rw [r1.int_inv, r2.int_inv], q _ _ _ (Stp.refl w) (.int _)⟩) hg (by decide) (by decide) na hp
theorem ze_min2 (hc : X.calm = true) (hm : X.mg "min" = none) (ha : ZE X a σ F O (.int i) O1) (hb : ZE X b σ F O1 (.int j) O2) (hg : Gl X "min" := by rfl) (na : starEach [a, b] X.env = (false, eval a X.env) :: starEach [b] X.env := by rfl)
    (nb : starEach [b] X.env = (false, eval b X.env) :: starEach [] X.env := by rfl) (hp : (backTo pos (starEach [b] X.env)).any (·.1) = false := by rfl) : ZE X (.Call (.Name "min" p) [a, b] [] pos) σ F O (eI (if j < i then j else i)) O2 :=
  ze_callB (call_min2 hc) hm (by decide +kernel) (za_cons ha (za_cons hb za_nil nb) na) (fun F1 H1 vs _ w r Q q => by
    obtain ⟨v, u, rfl, r1, r2⟩ := r.two
    exact ⟨i, j, by rw [r1.int_inv, r2.int_inv], q _ _ _ (Stp.refl w) (.int _)⟩) hg (by decide) (by decide) na hp
/-! ### xs.remove(k) of ints, a list that is mine -/
theorem zs_removeI (w : WOk F O H) (n m : Nat) {rest : List Stmt} {D : Ends} {q : Addr} {vs : List V} {ns : List Int} {px : Pos} (hσ : σ[n]? = some (some (.ref q))) (he : ZE X e σ F O (.int i) O1) (hO : O1[m]? = some (q, .lst vs)) (hr : RA X.K F vs (ns.map eI)) (hi : i ∈ ns)
    (kk : ∀ F1 H1, Stp F O H F1 (O1.set m (q, .lst ((ns.erase i).map V.int))) H1 → ZS X rest σ H1 D) (hN : X.N[n]? = some x := by rfl) (hO0 : ∃ o, O[m]? = some (q, .lst o) := by exact ⟨_, rfl⟩)
    (hv : Vis X.env.scope x := by first | exact Or.inl rfl | exact Or.inr (Or.inl rfl) | exact Or.inr (Or.inr rfl)) (hd : (x == ("__debug__" : Str)) = false := by decide) (hcd : (x == ("__classdict__" : Str)) = false := by decide)
    (hs : swapsWith (.Call (.Attribute (.Name x px) "remove" apos) [e] [] cpos) none pos.line X.env = pure false := by rfl)
    (hbase : attributeBase (.Name x px) "remove" X.env (eval (.Name x px) X.env) = eval (.Name x px) X.env := by rfl)
    (hfew : ((backTo cpos (starEach (e :: []) X.env)).all (fun x => !x.1) && (backToKw cpos (keywordEach [] X.env)).all (fun x => x.1.isSome)
      && decide ((e :: []).length + ([] : List Keyword).length + (if ([] : List Keyword).isEmpty then 0 else 1) < 30)) = true := by rfl)
    (hline : (apos.endLine == cpos.line) = true := by rfl) (hse : starEach (e :: []) X.env = (false, eval e X.env) :: starEach [] X.env := by rfl) (hplain : (backTo cpos (starEach [] X.env)).any (·.1) = false := by rfl) :
    ZS X (.Expr (.Call (.Attribute (.Name x px) "remove" apos) [e] [] cpos) pos :: rest) σ H D := by
  obtain ⟨o0, hO0⟩ := hO0
  have hvs := ints_ra hr
  subst hvs
  refine wSs_of (pss_cons (ps_expr (pe_bm PySem.F.plainAttrs_list PySem.F.slot_list_remove PySem.F.type_list_remove mt_remove (pe_var hN hv hd hcd) (pa_cons pe_w pa_nil hse) hbase hfew hline hse hplain) hs) pss_w) ?_
  refine ⟨_, hσ, .inl ⟨rfl, _, .inl (.inl (w.at_ hO0).1)⟩, he F H Gr.refl w _ fun v F1 H1 s1 r1 => ?_⟩
  have hlt := List.idxOf_lt_length_iff.mpr hi
  refine ⟨q, ns, i, ns.idxOf i, rfl, by rw [r1.int_inv], (s1.ok.at_ hO).1, by rw [List.getElem?_eq_getElem hlt, List.getElem_idxOf], fun m' hm hz => idxOf_before ns i m' i hm hz rfl, ?_⟩
  rw [← List.erase_eq_eraseIdx_of_idxOf rfl]
  have hz := s1.ok.szo _ (List.mem_of_getElem? hO) _ rfl
  exact kk F1 _ (s1.trans (Stp.write s1.ok hO (by
    show ((ns.erase i).map V.int).length ≤ _
    rw [List.length_map] at hz ⊢
    exact Nat.le_trans (List.length_erase_le) hz)))
end
end Z

end
section
namespace Z
open PySem PySem.Spec PyProof.Rows L2
section
variable {X : Cx} {e a b c tg iter elt tg1 iter1 : Expr} {es : List Expr} {σ : L2.St} {F H : Hp} {O O1 O2 O3 : Own} {d da db : PyData} {ds rs : List PyData} {pos p : Pos} {i j : Int} {k k1 k2 : Bool} {x y : Str} {n m : Nat} {px py spos : Pos} {scope : Scope} {ifs : List Expr}
variable {α α1 β γ : Type} {G : β → Own} {enc : α → PyData} {enc1 : α1 → PyData} {encR : γ → PyData} {xs : List α} {st0 : β} {own : List (Str × Nat)} {vs1 : List Nat}
theorem zt_to {k' : Bool} {O1' : Own} (h : ZT X e σ F O k O1) (hd : k = k') (hO : O1 = O1') : ZT X e σ F O k' O1' := hd ▸ hO ▸ h
theorem runS_genU {pr : α → Bool} {f0 : α → γ} (xs : List α) : (runS (genF (fun (_ : Unit) a => pr a) (fun _ a => f0 a) (fun _ _ => ()) (fun _ _ => ())) () xs).1 = (xs.filter pr).map f0 := by
  rw [← runS_filter]
  congr 2
  funext st a
  show (if pr a = true then (some (f0 a), ()) else (none, ())) = ((if pr a = true then some (f0 a) else none), ())
  cases h : pr a with
  | true => rw [if_pos rfl, if_pos rfl]
  | false => rw [if_neg (by decide), if_neg (by decide)]
theorem mapS_U {f0 : α → γ} : ∀ xs : List α, (mapS (fun (_ : Unit) a => (f0 a, ())) () xs).1 = xs.map f0
  | [] => rfl
  | a :: xs => by show _ :: _ = _; rw [mapS_U xs]; rfl
/-- the same without a state -/
theorem zn_lcXtp {B : α → L2.St → Hp → Prop} {pr : α → Bool} {f0 : α → γ} {c : Expr} (hc : X.calm = true) (hN : X.N.Nodup) (hi : ZI X tg iter σ F O (xs.map enc) O1) (bd : Bd X scope tg (own.map (·.2)) σ enc xs B)
    (ht : ∀ s H0 C cl fp a σ2 F', a ∈ xs → Gr F F' → B a σ2 F' → ZT (blkX X scope s H0 C cl fp) c σ2 F' O1 (pr a) O1)
    (he : ∀ s H0 C cl fp a σ2 F', a ∈ xs → pr a = true → Gr F F' → B a σ2 F' → ZE (blkX X scope s H0 C cl fp) elt σ2 F' O1 (encR (f0 a)) O1)
    (ok : BlkOk X.N X.env.scope scope own) (hs : ∀ x, foldedSetIterable iter X.env x = pure x := by intro _; rfl) :
    ZN X (.ListComp elt [⟨tg, iter, [c], 0⟩] scope pos) σ F O (((xs.filter pr).map f0).map encR) O1 :=
  zn_eq (zn_lcXt (G := fun _ : Unit => O1) (st0 := ()) (pr := fun _ a => pr a) (f0 := fun _ a => f0 a) (s1 := fun _ _ => ()) (s2 := fun _ _ => ()) hc hN hi bd (fun s H0 C cl fp _ a σ2 F' => ht s H0 C cl fp a σ2 F') (fun s H0 C cl fp _ a σ2 F' => he s H0 C cl fp a σ2 F') ok hs) (by rw [runS_genU])
theorem zn_lcXnp {B : α → L2.St → Hp → Prop} {f0 : α → γ} (hc : X.calm = true) (hN : X.N.Nodup) (hi : ZI X tg iter σ F O (xs.map enc) O1) (bd : Bd X scope tg (own.map (·.2)) σ enc xs B)
    (he : ∀ s H0 C cl fp a σ2 F', a ∈ xs → Gr F F' → B a σ2 F' → ZE (blkX X scope s H0 C cl fp) elt σ2 F' O1 (encR (f0 a)) O1)
    (ok : BlkOk X.N X.env.scope scope own) (hs : ∀ x, foldedSetIterable iter X.env x = pure x := by intro _; rfl) :
    ZN X (.ListComp elt [⟨tg, iter, [], 0⟩] scope pos) σ F O ((xs.map f0).map encR) O1 :=
  zn_eq (zn_lcXn (G := fun _ : Unit => O1) (st0 := ()) (f0 := fun _ a => f0 a) (s2 := fun _ _ => ()) hc hN hi bd (fun s H0 C cl fp _ a σ2 F' => he s H0 C cl fp a σ2 F') ok hs) (by rw [mapS_U])
theorem zs_setLcXtp (w : WOk F O H) {i0 : Nat} {rest : List Stmt} {D : Ends} {B : α → L2.St → Hp → Prop} {pr : α → Bool} {f0 : α → γ} {c : Expr} (hc : X.calm = true) (hN : X.N.Nodup) (hi : ZI X tg iter σ F O (xs.map enc) O1) (bd : Bd X scope tg (own.map (·.2)) σ enc xs B)
    (ht : ∀ s H0 C cl fp a σ2 F', a ∈ xs → Gr F F' → B a σ2 F' → ZT (blkX X scope s H0 C cl fp) c σ2 F' O1 (pr a) O1)
    (he : ∀ s H0 C cl fp a σ2 F', a ∈ xs → pr a = true → Gr F F' → B a σ2 F' → ZE (blkX X scope s H0 C cl fp) elt σ2 F' O1 (encR (f0 a)) O1)
    (ok : BlkOk X.N X.env.scope scope own) (hy : X.N[i0]? = some y) (hyl : X.env.scope.names.lookup y = some .local)
    (hsw : swapsWith (.ListComp elt [⟨tg, iter, [c], 0⟩] scope pos) (some (.Name y py)) spos.line X.env = pure true)
    (kk : ∀ p us F1 H1, H p = none → Stp F O H F1 ((p, .lst us) :: O1) H1 → RA X.K F1 us (((xs.filter pr).map f0).map encR) → ZS X rest (σ.set i0 (some (.ref p))) H1 D) (hs : ∀ x, foldedSetIterable iter X.env x = pure x := by intro _; rfl) :
    ZS X (.Assign [.Name y py] (.ListComp elt [⟨tg, iter, [c], 0⟩] scope pos) spos :: rest) σ H D :=
  zs_setLcXt (G := fun _ : Unit => O1) (st0 := ()) (pr := fun _ a => pr a) (f0 := fun _ a => f0 a) (s1 := fun _ _ => ()) (s2 := fun _ _ => ()) w hc hN hi bd (fun s H0 C cl fp _ a σ2 F' => ht s H0 C cl fp a σ2 F') (fun s H0 C cl fp _ a σ2 F' => he s H0 C cl fp a σ2 F') ok hy hyl hsw (fun p us F1 H1 hp s r => kk p us F1 H1 hp s (by rw [runS_genU] at r; exact r)) hs
theorem zs_setLcXnp (w : WOk F O H) {i0 : Nat} {rest : List Stmt} {D : Ends} {B : α → L2.St → Hp → Prop} {f0 : α → γ} (hc : X.calm = true) (hN : X.N.Nodup) (hi : ZI X tg iter σ F O (xs.map enc) O1) (bd : Bd X scope tg (own.map (·.2)) σ enc xs B)
    (he : ∀ s H0 C cl fp a σ2 F', a ∈ xs → Gr F F' → B a σ2 F' → ZE (blkX X scope s H0 C cl fp) elt σ2 F' O1 (encR (f0 a)) O1)
    (ok : BlkOk X.N X.env.scope scope own) (hy : X.N[i0]? = some y) (hyl : X.env.scope.names.lookup y = some .local)
    (hsw : swapsWith (.ListComp elt [⟨tg, iter, [], 0⟩] scope pos) (some (.Name y py)) spos.line X.env = pure true)
    (kk : ∀ p us F1 H1, H p = none → Stp F O H F1 ((p, .lst us) :: O1) H1 → RA X.K F1 us ((xs.map f0).map encR) → ZS X rest (σ.set i0 (some (.ref p))) H1 D) (hs : ∀ x, foldedSetIterable iter X.env x = pure x := by intro _; rfl) :
    ZS X (.Assign [.Name y py] (.ListComp elt [⟨tg, iter, [], 0⟩] scope pos) spos :: rest) σ H D :=
  zs_setLcXn (G := fun _ : Unit => O1) (st0 := ()) (f0 := fun _ a => f0 a) (s2 := fun _ _ => ()) w hc hN hi bd (fun s H0 C cl fp _ a σ2 F' => he s H0 C cl fp a σ2 F') ok hy hyl hsw (fun p us F1 H1 hp s r => kk p us F1 H1 hp s (by rw [mapS_U] at r; exact r)) hs
end
end Z

end
section
namespace Z
open PySem PySem.Spec PyProof.Rows L2
/-! ### set(xs) of a list of ints: the set, as the layer knows it -/
def empS (w : World) : Obj := { cls := .type "set", dict := none, data := .set #[] 0 (.fresh 0 0 (!w.params.followText "set-order")) }
def IntsOfSet (w : World) (ns : List Int) (s : Shared) (S : Addr) (s' : Shared) : Prop :=
  ∃ h' tk c, s' = { s with heap := h', toks := tk } ∧ SetR w h' S (fun j => decide (j ∈ ns)) c ∧ c ≤ ns.length ∧ ∀ b o, s.heap.get? b = some o → h'.get? b = some o
section
variable {P : Program} {w : World} {A : Around} {E : Value → Shared → Prop} {s : Shared}
set_option maxHeartbeats 3200000 in
theorem set_of_ints {l : Addr} {its : Array Value} (ns : List Int) {Q : Value → Shared → Prop} (hh : A.handled = none) (hl : s.heap.IsList l its) (hi : IntsAre its.toList ns) (hb : ns.length + 1 < scanBound)
    (k : ∀ s', IntsOfSet w ns s s.heap.objs.size s' → Q (.ref s.heap.objs.size) s') : wpAny (model P w) A (call (.type "set") [.ref l]) Q E s := by
  have hsz : its.size = ns.length := by
    have q := IntsAre.length hi
    rwa [Array.length_toList] at q
  obtain ⟨c, tl, mro⟩ := F.called_set.mro
  have made := F.called_set.made
  have sub := F.called_set.sub
  have nt := F.called_set.notType
  have cc := F.called_set.canCreate
  have tc := F.typeCall_set_1 (.ref l)
  refine wpAny_call (codeAny_of_tree (wpAny_pure ⟨Code.quiet_builtin _ (by decide +kernel), codeAny_builtin F.entry_type_call ?_⟩))
  rw [Around.under_plain (weight_type_call_type "set" [.ref l] []) rfl]
  repeat (any_goals (first | assumption | wp_step))
  refine codeAny_mono (code_set_led1 (.ref l) (E := E) (Q₁ := fun u s₁ => u = .ref s.heap.objs.size ∧ s₁ = { s with heap := s.heap.push (empS w) }) ⟨rfl, rfl⟩) fun r s₁ hr => ?_
  cases r with
  | error e => exact hr
  | ok fl =>
    cases fl with
    | ret u =>
      obtain ⟨rfl, rfl⟩ := hr
      have g0 : (s.heap.push (empS w)).get? s.heap.objs.size = some (empS w) := Heap.get?_push_size _ rfl
      have ty : Shared.TypeIs { s with heap := s.heap.push (empS w) } (.ref s.heap.objs.size) "set" := ⟨_, g0, rfl⟩
      have il := F.called_set.init.lookup
      have ib := F.called_set.init.bind (.ref s.heap.objs.size)
      repeat (any_goals (first | assumption | wp_step))
      refine codeAny_mono (codeAny_call_builtin (R := wants (fun r s₂ => r = .none ∧ IntsOfSet w ns s s.heap.objs.size s₂) E) F.called_set.init.plain F.entry_set_init (check_set_init_1 ty ?_)) fun r₂ s₂ hr₂ => ?_
      · obtain ⟨ol, gl, cl, nl, dl⟩ := hl
        obtain ⟨oc, od, odt, osl⟩ := ol
        simp only at cl dl
        subst cl; subst dl
        have gl1 := Heap.get?_push_of_some (empS w) gl
        have n1 := F.sub_list_set
        have n2 := F.sub_list_frozenset
        have n3 : (Value.type "list" == Value.type "dict") = false := by decide
        have il1 : (s.heap.push (empS w)).IsList l its := ⟨_, gl1, rfl, nl, rfl⟩
        unfold Builtin.«set.__init__» noKeywords Builtin.Frozenset.updateFrom
        generalize ep : pyIter = PI
        wp_walk
        subst ep
        refine wpAny_pyIter_list il1 (wpAny_bind (wpAny_runValue ?_))
        have lt : l < s.heap.objs.size := Heap.lt_size gl
        have hd : A.in1.in1.in1.handled = none := by simp [hh]
        have ne : l ≠ (s.heap.push (empS w)).objs.size := by rw [Heap.size_push]; exact Nat.ne_of_lt (Nat.lt_succ_of_lt lt)
        have nf : s.heap.objs.size ∉ [(s.heap.push (empS w)).objs.size, l] := by
          rw [Heap.size_push]
          intro z
          rcases List.mem_cons.mp z with z | z
          · exact Nat.ne_of_lt (Nat.lt_succ_self _) z
          · exact Nat.ne_of_gt lt (List.mem_singleton.mp z)
        have val : ∀ (i : Nat) (v : Value), its[i]? = some v → ∃ k t, ns[i]? = some k ∧ v = .int k t := fun i v hv => by
          have lti : i < ns.length := by rw [← hsz]; exact (Array.getElem?_eq_some_iff.mp hv).1
          obtain ⟨t, e⟩ := IntsAre.int_at hi i v (by rw [Array.getElem?_toList]; exact hv)
          exact ⟨ns[i], t, List.getElem?_eq_getElem lti, by rw [e, List.getD_eq_getElem?_getD, List.getElem?_eq_getElem lti]; rfl⟩
        refine set_update_ints ((Walks.list hd _ l ne its).toS) s.heap.objs.size nf ns hsz hb val (its.size - 0) 0 _ (by omega) (Nat.zero_le _) ⟨⟨_, Heap.get?_push_size _ rfl, rfl, rfl⟩, il1.push _⟩ ⟨0, Nat.le_refl 0, setR_new_at (Heap.get?_push_of_some _ g0)⟩ ?_
        intro s' c' mv hc hS
        obtain ⟨h', g2, d2, t2, o2⟩ := s'
        obtain rfl : g2 = s.gens := mv.gens
        obtain rfl : d2 = s.drawn := mv.drawn
        obtain rfl : o2 = s.os := mv.os
        refine wpAny_pure (wpAny_pure ⟨rfl, h', t2, c', rfl, hS, by rw [← hsz]; exact hc, fun b o e => ?_⟩)
        have lb : b < s.heap.objs.size := Heap.lt_size e
        refine mv.heap b o ?_ (Heap.get?_push_of_some _ (Heap.get?_push_of_some _ e))
        rw [Heap.size_push]
        intro z
        rcases List.mem_cons.mp z with z | z
        · exact Nat.ne_of_lt lb z
        · exact Nat.ne_of_lt (Nat.lt_succ_of_lt lb) (List.mem_singleton.mp z)
      · cases r₂ with
        | error e => exact hr₂
        | ok fl₂ =>
          cases fl₂ with
          | ret r =>
            obtain ⟨rfl, q⟩ := hr₂
            repeat (any_goals (first | assumption | wp_step))
            exact k _ q
          | _ => exact hr₂.elim
    | _ => exact hr.elim
end
/-! ### sorted(set(xs)), ints -/
def ddI : List Int → List Int
  | [] => []
  | x :: xs => if x ∈ xs then ddI xs else x :: ddI xs
theorem ddI_mem {y : Int} : ∀ {xs : List Int}, y ∈ ddI xs ↔ y ∈ xs
  | [] => Iff.rfl
  | x :: xs => by
    unfold ddI
    split
    · rename_i h
      rw [ddI_mem (xs := xs)]
      exact ⟨fun z => List.mem_cons_of_mem _ z, fun z => (List.mem_cons.mp z).elim (fun e => e ▸ h) id⟩
    · rw [List.mem_cons, List.mem_cons, ddI_mem (xs := xs)]
theorem ddI_nodup : ∀ xs : List Int, (ddI xs).Nodup
  | [] => List.nodup_nil
  | x :: xs => by
    unfold ddI
    split
    · exact ddI_nodup xs
    · rename_i h
      exact List.nodup_cons.mpr ⟨fun z => h (ddI_mem.mp z), ddI_nodup xs⟩
theorem ddI_le : ∀ xs : List Int, (ddI xs).length ≤ xs.length
  | [] => Nat.le_refl _
  | x :: xs => by
    unfold ddI
    have := ddI_le xs
    split
    · rw [List.length_cons]; omega
    · rw [List.length_cons, List.length_cons]; omega
def usI (xs : List Int) : List Int := sortI (ddI xs)
theorem pw_of_nodup {xs : List Int} (h : xs.Pairwise (· ≤ ·)) (nd : xs.Nodup) : xs.Pairwise (· < ·) := by
  have := List.pairwise_and_iff.mpr ⟨h, nd⟩
  exact this.imp fun ⟨a, b⟩ => by omega
theorem usI_mem {xs : List Int} {x : Int} : x ∈ usI xs ↔ x ∈ xs := by
  unfold usI
  rw [(sortI_perm _).mem_iff, ddI_mem]
theorem usI_pw (xs : List Int) : (usI xs).Pairwise (· < ·) := pw_of_nodup (sortI_sorted _) ((sortI_perm _).nodup_iff.mpr (ddI_nodup _))
theorem usI_unique {xs ys : List Int} (h : ys.Pairwise (· < ·)) (hm : ∀ x, x ∈ ys ↔ x ∈ xs) : ys = usI xs := by
  refine sorted_unique ((List.perm_ext_iff_of_nodup (h.imp fun h => by omega) ((usI_pw xs).imp fun h => by omega)).mpr fun x => ?_) (h.imp fun h => by omega) ((usI_pw xs).imp fun h => by omega)
  rw [hm x, usI_mem]
theorem Stp.junk {F H : Hp} {O : Own} {p : Addr} {o : HO} (w : WOk F O H) (h : H p = none) : Stp F O H F O (upd H p o) where
  ok := {
    sub := fun b u e => by rw [upd_ne (ne_of_none (w.sub b u e) h)]; exact w.sub b u e
    own := fun q hq => by
      obtain ⟨e, n⟩ := w.own q hq
      exact ⟨by rw [upd_ne (ne_of_none e h)]; exact e, n⟩
    nd := w.nd
    sz := w.sz
    szo := w.szo }
  gr := Gr.refl
  keep := fun b u e _ => by rw [upd_ne (ne_of_none e h)]; exact e
  fr := fun _ _ e => .inl e
  ky := fun _ hb => .inl hb
  dom := fun b e => by
    by_cases hb : b = p
    · rw [hb] at e; exact absurd h e
    · rw [upd_ne hb]; exact e
section
variable {X : Cx}
def rSetI (K : PySem.W.Frag) (w : World) : List V → Hp → VK → Prop := fun vs H Q => ∃ (l : Addr) (ns : List Int), vs = [V.ref l] ∧ SqL K H l (ns.map V.int) ∧ ns.length + 1 < scanBound ∧
  ∀ p c, H p = none → c ≤ ns.length → Q (.ref p) (upd H p (SetO w p (fun j => decide (j ∈ ns)) c))
theorem cr_setI (hc : X.calm = true) : CallR X (.type "set") (rSetI X.K X.w) := by
  intro pins s σ H vs us Q I r h
  obtain ⟨l, ns, rfl, hl, hb, q⟩ := h
  rw [Vals.ref1 r]
  obtain ⟨its, rv, pl, hz⟩ := I.list hl
  refine set_of_ints (P := X.prog) (w := X.w) ns (I.ok.hd hc) pl.isList (by simpa using rv.ints) hb fun s' ⟨h', tk, c, es, hS, hcn, hk⟩ => ?_
  subst es
  exact ⟨.ref s.heap.objs.size, upd H s.heap.objs.size (SetO X.w s.heap.objs.size (fun j => decide (j ∈ ns)) c), I.laid (t' := tk) hk (Nat.le_refl _) (setO_new hS), rfl, q _ c (I.hok.fresh (Nat.le_refl _)) hcn⟩
end
section
variable {X : Cx} {e : Expr} {σ : L2.St} {F H : Hp} {O O1 : Own} {pos p p2 p3 : Pos}
theorem zn_sortSet {ns : List Int} (hc : X.calm = true) (hm : X.mg "sorted" = none) (hm2 : X.mg "set" = none) (ha : ZE X e σ F O (eL eI ns) O1) (hl : ns.length < 63) (hg : Gl X "sorted" := by rfl) (hg2 : Gl X "set" := by rfl) (he : starEach [e] X.env = (false, eval e X.env) :: starEach [] X.env := by rfl) (hpl : (backTo p3 (starEach [] X.env)).any (·.1) = false := by rfl)
    (he2 : starEach [.Call (.Name "set" p2) [e] [] p3] X.env = (false, eval (.Call (.Name "set" p2) [e] [] p3) X.env) :: starEach [] X.env := by rfl) (hpl2 : (backTo pos (starEach [] X.env)).any (·.1) = false := by rfl) : ZN X (.Call (.Name "sorted" p) [.Call (.Name "set" p2) [e] [] p3] [] pos) σ F O ((usI ns).map eI) O1 := fun F1 H g w Q q => by
  refine wE_of (pe_callB (cr_sortedSet hc) hg hm (by decide +kernel) (pa_cons (pe_callTy (cr_setI hc) hg2 hm2 (by decide +kernel) (pa_cons pe_w pa_nil he) (by decide) (by decide) he hpl) pa_nil he2) (by decide) (by decide) he2 hpl2) ?_
  refine ha F1 H g w _ fun v F2 H2 s1 r1 => ?_
  obtain ⟨l, xs, rfl, e1, a1⟩ := r1.lst_inv
  have ex := ints_ra a1
  subst ex
  refine ⟨l, ns, rfl, .inl (.inl (s1.ok.sub _ _ e1)), by unfold scanBound; omega, fun a c hn hcn => ?_⟩
  have s2 := s1.trans (Stp.junk (o := SetO X.w a (fun j => decide (j ∈ ns)) c) s1.ok hn)
  refine ⟨a, _, c, rfl, upd_same, by omega, fun ms b hp hmem _ hb => ?_⟩
  have em : ms = usI ns := usI_unique hp fun x => by rw [hmem x]; simp
  subst em
  have hz : ((usI ns).map V.int).length ≤ sizeLine := by
    rw [List.length_map]
    have h1 := (sortI_perm (ddI ns)).length_eq
    have h2 : (ddI ns).length ≤ ns.length := ddI_le _
    unfold usI
    rw [h1, ← szL]; omega
  refine q b _ _ _ ?_ (s2.trans (Stp.alloc s2.ok hb hz)) (ra_ints _)
  cases z : H b with
  | none => rfl
  | some u => exact absurd hb (s2.dom b (by rw [z]; simp))
end
end Z

end
section
namespace Z
open PySem PySem.Spec PyProof.Rows L2 PpSet
/-! ### comprehensions of sets, whatever the set holds -/
structure SK (P : Program) (w : World) (τ : Type) where
  so : Addr → τ → HO
  sz : ∀ D st, szOk (so D st)
  st0 : τ
  new : ∀ (H : Hp) (h : Heap), ObjOk P w H (h.push (empS w)) h.objs.size (so h.objs.size st0)
  can : Hp → V → τ → τ → Prop
  add : ∀ {Y : Cx}, Y.prog = P → Y.w = w → ∀ {pins : List (Addr × Obj)} {σ : L2.St} {H : Hp} {s : Shared} {E : Value → Shared → Prop} {D : Addr} {st st' : τ} {y : V} {v : Value} {Q : Value → Shared → Prop},
    Inv Y pins σ H s → H D = some (so D st) → can H y st st' → RelV y v → (∀ s', Inv Y pins σ (upd H D (so D st')) s' → Q .none s') → wpAny (model Y.prog Y.w) Y.A (call (.builtin "set.add") [.ref D, v]) Q E s
section
variable {P : Program} {w : World} {τ : Type}
def tSk (K : SK P w τ) (wi : TI) (g : TG) (tt : TT) (te : TE) (vs : List Nat) : TE := fun σ H Q => wi σ H fun J H1 => ∀ D, H1 D = none → ∃ W : Nat → Nat → Hp → Prop, (∃ m, W 0 m (upd H1 D (K.so D K.st0))) ∧ ∀ i m H, W i m H →
  (J.stop i H ∧ Q (.ref D) H) ∨
  (J.go i H ∧ ∃ Nx : Hp → Prop, (∀ H', Nx H' → ∃ m', m' < m ∧ W (i + 1) m' H') ∧
    ∀ x H', J.yld i H x H' → g x (wipe σ vs) H' fun σ2 H2 => wipe σ2 vs = wipe σ vs ∧ tt σ2 H2 fun b H3 =>
      if b = true then te σ2 H3 fun y H4 => ∃ st st', H4 D = some (K.so D st) ∧ K.can H4 y st st' ∧ Nx (upd H4 D (K.so D st')) else Nx H3)
end
section
variable {X : Cx} {τ : Type}
theorem sk_core (K : SK X.prog X.w τ) {pins : List (Addr × Obj)} {s : Shared} {σ : L2.St} {H : Hp} {Q : VK} {elt tg iter : Expr} {ifs : List Expr} {scope : Scope} {own : List (Str × Nat)} {pos pos' : Pos} {wi : TI} {g : TG} {tt : TT} {te : TE} {use : Option (Value → Sem Unit)} {Qf : Value → Shared → Prop}
    (hc : X.calm = true) (hN : X.N.Nodup) (I : Inv X pins σ H s) (hi : PI X tg iter wi) (ok : BlkOk X.N X.env.scope scope own)
    (hg : ∀ s H C cl fp, PG (blkX X scope s H C cl fp) tg g) (ht : ∀ s H C cl fp, PTs (blkX X scope s H C cl fp) ifs tt) (he : ∀ s H C cl fp, PE (blkX X scope s H C cl fp) elt te)
    (hs : ∀ x, foldedSetIterable iter X.env x = pure x) (h : tSk K wi g tt te (own.map (·.2)) σ H Q)
    (fin : ∀ D C s' m H', Inv X pins σ H' s' → Q (.ref D) H' → s'.heap.Ns C m → FpOk X pins H' C → compPost (model X.prog X.w) X.A X.xe use Qf (.ref D) C (.ok .next) s') :
    wpAny (model X.prog X.w) X.A (comprehension (.SetComp elt [⟨tg, iter, ifs, 0⟩] scope pos) scope X.env pos' (newSet (.type "set")) false (eval iter X.env) use) Qf X.xe s := by
  have free : ∀ y ∈ scope.names, y.2 = .free → ∃ c, X.env.cells.lookup y.1 = some c := fun y hy e => (ok.free y hy e).elim (fun k => I.ok.has _ (.inl k)) fun k => I.ok.has _ (.inr k)
  refine wpAny_comprehension_free (use := use) rfl hs (closure_ok free) ok.kind (fun y hy e => by rw [ok.uniq y hy, e]) (thn (hi.run pins s σ H _ I h) fun xv s1 hx => thn hx fun itv s2 h2 => ?_)
  obtain ⟨it, fp, tn, J, H2, rfl, I2, T, st2, f2, q⟩ := h2
  refine newSet_ok (newEnv_comp ?_)
  generalize hD : s2.heap.objs.size = D
  obtain ⟨W, ⟨m0, w0⟩, turn⟩ := q D (I2.hok.fresh (Nat.le_of_eq hD))
  obtain ⟨s3, hs3⟩ : ∃ z : Shared, z = { s2 with heap := s2.heap.push (empS X.w) } := ⟨_, rfl⟩
  obtain ⟨H3, hH3⟩ : ∃ z, z = upd H2 D (K.so D K.st0) := ⟨_, rfl⟩
  have hp3 : s3.heap = s2.heap.push (empS X.w) := by rw [hs3]
  have I3 : Inv X pins σ H3 s3 := by
    rw [hs3, hH3]
    refine I2.laid (t' := s2.toks) (fun b o e => Heap.get?_push_of_some _ e) (Nat.le_of_eq hD) ?_
    rw [← hD]; exact K.new _ _
  rw [← hH3] at w0
  have old : ∀ b ∈ fp, b < D := fun b hb => by
    obtain ⟨_, e, _⟩ := T.obj _ _ st2 b hb
    rw [← hD]; exact Heap.lt_size e
  have f3 : ∀ b ∈ fp, FpOk X pins H3 b ∧ b < s3.heap.objs.size := fun b hb => by
    have lt := old b hb
    rw [hp3, Heap.size_push, hD]
    refine ⟨⟨?_, (f2 b hb).2⟩, Nat.lt_succ_of_lt lt⟩
    rw [hH3, upd_ne (Nat.ne_of_lt lt)]
    exact (f2 b hb).1
  have none3 : ∀ b ∈ fp, H3 b = none := fun b hb => (f3 b hb).1.1
  have t3 : tn 0 s3.heap := T.keep _ _ _ st2 fun b _ o e => by rw [hp3]; exact Heap.get?_push_of_some _ e
  have I4 := block_start I3 ok hN f3
  change codeAny _ _ (.compStart _ 0 _ (.ref D) (compEnvC scope (cellsFrom (s2.heap.push (empS X.w)).objs.size.succ scope.names (cloFrom X.env.cells scope.names [])) (s2.heap.push (empS X.w)).objs.size X.env)) (compPost (model X.prog X.w) X.A X.xe use Qf (.ref D) (s2.heap.push (empS X.w)).objs.size) { ({ s2 with heap := s2.heap.push (empS X.w) } : Shared) with heap := pushCells ((s2.heap.push (empS X.w)).push _) scope.names }
  rw [← hp3]
  rw [show s2.gens = s3.gens from by rw [hs3], show s2.drawn = s3.drawn from by rw [hs3], show s2.toks = s3.toks from by rw [hs3], show s2.os = s3.os from by rw [hs3]]
  obtain ⟨cl, hcl⟩ : ∃ z, z = cellsFrom s3.heap.objs.size.succ scope.names (cloFrom X.env.cells scope.names []) := ⟨_, rfl⟩
  obtain ⟨C, hC⟩ : ∃ z, z = s3.heap.objs.size := ⟨_, rfl⟩
  have g1 := hg s3 H3 C cl fp
  have t1 := ht s3 H3 C cl fp
  have e1 := he s3 H3 C cl fp
  have I4 : Inv (blkX X scope s3 H3 C cl fp) [] (wipe σ (own.map (·.2))) H3 { s3 with heap := pushCells (s3.heap.push { cls := .type "dict", data := .dict #[] }) scope.names } := by rw [hcl, hC]; exact I4
  rw [← hcl, ← hC]
  obtain ⟨s4, hs4⟩ : ∃ z : Shared, z = { s3 with heap := pushCells (s3.heap.push { cls := .type "dict", data := .dict #[] }) scope.names } := ⟨_, rfl⟩
  rw [← hs4] at I4
  change codeAny _ _ (.compStart (.SetComp elt [⟨tg, iter, ifs, 0⟩] scope pos) 0 (.ref it) (.ref D) (compEnvC scope cl C X.env)) (compPost (model X.prog X.w) X.A X.xe use Qf (.ref D) C) { s3 with heap := pushCells (s3.heap.push { cls := .type "dict", data := .dict #[] }) scope.names }
  rw [← hs4]
  have t4 : tn 0 s4.heap := T.keep _ _ _ t3 fun b _ o e => by rw [hs4]; exact pushCells_keeps _ _ _ _ (Heap.get?_push_of_some _ e)
  obtain ⟨B, hB⟩ : ∃ z, z = blkX X scope s3 H3 C cl fp := ⟨_, rfl⟩
  rw [← hB] at I4 g1 t1 e1
  have bx : B.prog = X.prog ∧ B.w = X.w ∧ B.A = X.A ∧ B.env = compEnvC scope cl C X.env ∧ B.xe = (blkX X scope s3 H3 C cl fp).xe := by rw [hB]; exact ⟨rfl, rfl, rfl, rfl, rfl⟩
  have calmly : ∀ {σ' : L2.St} {H' : Hp} {s' : Shared}, Inv B [] σ' H' s' → (∀ b ∈ fp, H' b = none) → ∀ b ∈ fp, FpOk B [] H' b := fun {σ' H' s'} I' hn b hb => by
    subst hB
    exact ⟨hn b hb, (I'.ok.exf b hb).1, I'.ok.exfs b hb, .inl hb, fun x c e => (I'.ok.exf b hb).2 x c e, fun p hp => absurd (show p ∈ ([] : List (Addr × Obj)) ++ [] from hp) (by simp)⟩
  have loop : codeAny (model X.prog X.w) X.A (.compLoop (.SetComp elt [⟨tg, iter, ifs, 0⟩] scope pos) 0 (.ref it) (.ref D) (compEnvC scope cl C X.env)) (compPost (model X.prog X.w) X.A X.xe use Qf (.ref D) C) s4 := by
    refine compLoopS_any (fun n s' => ∃ i H', Inv B [] (wipe σ (own.map (·.2))) H' s' ∧ tn i s'.heap ∧ (∀ b ∈ fp, H' b = none) ∧ W i n H') ?_ m0 ⟨0, H3, I4, t4, none3, w0⟩
    subst hB
    rintro n s5 ⟨i, H5, I5, t5, n5, w5⟩
    rcases turn i n H5 w5 with ⟨stop, out⟩ | ⟨go, Nx, less, body⟩
    · refine thnF (T.done (blkX X scope s3 H3 C cl fp) rfl rfl rfl hc i [] s5 _ H5 (fun _ _ => False) I5 (calmly I5 n5) t5 stop) fun r s6 ⟨hr, I6⟩ => ?_
      subst hr
      have back : Inv X pins σ H5 s6 := I3.call' (ch := fp) I6.os I6.base I6.hok I6.bare fun b hb => let z := (f3 b hb).1.2; ⟨z.2.2.1, z.1, z.2.2.2.1, z.2.2.2.2⟩
      have lone : H5 C = none := I6.free
      obtain ⟨m, hn, _⟩ := I6.loc
      have hn : s6.heap.Ns C m := hn
      exact fin D C s6 m H5 back out hn (I3.fpOk (Nat.le_of_eq hC.symm) lone)
    · refine thnF (T.item (blkX X scope s3 H3 C cl fp) rfl rfl rfl hc i [] s5 _ H5 (fun _ _ => False) I5 (calmly I5 n5) t5 go) fun r s6 ⟨u, hr, h6⟩ => ?_
      subst hr
      refine thnF h6 fun _ s7 ⟨x, H7, I7, r7, y7, t7, n7⟩ => ?_
      have P7 := I7.pinned (calmly I7 n7) (T.obj _ _ t7)
      refine thnF (g1.run _ s7 _ H7 x u _ P7 r7 (body x H7 y7)) fun _ s8 ⟨σ8, H8, I8, hw8, q8⟩ => ?_
      refine thnF (t1.run _ s8 σ8 H8 _ I8 q8) fun b s9 ⟨H9, I9, q9⟩ => ?_
      have close : ∀ {s' : Shared} {H' : Hp}, Inv (blkX X scope s3 H3 C cl fp) ([] ++ pinsAt fp s7.heap) σ8 H' s' → Nx H' → ∃ m, m < n ∧ ∃ i H', Inv (blkX X scope s3 H3 C cl fp) [] (wipe σ (own.map (·.2))) H' s' ∧ tn i s'.heap ∧ (∀ b ∈ fp, H' b = none) ∧ W i m H' := fun {s' H'} I' nx => by
        obtain ⟨m', lt, w'⟩ := less H' nx
        have pinned : ∀ b ∈ fp, ∀ o, s7.heap.get? b = some o → s'.heap.get? b = some o ∧ H' b = none := fun b hb o e => by
          have z := I'.pin (b, o) (List.mem_append_right _ (List.mem_append_right _ (mem_pinsAt hb e)))
          exact ⟨z.1, z.2.1⟩
        refine ⟨m', lt, i + 1, H', (I'.unpinned (pins := [])).weak (by rw [← hw8, wipe_length]) (fun j v e => ?_), T.keep _ _ _ t7 fun b hb o e => (pinned b hb o e).1, fun b hb => ?_, w'⟩
        · rw [← hw8] at e; exact (wipe_some e).1
        · obtain ⟨_, e, _⟩ := T.obj _ _ t7 b hb
          exact (pinned b hb _ e).2
      cases b with
      | false => exact close I9 q9
      | true =>
        refine thnF (e1.run _ s9 σ8 H9 _ I9 q9) fun z s10 ⟨yv, H10, I10, r10, st, st', at10, cn, nx⟩ => ?_
        exact K.add (Y := blkX X scope s3 H3 C cl fp) rfl rfl I10 at10 cn r10 fun s11 I11 => close I11 nx
  exact codeAny_compStart_set loop (T.self X.A 0 _ _ _ t4 loop)
theorem pe_sk (K : SK X.prog X.w τ) {elt tg iter : Expr} {ifs : List Expr} {scope : Scope} {own : List (Str × Nat)} {pos : Pos} {wi : TI} {g : TG} {tt : TT} {te : TE} (hc : X.calm = true) (hN : X.N.Nodup) (hi : PI X tg iter wi) (ok : BlkOk X.N X.env.scope scope own)
    (hg : ∀ s H C cl fp, PG (blkX X scope s H C cl fp) tg g) (ht : ∀ s H C cl fp, PTs (blkX X scope s H C cl fp) ifs tt) (he : ∀ s H C cl fp, PE (blkX X scope s H C cl fp) elt te)
    (hs : ∀ x, foldedSetIterable iter X.env x = pure x := by intro _; rfl) : PE X (.SetComp elt [⟨tg, iter, ifs, 0⟩] scope pos) (tSk K wi g tt te (own.map (·.2))) := by
  refine ⟨fun pins s σ H Q I h => ?_⟩
  rw [eval_SetComp]
  exact sk_core K hc hN I hi ok hg ht he hs h fun D C s' m H' I' q hn ⟨f0, f1, f2, f3, f4, f5⟩ => ⟨m, hn, fun h'' sb => ⟨.ref D, H', I'.turned (t' := s'.toks) (fun b o hb e => (sb.2 b hb).trans e) f0 f1 f3 f4 f5, rfl, q⟩⟩
end
/-! ### the reading -/
section
variable {F : Hp} {O : Own} {σ : L2.St} {ds : List PyData}
theorem sc_read {P : Program} {w : World} {τ γ : Type} (Kd : SK P w τ) {wi : TI} {g : TG} {tt : TT} {te : TE} {vs : List Nat} {K : PySem.W.Frag} (S : Nat → Own) (r : Nat → Option γ) (encR : γ → PyData) (acc : List γ → τ → Prop) (a0 : acc [] Kd.st0)
    (hadd : ∀ ys st y v F' H', acc ys st → ys.length < ds.length → R K F' v (encR y) → Gr F' H' → ∃ st', Kd.can H' v st st' ∧ acc (ys ++ [y]) st')
    (hi : ∀ F1 H, Gr F F1 → WOk F1 O H → ∀ Q : It → Hp → Prop, (∀ J F2 H2, Stp F1 O H F2 (S 0) H2 → Walks K J F2 ds → Q J H2) → wi σ H Q)
    (hb : ∀ i d x F' H', ds[i]? = some d → Gr F F' → WOk F' (S i) H' → R K F' x d → ∀ (Q1 : V → Hp → Prop) (Q0 : Hp → Prop), (∀ v F2 H2 y, r i = some y → Stp F' (S i) H' F2 (S (i + 1)) H2 → R K F2 v (encR y) → Q1 v H2) → (∀ F2 H2, r i = none → Stp F' (S i) H' F2 (S (i + 1)) H2 → Q0 H2) →
      g x (wipe σ vs) H' fun σ2 H2 => wipe σ2 vs = wipe σ vs ∧ tt σ2 H2 fun b H3 => if b = true then te σ2 H3 Q1 else Q0 H3)
    {F1 H : Hp} (g1 : Gr F F1) (ok : WOk F1 O H) {Q : VK} (q : ∀ p st F2 H2, H p = none → acc ((List.range ds.length).filterMap r) st → Stp F1 O H F2 ((p, Kd.so p st) :: S ds.length) H2 → Q (.ref p) H2) : tSk Kd wi g tt te vs σ H Q := by
  refine hi F1 H g1 ok _ fun J F2 H2 s1 wk => fun D hD => ?_
  have fresh : H D = none := by
    cases z : H D with
    | none => rfl
    | some u => exact absurd hD (s1.dom D (by rw [z]; simp))
  refine ⟨fun i m H' => m = ds.length - i ∧ i ≤ ds.length ∧ ∃ F' st, Gr F2 F' ∧ Stp F1 O H F' ((D, Kd.so D st) :: S i) H' ∧ acc ((List.range i).filterMap r) st, ⟨ds.length, by simp, Nat.zero_le _, F2, Kd.st0, Gr.refl, s1.trans (Stp.alloc s1.ok hD (Kd.sz D _)), a0⟩, ?_⟩
  rintro i m H' ⟨rfl, hle, F', st, g2, s2, ac⟩
  by_cases hlt : i < ds.length
  · refine .inr ⟨wk.go F' _ H' g2 s2.ok i hlt, fun H3 => ∃ F3 st', Gr F2 F3 ∧ Stp F1 O H F3 ((D, Kd.so D st') :: S (i + 1)) H3 ∧ acc ((List.range (i + 1)).filterMap r) st', fun H3 ⟨F3, st', h2, h3, h4⟩ => ⟨ds.length - (i + 1), by omega, rfl, hlt, F3, st', h2, h3, h4⟩, fun x H3 y => ?_⟩
    obtain ⟨F3, s3, rx⟩ := wk.yld F' _ H' g2 s2.ok i x H3 ds[i] (List.getElem?_eq_getElem hlt) y
    have g3 : Gr F F3 := g1.trans (s1.gr.trans (g2.trans s3.gr))
    refine hb i ds[i] x F3 H3 (List.getElem?_eq_getElem hlt) g3 s3.ok.tail rx _ _ (fun v F4 H4 y hy s4 r4 => ?_) fun F4 H4 hy s4 => ?_
    · have s5 := s2.trans (s3.trans (Stp.cons s3.ok s4))
      have hl : ((List.range i).filterMap r).length < ds.length := Nat.lt_of_le_of_lt (Nat.le_trans (List.length_filterMap_le _ _) (by rw [List.length_range]; exact Nat.le_refl _)) hlt
      obtain ⟨st', cn, ac'⟩ := hadd _ _ y v F4 H4 ac hl r4 s4.ok.sub
      have s6 := Stp.write (o' := Kd.so D st') s5.ok (k := 0) rfl (Kd.sz D st')
      refine ⟨st, st', (s5.ok.own (D, Kd.so D st) List.mem_cons_self).1, cn, F4, st', g2.trans (s3.gr.trans s4.gr), s5.trans s6, ?_⟩
      rw [List.range_succ, List.filterMap_append]
      have e1 : [i].filterMap r = [y] := by rw [List.filterMap_cons, hy]; rfl
      rw [e1]; exact ac'
    · refine ⟨F4, st, g2.trans (s3.gr.trans s4.gr), s2.trans (s3.trans (Stp.cons s3.ok s4)), ?_⟩
      rw [List.range_succ, List.filterMap_append]
      have e1 : [i].filterMap r = [] := by rw [List.filterMap_cons, hy]; rfl
      rw [e1, List.append_nil]; exact ac
  · have ei : i = ds.length := by omega
    subst ei
    exact .inl ⟨wk.stop F' _ H' g2 s2.ok _ (Nat.le_refl _), q D st F' H' fresh ac s2⟩
end
theorem runS_eqG {α β γ : Type} (f : β → α → Option γ × β) : ∀ (xs : List α) (s : β), (List.range xs.length).filterMap (fun i => (xs[i]?).bind fun a => (f (stS f s xs i) a).1) = (runS f s xs).1
  | [], s => rfl
  | a :: xs, s => by
    rw [List.length_cons, List.range_succ_eq_map, List.filterMap_cons, List.filterMap_map]
    have e1 : ((fun i => ((a :: xs)[i]?).bind fun b => (f (stS f s (a :: xs) i) b).1) ∘ Nat.succ) = fun i => (xs[i]?).bind fun b => (f (stS f (f s a).2 xs i) b).1 := by
      funext i
      show ((a :: xs)[i + 1]?).bind _ = _
      rw [List.getElem?_cons_succ, stS_cons]
    rw [e1, runS_eqG f xs (f s a).2]
    have e2 : (((a :: xs)[0]?).bind fun b => (f (stS f s (a :: xs) 0) b).1) = (f s a).1 := rfl
    rw [e2]
    cases h : (f s a).1 with
    | none => simp only [runS, h]
    | some y => simp only [runS, h]
/-- the value is a new thing of mine of which Φ says what it is -/
def ZV (X : Cx) (e : Expr) (σ : L2.St) (F : Hp) (O : Own) (Φ : Addr → HO → Prop) (O' : Own) : Prop :=
  ∀ F1 H, Gr F F1 → WOk F1 O H → ∀ Q : VK, (∀ p o F2 H2, H p = none → Φ p o → Stp F1 O H F2 ((p, o) :: O') H2 → Q (.ref p) H2) → wE X e σ H Q
section
variable {X : Cx} {e a b c tg iter elt tg1 iter1 : Expr} {es : List Expr} {σ : L2.St} {F H : Hp} {O O1 O2 O3 : Own} {d da db : PyData} {ds rs : List PyData} {pos p : Pos} {i j : Int} {k k1 k2 : Bool} {x y : Str} {n m : Nat} {px py spos : Pos} {scope : Scope} {ifs : List Expr}
variable {α β γ τ : Type} {G : β → Own} {enc : α → PyData} {encR : γ → PyData} {xs : List α} {st0 : β} {own : List (Str × Nat)}
theorem scX_read {P : Program} {w : World} (Kd : SK P w τ) (acc : List γ → τ → Prop) (a0 : acc [] Kd.st0) (hadd : ∀ ys st y v F' H', acc ys st → ys.length < xs.length → R X.K F' v (encR y) → Gr F' H' → ∃ st', Kd.can H' v st st' ∧ acc (ys ++ [y]) st')
    {B : α → L2.St → Hp → Prop} {f : β → α → Option γ × β} {tt : TT} (hi : ZI X tg iter σ F O (xs.map enc) (G st0)) (bd : Bd X scope tg (own.map (·.2)) σ enc xs B)
    (hb : ∀ st a σ2 F' H', a ∈ xs → Gr F F' → WOk F' (G st) H' → B a σ2 F' → ∀ (Q1 : V → Hp → Prop) (Q0 : Hp → Prop), (∀ v F2 H2 y, (f st a).1 = some y → Stp F' (G st) H' F2 (G (f st a).2) H2 → R X.K F2 v (encR y) → Q1 v H2) → (∀ F2 H2, (f st a).1 = none → Stp F' (G st) H' F2 (G (f st a).2) H2 → Q0 H2) →
      tt σ2 H' fun b H3 => if b = true then uE X scope elt σ2 H3 Q1 else Q0 H3)
    {F1 H : Hp} (g1 : Gr F F1) (ok : WOk F1 O H) {Q : VK}
    (q : ∀ p st F2 H2, H p = none → acc (runS f st0 xs).1 st → Stp F1 O H F2 ((p, Kd.so p st) :: G (runS f st0 xs).2) H2 → Q (.ref p) H2) : tSk Kd (wI X tg iter) (uG X scope tg) tt (uE X scope elt) (own.map (·.2)) σ H Q := by
  refine sc_read Kd (K := X.K) (fun i => G (stS f st0 xs i)) (fun i => (xs[i]?).bind fun a => (f (stS f st0 xs i) a).1) encR acc a0 (fun ys st y v F' H' h1 h2 => hadd ys st y v F' H' h1 (by rw [List.length_map] at h2; exact h2)) (fun F1 H g1 w Q q => hi F1 H g1 w Q q) (fun i d v F' H' hd gg ww rr Q1 Q0 h1 h0 => ?_) g1 ok (fun p st F2 H2 hp ac s2 => ?_)
  · rw [List.getElem?_map] at hd
    cases ha : xs[i]? with
    | none => rw [ha] at hd; cases hd
    | some a =>
      rw [ha] at hd; cases hd
      have es : stS f st0 xs (i + 1) = (f (stS f st0 xs i) a).2 := by show (match xs[i]? with | some a => _ | none => _) = _; rw [ha]
      rw [ha, es] at h1 h0
      intro s H0 C cl fp
      refine bd.tgt s H0 C cl fp a v F' _ H' _ (List.mem_of_getElem? ha) ww rr fun σ2 b2 => ⟨bd.wp a σ2 F' b2, ?_⟩
      exact hb _ a σ2 F' H' (List.mem_of_getElem? ha) gg ww b2 Q1 Q0 (fun v F2 H2 y hy s r => h1 v F2 H2 y hy s r) fun F2 H2 hy s => h0 F2 H2 hy s
  · rw [List.length_map] at s2 ac
    rw [stS_run] at s2
    rw [runS_eqG] at ac
    exact q p st F2 H2 hp ac s2
theorem zv_scXt (Kd : SK X.prog X.w τ) (acc : List γ → τ → Prop) (a0 : acc [] Kd.st0) (hadd : ∀ ys st y v F' H', acc ys st → ys.length < xs.length → R X.K F' v (encR y) → Gr F' H' → ∃ st', Kd.can H' v st st' ∧ acc (ys ++ [y]) st')
    {B : α → L2.St → Hp → Prop} {pr : α → Bool} {f0 : α → γ} {c : Expr} (hc : X.calm = true) (hN : X.N.Nodup) (hi : ZI X tg iter σ F O (xs.map enc) O1) (bd : Bd X scope tg (own.map (·.2)) σ enc xs B)
    (ht : ∀ s H0 C cl fp a σ2 F', a ∈ xs → Gr F F' → B a σ2 F' → ZT (blkX X scope s H0 C cl fp) c σ2 F' O1 (pr a) O1)
    (he : ∀ s H0 C cl fp a σ2 F', a ∈ xs → pr a = true → Gr F F' → B a σ2 F' → ZE (blkX X scope s H0 C cl fp) elt σ2 F' O1 (encR (f0 a)) O1)
    (ok : BlkOk X.N X.env.scope scope own) (hs : ∀ x, foldedSetIterable iter X.env x = pure x := by intro _; rfl) :
    ZV X (.SetComp elt [⟨tg, iter, [c], 0⟩] scope pos) σ F O (fun p o => ∃ st, acc ((xs.filter pr).map f0) st ∧ o = Kd.so p st) O1 := fun F1 H g1 w Q q =>
  wE_of (pe_sk Kd hc hN pi_w ok pg_u (fun s H C cl fp => pts_one (pt_u s H C cl fp)) pe_u hs)
    (scX_read Kd acc a0 hadd (G := fun _ : Unit => O1) (st0 := ()) hi bd (body_t (pr := fun _ a => pr a) (f0 := fun _ a => f0 a) (s1 := fun _ _ => ()) (s2 := fun _ _ => ()) bd (fun s H0 C cl fp _ a σ2 F' => ht s H0 C cl fp a σ2 F') (fun s H0 C cl fp _ a σ2 F' => he s H0 C cl fp a σ2 F')) g1 w fun p st F2 H2 hp ac s => q p _ F2 H2 hp ⟨st, by rw [runS_genU] at ac; exact ac, rfl⟩ s)
theorem zv_scXn (Kd : SK X.prog X.w τ) (acc : List γ → τ → Prop) (a0 : acc [] Kd.st0) (hadd : ∀ ys st y v F' H', acc ys st → ys.length < xs.length → R X.K F' v (encR y) → Gr F' H' → ∃ st', Kd.can H' v st st' ∧ acc (ys ++ [y]) st')
    {B : α → L2.St → Hp → Prop} {f0 : α → γ} (hc : X.calm = true) (hN : X.N.Nodup) (hi : ZI X tg iter σ F O (xs.map enc) O1) (bd : Bd X scope tg (own.map (·.2)) σ enc xs B)
    (he : ∀ s H0 C cl fp a σ2 F', a ∈ xs → Gr F F' → B a σ2 F' → ZE (blkX X scope s H0 C cl fp) elt σ2 F' O1 (encR (f0 a)) O1)
    (ok : BlkOk X.N X.env.scope scope own) (hs : ∀ x, foldedSetIterable iter X.env x = pure x := by intro _; rfl) :
    ZV X (.SetComp elt [⟨tg, iter, [], 0⟩] scope pos) σ F O (fun p o => ∃ st, acc (xs.map f0) st ∧ o = Kd.so p st) O1 := fun F1 H g1 w Q q =>
  wE_of (pe_sk Kd hc hN pi_w ok pg_u (fun s H C cl fp => pts_nil) pe_u hs)
    (scX_read Kd acc a0 hadd (G := fun _ : Unit => O1) (st0 := ()) hi bd (body_n (f0 := fun _ a => f0 a) (s2 := fun _ _ => ()) (fun s H0 C cl fp _ a σ2 F' => he s H0 C cl fp a σ2 F')) g1 w fun p st F2 H2 hp ac s => q p _ F2 H2 hp ⟨st, by rw [runS_state (f0 := fun (_ : Unit) a => (f0 a, ())), mapS_U] at ac; exact ac, rfl⟩ s)
/-! ### sets of ints -/
def skI (P : Program) (w : World) : SK P w ((Int → Bool) × Nat) where
  so := fun D st => SetO w D st.1 st.2
  sz := fun _ _ => trivial
  st0 := (fun _ => false, 0)
  new := fun H h => by
    have e : (h.push (empS w)).get? h.objs.size = some (empS w) := Heap.get?_push_size _ rfl
    have := setR_new_at (w := w) (ns := []) e
    exact setO_new (this.congr fun k => by simp)
  can := fun _ y st st' => ∃ k, y = .int k ∧ st.2 + 1 < scanBound ∧ st' = (fun j => st.1 j || decide (j = k), if st.1 k = true then st.2 else st.2 + 1)
  add := fun {Y} hP hw => by
    subst hP hw
    intro pins σ H s E D st st' y v Q I hD ⟨k, ey, room, est⟩ r h
    subst ey est
    obtain ⟨tk, rfl⟩ := r
    refine setR_add (setO_get I hD) room fun h' sb new => ?_
    have ⟨o, _, _, _, ho, _⟩ := new
    exact h _ (I.write (e := D) (t' := s.toks + 1) (by rw [hD]; trivial) (.inl rfl) (fun b u hb hu => (sb.2 b hb).trans hu) ⟨o, ho⟩ (setO_new new))
def accI (ns : List Int) (st : (Int → Bool) × Nat) : Prop := (∀ j, st.1 j = decide (j ∈ ns)) ∧ st.2 ≤ ns.length
theorem accI_nil {P : Program} {w : World} : accI [] (skI P w).st0 := ⟨fun j => by simp [skI], Nat.le_refl _⟩
theorem accI_add {P : Program} {w : World} {K : PySem.W.Frag} {N : Nat} (hN : N + 1 < scanBound) : ∀ ys st y v F' H', accI ys st → ys.length < N → R K F' v (eI y) → Gr F' H' → ∃ st', (skI P w).can H' v st st' ∧ accI (ys ++ [y]) st' := fun ys st y v F' H' ⟨h1, h2⟩ hl r _ => by
  refine ⟨_, ⟨y, r.int_inv, by omega, rfl⟩, fun j => ?_, ?_⟩
  · show (st.1 j || decide (j = y)) = _
    rw [h1]; simp
  · show (if st.1 y = true then st.2 else st.2 + 1) ≤ _
    rw [List.length_append, List.length_singleton]
    split <;> omega
/-- what a set of ints is -/
def ISet (w : World) (ns : List Int) : Addr → HO → Prop := fun p o => ∃ c, c ≤ ns.length ∧ o = SetO w p (fun j => decide (j ∈ ns)) c
theorem zv_set {ns : List Int} (hc : X.calm = true) (hm2 : X.mg "set" = none) (ha : ZE X e σ F O (eL eI ns) O1) (hl : ns.length < 63) (hg2 : Gl X "set" := by rfl) (he : starEach [e] X.env = (false, eval e X.env) :: starEach [] X.env := by rfl) (hpl : (backTo pos (starEach [] X.env)).any (·.1) = false := by rfl) :
    ZV X (.Call (.Name "set" p) [e] [] pos) σ F O (ISet X.w ns) O1 := fun F1 H g w Q q => by
  refine wE_of (pe_callTy (cr_setI hc) hg2 hm2 (by decide +kernel) (pa_cons pe_w pa_nil he) (by decide) (by decide) he hpl) ?_
  refine ha F1 H g w _ fun v F2 H2 s1 r1 => ?_
  obtain ⟨l, xs, rfl, e1, a1⟩ := r1.lst_inv
  have ex := ints_ra a1
  subst ex
  refine ⟨l, ns, rfl, .inl (.inl (s1.ok.sub _ _ e1)), by unfold scanBound; omega, fun a c hn hcn => ?_⟩
  have fresh : H a = none := by
    cases z : H a with
    | none => rfl
    | some u => exact absurd hn (s1.dom a (by rw [z]; simp))
  exact q a _ _ _ fresh ⟨c, hcn, rfl⟩ (s1.trans (Stp.alloc s1.ok hn trivial))
theorem zv_scI {xs : List α} {B : α → L2.St → Hp → Prop} {pr : α → Bool} {f0 : α → Int} {c : Expr} (hl : xs.length < 63) (hc : X.calm = true) (hN : X.N.Nodup) (hi : ZI X tg iter σ F O (xs.map enc) O1) (bd : Bd X scope tg (own.map (·.2)) σ enc xs B)
    (ht : ∀ s H0 C cl fp a σ2 F', a ∈ xs → Gr F F' → B a σ2 F' → ZT (blkX X scope s H0 C cl fp) c σ2 F' O1 (pr a) O1)
    (he : ∀ s H0 C cl fp a σ2 F', a ∈ xs → pr a = true → Gr F F' → B a σ2 F' → ZE (blkX X scope s H0 C cl fp) elt σ2 F' O1 (eI (f0 a)) O1)
    (ok : BlkOk X.N X.env.scope scope own) (hs : ∀ x, foldedSetIterable iter X.env x = pure x := by intro _; rfl) :
    ZV X (.SetComp elt [⟨tg, iter, [c], 0⟩] scope pos) σ F O (ISet X.w ((xs.filter pr).map f0)) O1 := fun F1 H g w Q q =>
  zv_scXt (skI X.prog X.w) accI accI_nil (accI_add (by unfold scanBound; omega)) hc hN hi bd ht he ok hs F1 H g w Q fun p o F2 H2 hp ⟨st, ⟨h1, h2⟩, ho⟩ s => q p o F2 H2 hp ⟨st.2, h2, by rw [ho, ← show st.1 = _ from funext h1]; rfl⟩ s
theorem zv_scIn {xs : List α} {B : α → L2.St → Hp → Prop} {f0 : α → Int} (hl : xs.length < 63) (hc : X.calm = true) (hN : X.N.Nodup) (hi : ZI X tg iter σ F O (xs.map enc) O1) (bd : Bd X scope tg (own.map (·.2)) σ enc xs B)
    (he : ∀ s H0 C cl fp a σ2 F', a ∈ xs → Gr F F' → B a σ2 F' → ZE (blkX X scope s H0 C cl fp) elt σ2 F' O1 (eI (f0 a)) O1)
    (ok : BlkOk X.N X.env.scope scope own) (hs : ∀ x, foldedSetIterable iter X.env x = pure x := by intro _; rfl) :
    ZV X (.SetComp elt [⟨tg, iter, [], 0⟩] scope pos) σ F O (ISet X.w (xs.map f0)) O1 := fun F1 H g w Q q =>
  zv_scXn (skI X.prog X.w) accI accI_nil (accI_add (by unfold scanBound; omega)) hc hN hi bd he ok hs F1 H g w Q fun p o F2 H2 hp ⟨st, ⟨h1, h2⟩, ho⟩ s => q p o F2 H2 hp ⟨st.2, h2, by rw [ho, ← show st.1 = _ from funext h1]; rfl⟩ s
/-- sorted(e), e a set of ints -/
theorem zn_sortV {ns : List Int} (hc : X.calm = true) (hm : X.mg "sorted" = none) (ha : ZV X e σ F O (ISet X.w ns) O1) (hl : ns.length < 63) (hg : Gl X "sorted" := by rfl) (he : starEach [e] X.env = (false, eval e X.env) :: starEach [] X.env := by rfl) (hpl : (backTo pos (starEach [] X.env)).any (·.1) = false := by rfl) :
    ZN X (.Call (.Name "sorted" p) [e] [] pos) σ F O ((usI ns).map eI) O1 := fun F1 H g w Q q => by
  refine wE_of (pe_callB (cr_sortedSet hc) hg hm (by decide +kernel) (pa_cons pe_w pa_nil he) (by decide) (by decide) he hpl) ?_
  refine ha F1 H g w _ fun a o F2 H2 fresh ⟨c, hcn, ho⟩ s2 => ?_
  subst ho
  refine ⟨a, _, c, rfl, (s2.ok.own _ List.mem_cons_self).1, by omega, fun ms b hp hmem _ hb => ?_⟩
  have em : ms = usI ns := usI_unique hp fun x => by rw [hmem x]; simp
  subst em
  have hz : ((usI ns).map V.int).length ≤ sizeLine := by
    rw [List.length_map]
    have h1 := (sortI_perm (ddI ns)).length_eq
    have h2 : (ddI ns).length ≤ ns.length := ddI_le _
    unfold usI
    rw [h1, ← szL]; omega
  refine q b _ _ _ ?_ ((Stp.drop s2).trans (Stp.alloc (Stp.drop s2).ok hb hz)) (ra_ints _)
  cases z : H b with
  | none => rfl
  | some u => exact absurd hb (s2.dom b (by rw [z]; simp))
end
end Z

end
section
namespace Z
open PySem PySem.Spec PyProof.Rows L2 RT
/-! ### list(reversed(xs)) -/
section
variable {prog : Program} {w : World} {A : Around} {E : Value → Shared → Prop} {s : Shared}
theorem mk_list_rev {R : Result → Shared → Prop} {it l : Addr} {its : Array Value} (hh : A.handled = none) (hit : s.heap.IsRevIter it l ((its.size : Int) - 1)) (hl : s.heap.IsList l its) (hn : its.size ≤ sizeLine) (hne : l ≠ it) (S : Addr) (hS : s.heap.get? S = some { cls := .type "list", data := .seq #[] }) (nl : S ≠ l) (ni : S ≠ it)
    (k : ∀ h' tk acc c, (∀ b o, b ≠ S → b ≠ it → s.heap.get? b = some o → h'.get? b = some o) → h'.get? S = some { cls := .type "list", dict := none, data := .seq acc c, slots := #[] } → ItemsOf (fun i v => its[its.size - 1 - i]? = some v) acc its.size → R (.ok (.ret .none)) { s with heap := h', toks := tk }) :
    wpAny (model prog w) A.in1 (Builtin.«list.__init__» ⟨[.ref S, .ref it], []⟩) (fun f s' => match f with | .done f => R (.ok f) s' | .again c => c.quiet = true ∧ codeAny (model prog w) A c R s') (fun e s' => R (.error e) s') s := by
  have Wk := (Walks.listRev (prog := prog) (w := w) (A := A.in1) hh it l hne its).toS
  change wpAny _ _ (do let old ← Builtin.List.listItems (.ref S); Builtin.List.listUpdate (.ref S) (fun _ => #[]); letGo old.toList.reverse; Builtin.List.listExtendWith (.ref S) (.ref it) .none) _ _ s
  refine wpAny_bind ?_
  unfold Builtin.List.listItems
  refine wpAny_bind (wpAny_seqItems hS rfl (wpAny_pure ?_))
  change wpAny _ _ (updateSeq S (fun _ => #[]) >>= fun _ => letGo ([] : List Value) >>= fun _ => Builtin.List.listExtendWith (.ref S) (.ref it) .none) _ _ s
  refine wpAny_bind (wpAny_updateSeq hS rfl ?_)
  refine wpAny_bind (wpAny_letGo ?_)
  obtain ⟨h1, eh1⟩ : ∃ z, z = s.heap.update S (Obj.mapSeq (fun _ => (#[] : Array Value))) := ⟨_, rfl⟩
  have at1 := Heap.get?_update_self (Obj.mapSeq (fun _ => (#[] : Array Value))) hS rfl
  have keep1 : ∀ b o, b ≠ S → s.heap.get? b = some o → h1.get? b = some o := fun b o hb e => by rw [eh1]; exact (Heap.get?_update_other _ _ (Ne.symm hb)).trans e
  rw [← eh1] at at1 ⊢
  have it1 : h1.IsRevIter it l ((its.size : Int) - 1) := hit.at fun o e => keep1 _ _ (Ne.symm ni) e
  have l1 : h1.IsList l its := by obtain ⟨o, ho, q⟩ := hl; exact ⟨o, keep1 _ _ (Ne.symm nl) ho, q⟩
  have ty : ({ s with heap := h1 } : Shared).TypeIs (.ref it) "list_reverseiterator" := Heap.IsRevIter.typeIs (s := { s with heap := h1 }) it1
  have same : Builtin.List.listSameRef (.ref S) (.ref it) = false := by simp [Builtin.List.listSameRef, ni]
  unfold Builtin.List.listExtendWith
  refine wpAny_bind (wpAny_typeOf ty ?_)
  rw [if_neg (by rw [same]; decide)]
  refine wpAny_bind (wpAny_pyIter_revIter (s := { s with heap := h1 }) it1 ?_)
  refine wpAny_bind (wpAny_holding ?_)
  unfold Builtin.List.listLengthHint
  refine wpAny_bind (wpAny_specialOf ty nolen_lri ?_)
  change wpAny _ _ (specialOf (Value.ref it) (Str.ofString "__length_hint__") >>= _) _ _ _
  refine wpAny_bind (wpAny_specialOf ty hint_lri ?_)
  generalize hz : ("list_reverseiterator.__length_hint__" : String) = nm
  wp_delta
  rw [show splitId nm = some ("list_reverseiterator", "__length_hint__") from by rw [← hz]; decide +kernel]
  subst hz
  refine wpAny_bind (wpAny_isInstance (b := true) ty (by rw [isSubtype_type]; kernel_rfl) (wpAny_pure ?_))
  have e0 : ((its.size : Nat) : Int) - 1 - ((0 : Nat) : Int) = (its.size : Int) - 1 := by omega
  have sf : S ∉ [it, l] := by
    simp only [List.mem_cons, List.not_mem_nil, or_false, not_or]
    exact ⟨ni, nl⟩
  have loop : ∀ (h2 : Heap) (c1 tk : Nat), (∀ b o, b ≠ S → s.heap.get? b = some o → h2.get? b = some o) → h2.get? S = some { cls := .type "list", data := .seq #[] c1 } →
      codeAny (model prog w) A (.builtin "list.extend.loop" ⟨[.ref S, .ref it, .none], []⟩) R { s with heap := h2, toks := tk } := fun h2 c1 tk kp at2 => by
    have it2 : h2.IsRevIter it l ((its.size : Int) - 1) := hit.at fun o e => kp _ _ (Ne.symm ni) e
    have l2 : h2.IsList l its := by obtain ⟨o, ho, q⟩ := hl; exact ⟨o, kp _ _ (Ne.symm nl) ho, q⟩
    refine codeAny_extend_loopS Wk hn S sf .none its.size 0 _ #[] c1 rfl (Nat.zero_le _) ⟨Nat.zero_le _, by rw [e0]; exact it2, l2⟩ at2 (ItemsOf.nil _) fun s' acc c hm at3 hacc => ?_
    rw [Moved.eq_with hm]
    refine k s'.heap s'.toks acc c (fun b o hb hbi e => hm.heap b o (fun z => ?_) (kp b o hb e)) at3 hacc
    rcases List.mem_cons.mp z with z | z
    · exact hb z
    · exact hbi (List.mem_singleton.mp z)
  refine wpAny_ite_split (fun _ => ?_) (fun _ => wpAny_pure ⟨plainId_quiet F.plain_extend_loop _, loop _ _ _ keep1 at1⟩)
  refine wpAny_bind (wpAny_rule (wpAny_bind ?_))
  change wpAny _ _ (updateSeq S (·.push .none) >>= fun _ => updateSeq S (·.pop)) _ _ _
  refine wpAny_bind (wpAny_updateSeq at1 rfl ?_)
  have at2 := Heap.get?_update_self (Obj.mapSeq (·.push Value.none)) at1 rfl
  refine wpAny_updateSeq (hz := by seq_fits) at2 rfl ?_
  have at3 := Heap.get?_update_self (Obj.mapSeq (·.pop)) at2 rfl
  exact wpAny_pure ⟨plainId_quiet F.plain_extend_loop _, loop _ _ _ (fun b o hb e => (Heap.get?_update_other _ _ (Ne.symm hb)).trans ((Heap.get?_update_other _ _ (Ne.symm hb)).trans (keep1 b o hb e))) at3⟩
theorem call_list_rev {it l : Addr} {its : Array Value} {Q : Value → Shared → Prop} (hh : A.handled = none) (hit : s.heap.IsRevIter it l ((its.size : Int) - 1)) (hl : s.heap.IsList l its) (hn : its.size ≤ sizeLine) (hne : l ≠ it)
    (k : ∀ h' tk acc c, (∀ b o, b ≠ it → s.heap.get? b = some o → h'.get? b = some o) → h'.get? s.heap.objs.size = some { cls := .type "list", dict := none, data := .seq acc c, slots := #[] } → ItemsOf (fun i v => its[its.size - 1 - i]? = some v) acc its.size → Q (.ref s.heap.objs.size) { s with heap := h', toks := tk }) :
    wpAny (model prog w) A (call (.type "list") [.ref it]) Q E s := by
  obtain ⟨oi, ei, _⟩ := id hit
  obtain ⟨ol, el, _⟩ := id hl
  refine callType_codes (Q₁ := fun obj s₁ => obj = .ref s.heap.objs.size ∧ s₁ = { s with heap := s.heap.push { cls := .type "list", data := .seq #[] } }) F.called_list (F.typeCall_list_1 _) F.entry_list_init (code_list_new _ ⟨rfl, rfl⟩) fun obj s₁ h => ?_
  obtain ⟨rfl, rfl⟩ := h
  have at0 : (s.heap.push { cls := .type "list", data := .seq #[] }).get? s.heap.objs.size = some { cls := .type "list", data := .seq #[] } := Heap.get?_push_size _ rfl
  refine ⟨⟨_, at0, rfl⟩, F.args_list_init_2 _ _, mk_list_rev (A := A.in1) hh (hit.at fun o e => Heap.get?_push_of_some _ e) (hl.push _) hn hne _ at0 (Nat.ne_of_gt (Heap.lt_size el)) (Nat.ne_of_gt (Heap.lt_size ei)) fun h' tk acc c kp at1 hacc => ⟨rfl, k h' tk acc c (fun b o hb e => kp b o (Nat.ne_of_lt (Heap.lt_size e)) hb (Heap.get?_push_of_some _ e)) at1 hacc⟩⟩
end
section
variable {X : Cx} {e : Expr} {te : TE} {p p2 pos pos2 : Pos} {σ : L2.St} {F H : Hp} {O O1 : Own} {ds : List PyData}
def tLstRev (K : PySem.W.Frag) (te : TE) : TE := fun σ H Q => te σ H fun v H1 => ∃ (a : Addr) (xs : List V), v = .ref a ∧ SqL K H1 a xs ∧ ∀ q, H1 q = none → Q (.ref q) (upd H1 q (.lst xs.reverse))
theorem pe_lstRev (hc : X.calm = true) (hg : Gl X "list") (hm : X.mg "list" = none) (hg2 : Gl X "reversed") (hm2 : X.mg "reversed" = none) (he : PE X e te) (hs : starEach [e] X.env = (false, eval e X.env) :: starEach [] X.env := by rfl)
    (hs2 : starEach [.Call (.Name "reversed" p2) [e] [] pos2] X.env = (false, eval (.Call (.Name "reversed" p2) [e] [] pos2) X.env) :: starEach [] X.env := by rfl) : PE X (.Call (.Name "list" p) [.Call (.Name "reversed" p2) [e] [] pos2] [] pos) (tLstRev X.K te) := by
  refine ⟨fun pins s σ H Q I h => Call_ (ld_blt I hg hm boot_list (PyProof.Rows.callWith_type1 (args_cons (Call_ (ld_blt I hg2 hm2 PyProof.Rows.boot_reversed (PyProof.Rows.callWith_type1 (args_cons (thn (he.run pins s σ H _ I h) fun u s1 ⟨v, H1, I1, r1, a, xs, ev, hq, q⟩ => args_nil ?_) hs) hs rfl))) hs2) hs2 rfl))⟩
  subst ev
  obtain rfl : u = Value.ref a := r1
  obtain ⟨its, rv, pl, hz⟩ := I1.list hq
  have hl := pl.isList
  obtain ⟨ol, el, _⟩ := id hl
  refine call_reversed_list hl (args_nil ?_)
  obtain ⟨s2, es2⟩ : ∃ z : Shared, z = { s1 with heap := s1.heap.push (revObj a ((its.toArray.size : Int) - 1)) } := ⟨_, rfl⟩
  rw [← es2]
  have I2 : Inv X pins σ H1 s2 := by rw [es2]; exact I1.kept (t' := s1.toks) fun b o e => Heap.get?_push_of_some _ e
  obtain ⟨f0, f1, f2, f3, f4, f5⟩ := I1.fpOk (H' := H1) (b := s1.heap.objs.size) (Nat.le_refl _) (I1.hok.fresh (Nat.le_refl _))
  have lt : s1.heap.objs.size < s2.heap.objs.size := by rw [es2]; show _ < (s1.heap.push _).objs.size; rw [Heap.size_push]; exact Nat.lt_succ_self _
  have hn : its.toArray.size ≤ sizeLine := by rw [List.size_toArray, ← rv.length]; exact hz
  have rit : s2.heap.IsRevIter s1.heap.objs.size a ((its.toArray.size : Int) - 1) := by rw [es2]; exact ⟨_, Heap.get?_push_size _ rfl, rfl, rfl⟩
  have l2 : s2.heap.IsList a its.toArray := by rw [es2]; exact hl.push _
  refine call_list_rev (s := s2) (I1.ok.hd hc) rit l2 hn (Nat.ne_of_lt (Heap.lt_size el)) fun h' tk acc c kp at1 hacc => ?_
  refine ⟨.ref s2.heap.objs.size, upd H1 s2.heap.objs.size (.lst xs.reverse), I2.turnedNew (t' := tk) (ch := [s1.heap.objs.size]) (fun b o hb e => kp b o (fun z => hb (by rw [z]; exact List.mem_singleton.mpr rfl)) e) (fun b hb => ?_) (Nat.le_refl _) (show ObjOk X.prog X.w _ _ _ (.lst xs.reverse) from ⟨by rw [List.length_reverse]; exact hz, acc.toList, c, vals_rev rv hacc, by rw [Array.toArray_toList]; exact at1⟩), rfl, q _ (I2.hok.fresh (Nat.le_refl _))⟩
  rw [List.mem_singleton.mp hb]
  exact ⟨f0, f1, f2, f3, f4, f5⟩
theorem zn_lstRev (hc : X.calm = true) (hm : X.mg "list" = none) (hm2 : X.mg "reversed" = none) (ha : ZE X e σ F O (.list ds) O1) (hg : Gl X "list" := by rfl) (hg2 : Gl X "reversed" := by rfl) (hs : starEach [e] X.env = (false, eval e X.env) :: starEach [] X.env := by rfl)
    (hs2 : starEach [.Call (.Name "reversed" p2) [e] [] pos2] X.env = (false, eval (.Call (.Name "reversed" p2) [e] [] pos2) X.env) :: starEach [] X.env := by rfl) : ZN X (.Call (.Name "list" p) [.Call (.Name "reversed" p2) [e] [] pos2] [] pos) σ F O ds.reverse O1 := fun F1 H g w Q q =>
  wE_of (pe_lstRev hc hg hm hg2 hm2 pe_w hs hs2) (ha F1 H g w _ fun v F2 H2 s1 r1 => by
    obtain ⟨l, xs, rfl, e1, a1⟩ := r1.lst_inv
    refine ⟨l, xs, rfl, .inl (.inl (s1.ok.sub _ _ e1)), fun a ha => ?_⟩
    have hz : xs.reverse.length ≤ sizeLine := by rw [List.length_reverse]; exact s1.ok.sz _ _ e1
    refine q a _ _ _ ?_ (s1.trans (Stp.alloc s1.ok ha hz)) a1.rev
    cases z : H a with
    | none => rfl
    | some u => exact absurd ha (s1.dom a (by rw [z]; simp)))
end
/-! ### lending what is mine, alone -/
def FlatD (d : PyData) : Prop := ∀ (K : PySem.W.Frag) (F F' : Hp) (v : V), R K F v d → R K F' v d
theorem flatI {i : Int} : FlatD (eI i) := fun K F F' v r => by rw [r.int_inv]; exact .int _
theorem flatB {i : Bool} : FlatD (eB i) := fun K F F' v r => by rw [r.bl_inv]; exact .bl _
theorem flatS {i : Str} : FlatD (eS i) := fun K F F' v r => by rw [r.str_inv]; exact .str _
def hid (F : Hp) (p : Addr) : Hp := fun b => if b = p then none else F b
section
variable {F F' H H' : Hp} {O O' O1 : Own} {p : Addr} {o : HO} {k k1 : Nat}
theorem own_perm : ∀ {O : Own} {k : Nat}, O[k]? = some (p, o) → O.Perm ((p, o) :: O.eraseIdx k)
  | [], k, h => by simp at h
  | q :: O, 0, h => by cases h; exact List.Perm.refl _
  | q :: O, k + 1, h => ((own_perm (O := O) (k := k) h).cons q).trans (List.Perm.swap _ _ _)
theorem own_permK {O : Own} {k : Nat} (h : O[k]? = some (p, o)) : (keys O).Perm (p :: keys (O.eraseIdx k)) := (own_perm h).map _
theorem hid_ne {b : Addr} (h : b ≠ p) : hid F p b = F b := by unfold hid; rw [if_neg h]
theorem hid_some {b : Addr} {u : HO} (h : hid F p b = some u) : b ≠ p ∧ F b = some u := by
  unfold hid at h
  split at h
  · cases h
  · exact ⟨by assumption, h⟩
theorem WOk.lend (w : WOk F O H) (h : O[k]? = some (p, o)) : WOk (upd F p o) (O.eraseIdx k) H := by
  have hp := own_perm h
  have at_ := w.at_ h
  have nk : (p :: keys (O.eraseIdx k)).Nodup := (own_permK h).nodup_iff.mp w.nd
  refine ⟨fun b u e => ?_, fun q hq => ?_, (List.nodup_cons.mp nk).2, fun a xs e => ?_, fun q hq => w.szo q (hp.mem_iff.mpr (List.mem_cons_of_mem _ hq))⟩
  · by_cases hb : b = p
    · subst hb; rw [upd_same] at e; cases e; exact at_.1
    · rw [upd_ne hb] at e; exact w.sub b u e
  · have z := w.own q (hp.mem_iff.mpr (List.mem_cons_of_mem _ hq))
    have ne : q.1 ≠ p := fun e => (List.nodup_cons.mp nk).1 (by rw [← e]; exact List.mem_map.mpr ⟨q, hq, rfl⟩)
    exact ⟨z.1, by rw [upd_ne ne]; exact z.2⟩
  · by_cases hb : a = p
    · subst hb; rw [upd_same] at e; cases e; exact w.szo _ (hp.mem_iff.mpr List.mem_cons_self) _ rfl
    · rw [upd_ne hb] at e; exact w.sz a xs e
theorem Stp.lend (w : WOk F O H) (h : O[k]? = some (p, o)) (x : Stp (upd F p o) (O.eraseIdx k) H F' (O1.eraseIdx k1) H') (h1 : O1[k1]? = some (p, o)) : Stp F O H (hid F' p) O1 H' := by
  have hp := own_perm h
  have hp1 := own_perm h1
  have at_ := w.at_ h
  have fp : F' p = some o := x.gr p o upd_same
  have mem : ∀ b, b ∈ keys O ↔ b = p ∨ b ∈ keys (O.eraseIdx k) := fun b => by
    rw [(own_permK h).mem_iff, List.mem_cons]
  have mem1 : ∀ b, b ∈ keys O1 ↔ b = p ∨ b ∈ keys (O1.eraseIdx k1) := fun b => by
    rw [(own_permK h1).mem_iff, List.mem_cons]
  have no : p ∉ keys (O1.eraseIdx k1) := fun z => by
    obtain ⟨q, hq, e⟩ := List.mem_map.mp z
    have := (x.ok.own q hq).2
    rw [e, fp] at this; cases this
  refine ⟨⟨fun b u e => x.ok.sub b u (hid_some e).2, fun q hq => ?_, ?_, fun a xs e => x.ok.sz a xs (hid_some e).2, fun q hq xs e => ?_⟩, fun b u e => ?_, fun b u e n => ?_, fun b u e => ?_, fun b hb => ?_, x.dom⟩
  · rcases List.mem_cons.mp (hp1.mem_iff.mp hq) with rfl | hq
    · exact ⟨x.ok.sub _ _ fp, by unfold hid; rw [if_pos rfl]⟩
    · have z := x.ok.own q hq
      exact ⟨z.1, by unfold hid; split <;> first | rfl | exact z.2⟩
  · exact (own_permK h1).nodup_iff.mpr (List.nodup_cons.mpr ⟨no, x.ok.nd⟩)
  · rcases List.mem_cons.mp (hp1.mem_iff.mp hq) with rfl | hq
    · exact w.szo _ (hp.mem_iff.mpr List.mem_cons_self) xs e
    · exact x.ok.szo q hq xs e
  · have ne : b ≠ p := fun z => by rw [z, at_.2] at e; cases e
    rw [hid_ne ne]
    exact x.gr b u (by rw [upd_ne ne]; exact e)
  · exact x.keep b u e fun z => n ((mem b).mpr (.inr z))
  · obtain ⟨ne, e⟩ := hid_some e
    rcases x.fr b u e with z | z
    · rw [upd_ne ne] at z; exact .inl z
    · exact .inr z
  · rcases (mem1 b).mp hb with rfl | hb
    · exact .inl ((mem _).mpr (.inl rfl))
    · rcases x.ky b hb with z | z
      · exact .inl ((mem b).mpr (.inr z))
      · exact .inr z
theorem Gr.lend {F1 : Hp} (g : Gr F F1) : Gr (L2.upd F p o) (L2.upd F1 p o) := fun b u e => by
  by_cases hb : b = p
  · subst hb; rw [upd_same] at e ⊢; exact e
  · rw [upd_ne hb] at e ⊢; exact g b u e
end
/-- what is mine at place k is data within e -/
theorem ze_lend {X : Cx} {e : Expr} {σ : L2.St} {F : Hp} {O O' O1 O1' : Own} {d : PyData} {p : Addr} {o : HO} (k k1 : Nat) (h : O[k]? = some (p, o)) (hO : O.eraseIdx k = O') (z : ZE X e σ (upd F p o) O' d O1') (hd : FlatD d) (h1 : O1[k1]? = some (p, o)) (hO1 : O1.eraseIdx k1 = O1') : ZE X e σ F O d O1 := fun F1 H g w Q q => by
  subst hO hO1
  exact z (upd F1 p o) H g.lend (w.lend h) Q fun v F2 H2 s r => q v _ H2 (Stp.lend w h s h1) (hd _ _ _ _ r)
theorem zt_lend {X : Cx} {e : Expr} {σ : L2.St} {F : Hp} {O O' O1 O1' : Own} {b : Bool} {p : Addr} {o : HO} (k k1 : Nat) (h : O[k]? = some (p, o)) (hO : O.eraseIdx k = O') (z : ZT X e σ (upd F p o) O' b O1') (h1 : O1[k1]? = some (p, o)) (hO1 : O1.eraseIdx k1 = O1') : ZT X e σ F O b O1 := fun F1 H g w Q q => by
  subst hO hO1
  exact z (upd F1 p o) H g.lend (w.lend h) Q fun F2 H2 s => q _ H2 (Stp.lend w h s h1)
/-- a value that may be None and is none -/
theorem ze_some {X : Cx} {e : Expr} {σ : L2.St} {F : Hp} {O O1 : Own} {α : Type} [Inhabited α] {enc : α → PyData} {x : Option α} (h : ZE X e σ F O (eO enc x) O1) (hs : x.isSome = true) : ZE X e σ F O (enc (x.getD default)) O1 := by
  cases x with
  | none => cases hs
  | some a => exact h
theorem some_nn {enc : Int → PyData} {x : Option Int} (he : ∀ i, isNon (enc i) = false) (h : (!isNon (eO enc x)) = true) : x.isSome = true := by
  cases x with
  | none => exact (Bool.false_ne_true h).elim
  | some a => rfl
theorem len_filter_map {α β : Type} (pr : α → Bool) (f : α → β) (xs : List α) : ((xs.filter pr).map f).length ≤ xs.length := by
  rw [List.length_map]; exact List.length_filter_le _ _
theorem isNon_eO {α : Type} {enc : α → PyData} (he : ∀ a, isNon (enc a) = false) (x : Option α) : isNon (eO enc x) = x.isNone := by
  cases x with
  | none => rfl
  | some a => exact he a
/-- not x, as a value -/
theorem ze_notTr {X : Cx} {a : Expr} {σ : L2.St} {F : Hp} {O O1 : Own} {d : PyData} {k : Bool} {pos : Pos} (h : ZE X a σ F O d O1) (ht : ∀ F2 H2 v, Gr F F2 → WOk F2 O1 H2 → R X.K F2 v d → TruV X.K v H2 k) : ZE X (.UnaryOp .Not a pos) σ F O (.bool (!k)) O1 := fun F1 H g w Q q =>
  wE_of (pe_notT pe_w) (h F1 H g w _ fun v F2 H2 s1 r1 => ⟨k, ht F2 H2 v (g.trans s1.gr) s1.ok r1, q _ _ _ s1 (.bl _)⟩)
theorem ze_notL {X : Cx} {a : Expr} {σ : L2.St} {F : Hp} {O O1 : Own} {ds : List PyData} {pos : Pos} (h : ZE X a σ F O (.list ds) O1) : ZE X (.UnaryOp .Not a pos) σ F O (.bool (!!ds.isEmpty)) O1 :=
  ze_notTr h fun F2 H2 v _ w r => by
    obtain ⟨l, xs, rfl, e1, a1⟩ := r.lst_inv
    exact .inl ⟨xs, .inl (.inl (w.sub _ _ e1)), by rw [ra_empty a1]⟩
theorem ze_notLt {X : Cx} {a : Expr} {σ : L2.St} {F : Hp} {O O1 : Own} {α : Type} {enc : α → PyData} {xs : List α} {pos : Pos} (h : ZE X a σ F O (eL enc xs) O1) : ZE X (.UnaryOp .Not a pos) σ F O (eB xs.isEmpty) O1 :=
  ze_to (ze_notL h) (by rw [Bool.not_not]; cases xs <;> rfl) rfl
end Z

end
section
namespace Z
open PySem PySem.Spec PyProof.Rows L2
/-! ### sizes of data -/
theorem szI (i : Int) : dsz (eI i) = 1 := by simp [eI, dsz]
theorem szB (i : Bool) : dsz (eB i) = 1 := by simp [eB, dsz]
theorem szS (i : Str) : dsz (eS i) = 1 := by simp [eS, dsz]
theorem szLn {α : Type} {e : α → PyData} (xs : List α) : dsz (eL e xs) = 1 + dszL (xs.map e) := dsz_list _
theorem szLI (xs : List Int) : dszL (xs.map eI) = xs.length := by
  induction xs with
  | nil => rfl
  | cons x xs ih => rw [List.map_cons, List.length_cons]; simp only [dszL]; rw [ih, szI]; omega
theorem szLS (xs : List Str) : dszL (xs.map eS) = xs.length := by
  induction xs with
  | nil => rfl
  | cons x xs ih => rw [List.map_cons, List.length_cons]; simp only [dszL]; rw [ih, szS]; omega
theorem szLB (xs : List Bool) : dszL (xs.map eB) = xs.length := by
  induction xs with
  | nil => rfl
  | cons x xs ih => rw [List.map_cons, List.length_cons]; simp only [dszL]; rw [ih, szB]; omega
theorem szOI (x : Option Int) : dsz (eO eI x) = 1 := by cases x with | none => simp [eO, dsz] | some a => exact szI a
theorem szOS (x : Option Str) : dsz (eO eS x) = 1 := by cases x with | none => simp [eO, dsz] | some a => exact szS a
theorem szT2 {α β : Type} {e1 : α → PyData} {e2 : β → PyData} (p : α × β) : dsz (eT2 e1 e2 p) = 1 + (dsz (e1 p.1) + dsz (e2 p.2)) := by
  show dsz (.tuple [e1 p.1, e2 p.2]) = _
  rw [dsz_tuple]; simp [dszL]
theorem szD (xs : List PyData) : dszL (xs.map fun d => d) = dszL xs := by rw [List.map_id']
theorem szC (x : PyData) (xs : List PyData) : dszL (x :: xs) = dsz x + dszL xs := rfl
theorem szN : dszL [] = 0 := rfl
theorem szM {α β : Type} {e : β → PyData} (f : α → β) (xs : List α) (c : Nat) (h : ∀ x ∈ xs, dsz (e (f x)) ≤ c) : dszL ((xs.map f).map e) ≤ c * xs.length := by
  rw [List.map_map]; exact dszL_map_le (e := e ∘ f) h
end Z

end
section
namespace ZL
open PySem PySem.Spec PyProof.Rows L2 Z
def topS (i : Nat) : Stmt := PySem.Challenge.pw_flushends_k11_rods_cut_in_every_order.main.body.getD i (.Pass ⟨0, 0, 0, 0⟩)
structure Top (K : PySem.W.Frag) (mg : Str → Option Value) : Prop where
  f_mix : ∃ f fd, FunD K "_law_mix" "_law_mix" (defArgs (topS 11)) (defBody (topS 11)) (defScope (topS 11)) [] [] f fd ∧ mg "_law_mix" = some (.ref f)
  f_mkStore : ∃ f fd, FunD K "_law_store" "_law_store" (defArgs (topS 12)) (defBody (topS 12)) (defScope (topS 12)) [] [] f fd ∧ mg "_law_store" = some (.ref f)
  f_take : ∃ f fd, FunD K "_law_take" "_law_take" (defArgs (topS 13)) (defBody (topS 13)) (defScope (topS 13)) [] [] f fd ∧ mg "_law_take" = some (.ref f)
  f_odds : ∃ f fd, FunD K "_law_odds" "_law_odds" (defArgs (topS 14)) (defBody (topS 14)) (defScope (topS 14)) [] [] f fd ∧ mg "_law_odds" = some (.ref f)
  f_number : ∃ f fd, FunD K "_law_number" "_law_number" (defArgs (topS 15)) (defBody (topS 15)) (defScope (topS 15)) [] [] f fd ∧ mg "_law_number" = some (.ref f)
  f_same : ∃ f fd, FunD K "_law_same" "_law_same" (defArgs (topS 19)) (defBody (topS 19)) (defScope (topS 19)) [] [] f fd ∧ mg "_law_same" = some (.ref f)
  f_pick : ∃ f fd, FunD K "_law_pick" "_law_pick" (defArgs (topS 16)) (defBody (topS 16)) (defScope (topS 16)) [] [] f fd ∧ mg "_law_pick" = some (.ref f)
  f_shuffleL : ∃ f fd, FunD K "_law_shuffle" "_law_shuffle" (defArgs (topS 17)) (defBody (topS 17)) (defScope (topS 17)) [] [] f fd ∧ mg "_law_shuffle" = some (.ref f)
  f_yardL : ∃ f fd, FunD K "_law_yard" "_law_yard" (defArgs (topS 18)) (defBody (topS 18)) (defScope (topS 18)) [] [] f fd ∧ mg "_law_yard" = some (.ref f)
  f_rod_picksP : ∃ f fd, FunD K "rod_picks" "rod_picks" (defArgs (topS 1)) (defBody (topS 1)) (defScope (topS 1)) [] [] f fd ∧ mg "rod_picks" = some (.ref f)
  f_rod_restP : ∃ f fd, FunD K "rod_rest" "rod_rest" (defArgs (topS 2)) (defBody (topS 2)) (defScope (topS 2)) [] [] f fd ∧ mg "rod_rest" = some (.ref f)
  f_rod_leaveP : ∃ f fd, FunD K "rod_leave" "rod_leave" (defArgs (topS 3)) (defBody (topS 3)) (defScope (topS 3)) [] [] f fd ∧ mg "rod_leave" = some (.ref f)
  f_loadP : ∃ f fd, FunD K "load" "load" (defArgs (topS 4)) (defBody (topS 4)) (defScope (topS 4)) [] [] f fd ∧ mg "load" = some (.ref f)
  f_bearsP : ∃ f fd, FunD K "bears" "bears" (defArgs (topS 5)) (defBody (topS 5)) (defScope (topS 5)) [] [] f fd ∧ mg "bears" = some (.ref f)
  f_cut_rodP : ∃ f fd, FunD K "cut_rod" "cut_rod" (defArgs (topS 6)) (defBody (topS 6)) (defScope (topS 6)) [] [] f fd ∧ mg "cut_rod" = some (.ref f)
  f_rod_beatsP : ∃ f fd, FunD K "rod_beats" "rod_beats" (defArgs (topS 7)) (defBody (topS 7)) (defScope (topS 7)) [] [] f fd ∧ mg "rod_beats" = some (.ref f)
  f_rod_reasonP : ∃ f fd, FunD K "rod_reason" "rod_reason" (defArgs (topS 8)) (defBody (topS 8)) (defScope (topS 8)) [] [] f fd ∧ mg "rod_reason" = some (.ref f)
  f_good_rodsP : ∃ f fd, FunD K "good_rods" "good_rods" (defArgs (topS 9)) (defBody (topS 9)) (defScope (topS 9)) [] [] f fd ∧ mg "good_rods" = some (.ref f)
  f_lessL : ∃ f fd, FunD K "_law_less" "_law_less" (defArgs (topS 20)) (defBody (topS 20)) (defScope (topS 20)) [] [] f fd ∧ mg "_law_less" = some (.ref f)
  f_stayL : ∃ f fd, FunD K "_law_stay" "_law_stay" (defArgs (topS 21)) (defBody (topS 21)) (defScope (topS 21)) [] [] f fd ∧ mg "_law_stay" = some (.ref f)
  f_cut_allL : ∃ f fd, FunD K "_law_cut_all" "_law_cut_all" (defArgs (topS 22)) (defBody (topS 22)) (defScope (topS 22)) [] [] f fd ∧ mg "_law_cut_all" = some (.ref f)
  f_asks_and_rodL : ∃ f fd, FunD K "_law_asks_and_rod" "_law_asks_and_rod" (defArgs (topS 23)) (defBody (topS 23)) (defScope (topS 23)) [] [] f fd ∧ mg "_law_asks_and_rod" = some (.ref f)
  f_lay_twoL : ∃ f fd, FunD K "_law_lay_two" "_law_lay_two" (defArgs (topS 25)) (defBody (topS 25)) (defScope (topS 25)) [] [] f fd ∧ mg "_law_lay_two" = some (.ref f)
  f_borneL : ∃ f fd, FunD K "_law_borne" "_law_borne" (defArgs (topS 24)) (defBody (topS 24)) (defScope (topS 24)) [] [] f fd ∧ mg "_law_borne" = some (.ref f)
  f_lookL : ∃ f fd, FunD K "_law_look" "_law_look" (defArgs (topS 26)) (defBody (topS 26)) (defScope (topS 26)) [] [] f fd ∧ mg "_law_look" = some (.ref f)
  f_askedL : ∃ f fd, FunD K "_law_asked" "_law_asked" (defArgs (topS 27)) (defBody (topS 27)) (defScope (topS 27)) [] [] f fd ∧ mg "_law_asked" = some (.ref f)
  f_goodL : ∃ f fd, FunD K "_law_good" "_law_good" (defArgs (topS 28)) (defBody (topS 28)) (defScope (topS 28)) [] [] f fd ∧ mg "_law_good" = some (.ref f)
  f_law : ∃ f fd, FunD K "law" "law" (defArgs (topS 29)) (defBody (topS 29)) (defScope (topS 29)) [] [] f fd ∧ mg "law" = some (.ref f)
  b_abs : mg "abs" = none
  b_all : mg "all" = none
  b_bool : mg "bool" = none
  b_int : mg "int" = none
  b_isinstance : mg "isinstance" = none
  b_len : mg "len" = none
  b_list : mg "list" = none
  b_max : mg "max" = none
  b_min : mg "min" = none
  b_range : mg "range" = none
  b_reversed : mg "reversed" = none
  b_set : mg "set" = none
  b_sorted : mg "sorted" = none
  b_str : mg "str" = none
  b_sum : mg "sum" = none
  b_tuple : mg "tuple" = none

/-! _law_mix -/
abbrev s_mix : Stmt := topS 11
theorem sc_mix : FnScope ["seed", "step", "low", "high", "one", "two"] ["seed", "step"] (defScope s_mix) := ⟨rfl, rfl, rfl, by decide +kernel, rfl, by decide +kernel, by decide +kernel⟩
def mix_6 (one_2 : Int) (two_2 : Int) : Int :=
  ((one_2 * (2147483579 : Int)) + two_2)
def mix_5 (low : Int) (one_2 : Int) (two : Int) : Int :=
  mix_6 one_2 ((((two * two) + ((39373 : Int) * one_2)) + low) % (2147483579 : Int))
def mix_4 (low : Int) (high : Int) (one : Int) (two : Int) : Int :=
  mix_5 low ((((one * one) + ((16807 : Int) * two)) + high) % (2147483399 : Int)) two
def mix_3 (low : Int) (high : Int) (one : Int) : Int :=
  mix_4 low high one ((((high * high) + ((48271 : Int) * one)) + low) % (2147483629 : Int))
def mix_2 (low : Int) (high : Int) : Int :=
  mix_3 low high (((low * low) + ((40692 : Int) * high)) % (2147483647 : Int))
def mix_1 (seed : Int) (step : Int) (low : Int) : Int :=
  mix_2 low ((((seed / (2147483647 : Int)) % (2147483629 : Int)) + ((step % (1000003 : Int)) * (69621 : Int))) + (5 : Int))
def mix (seed : Int) (step : Int) : Int :=
  mix_1 seed step (((seed % (2147483647 : Int)) + ((step % (1000003 : Int)) * (48271 : Int))) + (11 : Int))
def A_mix : List PyData → PyData → Prop := fun ds r => ∃ (seed : Int) (step : Int), ds = [eI seed, eI step] ∧ r = eI (mix seed step)
set_option maxHeartbeats 4000000 in
theorem ok_mix {P : Program} {w : World} {K : PySem.W.Frag} {mg : Str → Option Value} {base : Heap} (T : Top K mg) : Fn P w K mg base 1 "_law_mix" ["seed", "step"] (spD K A_mix) := by
  obtain ⟨f, fd, F, gm⟩ := T.f_mix
  have sc := sc_mix
  refine ⟨f, fd, F.ok sc (fun vs H Q E h => ?_) (fun cdv A outer s0 H vs Q E hr h => ⟨_, PSs.nox pss_w, ?_⟩), gm, F.kp, F.bindsN (fun _ _ _ _ _ _ us hl => match us, hl with | [_, _], _ => rfl)⟩
  · obtain ⟨F, ds, r, w, ra, ⟨seed, step, rfl, rfl⟩, q⟩ := h
    exact ra.len
  · obtain ⟨F, ds, r, w, ra, ⟨seed, step, rfl, rfl⟩, q⟩ := h
    obtain ⟨v_seed, ws, rfl, r_seed, ra⟩ := ra.cons_inv
    obtain ⟨v_step, ws, rfl, r_step, ra⟩ := ra.cons_inv
    obtain rfl := ra.nil_inv
    have st := Stp.refl w
    have hf : mix seed step = mix seed step := rfl
    show ZS _ _ [some v_seed, some v_step, none, none, none, none] H _
    refine zs_set (n := 2) st.ok (ze_add (ze_add (ze_mod (ze_intI T.b_int (ze_var 0 rfl r_seed)) ze_int (by decide)) (ze_mulR (ze_mod (ze_intI T.b_int (ze_var 1 rfl r_step)) ze_int (by decide)) ze_int (by decide))) ze_int) sc.nd rfl (by first | exact Or.inl rfl | exact Or.inr rfl) fun v_low F_2 H_2 s_2 r_low => ?_
    obtain ⟨low, hx_low⟩ : ∃ z : Int, z = (((seed % (2147483647 : Int)) + ((step % (1000003 : Int)) * (48271 : Int))) + (11 : Int)) := ⟨_, rfl⟩
    have s_2 : Stp F [] H F_2 [] H_2 := by exact s_2
    have r_low : R K F_2 v_low (eI low) := by subst hx_low; exact r_low
    have st := st.trans s_2
    have r_seed := r_seed.mono s_2.gr
    have r_step := r_step.mono s_2.gr
    show ZS _ _ [some v_seed, some v_step, some v_low, none, none, none] H_2 _
    have hf : mix seed step = mix_1 seed step low := by subst hx_low; exact hf
    refine zs_set (n := 3) st.ok (ze_add (ze_add (ze_mod (ze_fdivW (ze_intI T.b_int (ze_var 0 rfl r_seed)) ze_int (by decide) (by decide)) ze_int (by decide)) (ze_mulR (ze_mod (ze_intI T.b_int (ze_var 1 rfl r_step)) ze_int (by decide)) ze_int (by decide))) ze_int) sc.nd rfl (by first | exact Or.inl rfl | exact Or.inr rfl) fun v_high F_3 H_3 s_3 r_high => ?_
    obtain ⟨high, hx_high⟩ : ∃ z : Int, z = ((((seed / (2147483647 : Int)) % (2147483629 : Int)) + ((step % (1000003 : Int)) * (69621 : Int))) + (5 : Int)) := ⟨_, rfl⟩
    have s_3 : Stp F_2 [] H_2 F_3 [] H_3 := by exact s_3
    have r_high : R K F_3 v_high (eI high) := by subst hx_high; exact r_high
    have st := st.trans s_3
    have r_seed := r_seed.mono s_3.gr
    have r_step := r_step.mono s_3.gr
    have r_low := r_low.mono s_3.gr
    show ZS _ _ [some v_seed, some v_step, some v_low, some v_high, none, none] H_3 _
    have hf : mix seed step = mix_2 low high := by subst hx_high; exact hf
    refine zs_set (n := 4) st.ok (ze_mod (ze_intI T.b_int (ze_add (ze_mulL (ze_var 2 rfl r_low) (ze_var 2 rfl r_low) (by /-1-/ first | (first | omega | (simp only [List.length_append, List.length_cons, List.length_nil, List.length_map, rangeI_length]; omega)) | (first | omega | decide))) (ze_mulL ze_int (ze_var 3 rfl r_high) (by decide)))) ze_int (by decide)) sc.nd rfl (by first | exact Or.inl rfl | exact Or.inr rfl) fun v_one F_4 H_4 s_4 r_one => ?_
    obtain ⟨one, hx_one⟩ : ∃ z : Int, z = (((low * low) + ((40692 : Int) * high)) % (2147483647 : Int)) := ⟨_, rfl⟩
    have s_4 : Stp F_3 [] H_3 F_4 [] H_4 := by exact s_4
    have r_one : R K F_4 v_one (eI one) := by subst hx_one; exact r_one
    have st := st.trans s_4
    have r_seed := r_seed.mono s_4.gr
    have r_step := r_step.mono s_4.gr
    have r_low := r_low.mono s_4.gr
    have r_high := r_high.mono s_4.gr
    show ZS _ _ [some v_seed, some v_step, some v_low, some v_high, some v_one, none] H_4 _
    have hf : mix seed step = mix_3 low high one := by subst hx_one; exact hf
    refine zs_set (n := 5) st.ok (ze_mod (ze_intI T.b_int (ze_add (ze_add (ze_mulL (ze_var 3 rfl r_high) (ze_var 3 rfl r_high) (by /-2-/ first | (first | omega | (simp only [List.length_append, List.length_cons, List.length_nil, List.length_map, rangeI_length]; omega)) | (first | omega | decide))) (ze_mulL ze_int (ze_var 4 rfl r_one) (by decide))) (ze_var 2 rfl r_low))) ze_int (by decide)) sc.nd rfl (by first | exact Or.inl rfl | exact Or.inr rfl) fun v_two F_5 H_5 s_5 r_two => ?_
    obtain ⟨two, hx_two⟩ : ∃ z : Int, z = ((((high * high) + ((48271 : Int) * one)) + low) % (2147483629 : Int)) := ⟨_, rfl⟩
    have s_5 : Stp F_4 [] H_4 F_5 [] H_5 := by exact s_5
    have r_two : R K F_5 v_two (eI two) := by subst hx_two; exact r_two
    have st := st.trans s_5
    have r_seed := r_seed.mono s_5.gr
    have r_step := r_step.mono s_5.gr
    have r_low := r_low.mono s_5.gr
    have r_high := r_high.mono s_5.gr
    have r_one := r_one.mono s_5.gr
    show ZS _ _ [some v_seed, some v_step, some v_low, some v_high, some v_one, some v_two] H_5 _
    have hf : mix seed step = mix_4 low high one two := by subst hx_two; exact hf
    refine zs_set (n := 4) st.ok (ze_mod (ze_intI T.b_int (ze_add (ze_add (ze_mulL (ze_var 4 rfl r_one) (ze_var 4 rfl r_one) (by /-3-/ first | (first | omega | (simp only [List.length_append, List.length_cons, List.length_nil, List.length_map, rangeI_length]; omega)) | (first | omega | decide))) (ze_mulL ze_int (ze_var 5 rfl r_two) (by decide))) (ze_var 3 rfl r_high))) ze_int (by decide)) sc.nd rfl (by first | exact Or.inl rfl | exact Or.inr rfl) fun v_one_2 F_6 H_6 s_6 r_one_2 => ?_
    obtain ⟨one_2, hx_one_2⟩ : ∃ z : Int, z = ((((one * one) + ((16807 : Int) * two)) + high) % (2147483399 : Int)) := ⟨_, rfl⟩
    have s_6 : Stp F_5 [] H_5 F_6 [] H_6 := by exact s_6
    have r_one_2 : R K F_6 v_one_2 (eI one_2) := by subst hx_one_2; exact r_one_2
    have st := st.trans s_6
    have r_seed := r_seed.mono s_6.gr
    have r_step := r_step.mono s_6.gr
    have r_low := r_low.mono s_6.gr
    have r_high := r_high.mono s_6.gr
    have r_two := r_two.mono s_6.gr
    show ZS _ _ [some v_seed, some v_step, some v_low, some v_high, some v_one_2, some v_two] H_6 _
    have hf : mix seed step = mix_5 low one_2 two := by subst hx_one_2; exact hf
    refine zs_set (n := 5) st.ok (ze_mod (ze_intI T.b_int (ze_add (ze_add (ze_mulL (ze_var 5 rfl r_two) (ze_var 5 rfl r_two) (by /-4-/ first | (first | omega | (simp only [List.length_append, List.length_cons, List.length_nil, List.length_map, rangeI_length]; omega)) | (first | omega | decide))) (ze_mulL ze_int (ze_var 4 rfl r_one_2) (by decide))) (ze_var 2 rfl r_low))) ze_int (by decide)) sc.nd rfl (by first | exact Or.inl rfl | exact Or.inr rfl) fun v_two_2 F_7 H_7 s_7 r_two_2 => ?_
    obtain ⟨two_2, hx_two_2⟩ : ∃ z : Int, z = ((((two * two) + ((39373 : Int) * one_2)) + low) % (2147483579 : Int)) := ⟨_, rfl⟩
    have s_7 : Stp F_6 [] H_6 F_7 [] H_7 := by exact s_7
    have r_two_2 : R K F_7 v_two_2 (eI two_2) := by subst hx_two_2; exact r_two_2
    have st := st.trans s_7
    have r_seed := r_seed.mono s_7.gr
    have r_step := r_step.mono s_7.gr
    have r_low := r_low.mono s_7.gr
    have r_high := r_high.mono s_7.gr
    have r_one_2 := r_one_2.mono s_7.gr
    show ZS _ _ [some v_seed, some v_step, some v_low, some v_high, some v_one_2, some v_two_2] H_7 _
    have hf : mix seed step = mix_6 one_2 two_2 := by subst hx_two_2; exact hf
    refine zs_ret st.ok (ze_add (ze_mulR (ze_var 4 rfl r_one_2) ze_int (by decide)) (ze_var 5 rfl r_two_2)) fun v F_8 H_8 s_8 r_2 => ?_
    exact q v F_8 H_8 (st.trans s_8) (by rw [hf]; exact r_2)

/-! _law_store -/
abbrev s_mkStore : Stmt := topS 12
theorem sc_mkStore : FnScope ["script", "cells", "seed", "cell"] ["script"] (defScope s_mkStore) := ⟨rfl, rfl, rfl, by decide +kernel, rfl, by decide +kernel, by decide +kernel⟩
set_option maxHeartbeats 4000000 in
theorem ok_mkStore {P : Program} {w : World} {K : PySem.W.Frag} {mg : Str → Option Value} {base : Heap} (T : Top K mg) : Fn P w K mg base 1 "_law_store" ["script"] (spMk K) := by
  obtain ⟨f, fd, F, gm⟩ := T.f_mkStore
  have sc := sc_mkStore
  refine ⟨f, fd, F.ok sc (fun vs H Q E h => ?_) (fun cdv A outer s0 H vs Q E hr h => ⟨_, PSs.nox pss_w, ?_⟩), gm, F.kp, F.bindsN (fun _ _ _ _ _ _ us hl => match us, hl with | [_], _ => rfl)⟩
  · obtain ⟨F, a, ns, rfl, w, hS, hn, q⟩ := h
    rfl
  · obtain ⟨F, a, ns, rfl, w, hS, hn, q⟩ := h
    have st := Stp.refl w
    show ZS _ _ [some (.ref a), none, none, none] H _
    refine zs_setLcM (i0 := 1) (n := 3) (w := st.ok) (f0 := fun x : Int => x) (encR := eI) rfl sc.nd (zi_sqL (n := 0) rfl hS (ra_ints ns) (by rw [List.length_map, ← szL]; omega)) (fun _ _ _ _ _ x v _ hx g r => ze_intI T.b_int (ze_var 3 rfl r)) (blkOk_by (N := ["script", "cells", "seed", "cell"]) (sc := defScope s_mkStore) (by decide +kernel)) (fun _ _ _ _ _ => pg_name (i := 3) sc.nd rfl (Or.inl rfl)) rfl rfl (sw_true rfl rfl rfl (by decide +kernel)) fun p us F1 H1 hp s1 r1 => ?_
    have hn1 := st.newAt hp
    have r1 : RA K F1 us (ns.map eI) := by rw [List.map_id'] at r1; exact r1
    have g1 : Gr F1 (upd F1 p (.lst us)) := Gr.upd (s1.ok.at_ (k := 0) rfl).2
    have st : Stp _ _ _ (upd F1 p (.lst us)) [] H1 := Stp.freezeAt 0 (st.trans s1) rfl hn1
    have r_cells : R K (upd F1 p (.lst us)) (.ref p) (eL eI ns) := (r1.mono g1).lst upd_same
    show ZS _ _ [some (.ref a), some (.ref p), none, none] H1 _
    refine zs_set (n := 2) st.ok (ze_add ze_int (ze_lenLt T.b_len (ze_var 1 rfl r_cells))) sc.nd rfl (Or.inl rfl) fun v_seed F3 H3 s3 r_seed => ?_
    have st := st.trans s3
    have r_cells := r_cells.mono s3.gr
    show ZS _ _ [some (.ref a), some (.ref p), some v_seed, none] H3 _
    refine zs_forF (f := fun b a : Int => (b * 1000003 + a % 2305843009213693951 + 1) % 2305843009213693951) (b0 := 17 + (ns.length : Int)) st.ok PassesOwn.never rfl (zi_list (ze_var 1 rfl r_cells)) (fun i b σ F O => ∃ (z : Option V) (v : V), σ = [some (.ref a), some (.ref p), some v, z] ∧ O = [] ∧ R K F v (eI b)) (fun F1 H1 s1 => ⟨none, v_seed, rfl, rfl, r_seed.mono s1.gr⟩) (fun i b a' v σ1 Fa Fb O1 H4 ha hbe hz rel g stt r => ?_) (fun σ1 F4 O1 H4 stt rel => ?_)
    · obtain ⟨z, v_seed, rfl, rfl, r_seed⟩ := rel
      refine zg_name (n := 3) sc.nd rfl (Or.inl rfl) ?_
      show ZS _ _ [some (.ref a), some (.ref p), some v_seed, some v] H4 _
      refine zs_set (n := 2) stt.ok (ze_mod (ze_intI T.b_int (ze_add (ze_add (ze_mulR (ze_var 2 rfl (r_seed.mono g)) ze_int (by decide)) (ze_mod (ze_var 3 rfl r) ze_int (by decide))) ze_int)) ze_int (by decide)) sc.nd rfl (Or.inl rfl) fun v5 F5 H5 s5 r5 => ?_
      refine zs_nil ?_
      exact ⟨F5, [], s5, some v, v5, rfl, rfl, r5⟩
    · obtain ⟨z, v_seed, rfl, rfl, r_seed⟩ := rel
      have st := st.trans stt
      have r_cells := r_cells.mono stt.gr
      refine zs_retN st.ok (zn_lst (za_cons (ze_var 1 rfl r_cells) (za_cons ze_int (za_cons ze_int (za_cons ze_int (za_cons (ze_var 2 rfl r_seed) za_nil)))))) fun p2 us2 F6 H6 hp2 s6 r6 => ?_
      obtain ⟨c, us2, rfl, rc, r6⟩ := r6.cons_inv
      obtain ⟨i1, us2, rfl, q1, r6⟩ := r6.cons_inv
      obtain ⟨i2, us2, rfl, q2, r6⟩ := r6.cons_inv
      obtain ⟨i3, us2, rfl, q3, r6⟩ := r6.cons_inv
      obtain ⟨i4, us2, rfl, q4, r6⟩ := r6.cons_inv
      obtain rfl := r6.nil_inv
      obtain rfl := q1.int_inv
      obtain rfl := q2.int_inv
      obtain rfl := q3.int_inv
      obtain rfl := q4.int_inv
      exact q p2 c F6 H6 (st.newAt hp2) (st.trans s6) rc


/-! _law_take -/
abbrev s_take : Stmt := topS 13
theorem sc_take : FnScope ["store", "many", "step", "digit", "cell"] ["store", "many"] (defScope s_take) := ⟨rfl, rfl, rfl, by decide +kernel, rfl, by decide +kernel, by decide +kernel⟩
def big18 : Int := (10 : Int) ^ (18 : Int).toNat
def take (cs : List Int) (s : Sto) (many : Int) : Int × Sto :=
  cond (decide (many < 2)) (0, { s with step := s.step + 1 })
    (cond (decide (many ≤ (s.dig : Int))) ((s.dig : Int) % many, { s with step := s.step + 1, dig := ((s.dig : Int) / many).toNat })
      (cond (decide ((cs.length : Int) ≤ (s.ix : Int))) (mix s.seed s.step % many, { s with step := s.step + 1, dig := 0 })
        (cond (decide (((ixL cs s.ix).natAbs : Int) < big18)) (mix (ixL cs s.ix) s.step % many, { s with step := s.step + 1, dig := 0, ix := s.ix + 1 })
          (((ixL cs s.ix).natAbs : Int) % many, { s with step := s.step + 1, dig := (((ixL cs s.ix).natAbs : Int) / many).toNat, ix := s.ix + 1 }))))
theorem take_range (cs : List Int) (s : Sto) (many : Int) : 0 ≤ (take cs s many).1 ∧ ((take cs s many).1 < many ∨ (take cs s many).1 = 0) := by
  unfold take
  by_cases h : many < 2
  · rw [cond_t (decide_eq_true h)]; exact ⟨Int.le_refl _, .inr rfl⟩
  · have hm : 0 < many := by omega
    rw [cond_f (decide_eq_false h)]
    have g : ∀ x : Int, 0 ≤ x % many ∧ (x % many < many ∨ x % many = 0) := fun x => ⟨Int.emod_nonneg _ (by omega), .inl (Int.emod_lt_of_pos _ hm)⟩
    cases (decide (many ≤ (s.dig : Int))) with
    | true => exact g _
    | false =>
      cases (decide ((cs.length : Int) ≤ (s.ix : Int))) with
      | true => exact g _
      | false =>
        cases (decide (((ixL cs s.ix).natAbs : Int) < big18)) with
        | true => exact g _
        | false => exact g _
theorem take_lt {cs : List Int} {s : Sto} {many : Int} (h : 1 ≤ many) : 0 ≤ (take cs s many).1 ∧ (take cs s many).1 < many := by
  have := take_range cs s many
  omega
def A_take : List Int → Sto → List PyData → PyData → Sto → Prop := fun cs s ds r s' => ∃ (many : Int), ds = [eI many] ∧ (many < 2 ^ 64) ∧ r = eI (take cs s many).1 ∧ s' = (take cs s many).2
set_option maxHeartbeats 4000000 in
theorem ok_take {P : Program} {w : World} {K : PySem.W.Frag} {mg : Str → Option Value} {base : Heap} (T : Top K mg) : Fn P w K mg base 2 "_law_take" ["store", "many"] (spS K A_take) := by
  obtain ⟨f, fd, F, gm⟩ := T.f_take
  have sc := sc_take
  refine ⟨f, fd, F.ok sc (fun vs H Q E h => ?_) (fun cdv A outer s0 H vs Q E hr h => ⟨_, PSs.nox pss_w, ?_⟩), gm, F.kp, F.bindsN (fun _ _ _ _ _ _ us hl => match us, hl with | [_, _], _ => rfl)⟩
  · obtain ⟨F, a, c, cs, s, ws, ds, r, s', rfl, w, rc, ra, ⟨many, rfl, hpre, rfl, rfl⟩, q⟩ := h
    have h := ra.len
    show ws.length + 1 = 2
    rw [h]; rfl
  · obtain ⟨F, a, c, cs, s, ws, ds, r, s', rfl, w, rc, ra, ⟨many, rfl, hpre, rfl, rfl⟩, q⟩ := h
    obtain ⟨v_many, ws, rfl, r_many, ra⟩ := ra.cons_inv
    obtain rfl := ra.nil_inv
    have st := Stp.refl w
    show ZS _ _ [some (.ref a), some v_many, none, none, none] H _
    -- step = store[3]
    refine zs_set (n := 2) st.ok (ze_ixO 0 0 rfl ze_int rfl (sto_ra rc) atI_3) sc.nd rfl (Or.inl rfl) fun v_step F1 H1 s1 r_step => ?_
    have st := st.trans s1
    have rc := rc.mono s1.gr
    have r_many := r_many.mono s1.gr
    show ZS _ _ [some (.ref a), some v_many, some v_step, none, none] H1 _
    -- store[3] = step + 1
    refine zs_setItem (q := 3) st.ok 0 0 rfl (ze_add (ze_var 2 rfl r_step) ze_int) ze_int rfl rfl fun v F2 H2 s2 r2 => ?_
    obtain rfl := r2.int_inv
    have s2 : Stp _ _ _ F2 [stoO a c { s with step := s.step + 1 }] H2 := s2
    have st := st.trans s2
    have rc := rc.mono s2.gr
    have r_many := r_many.mono s2.gr
    have r_step := r_step.mono s2.gr
    -- if many < 2
    refine zs_if st.ok (zt_cm cm_lt (ze_var 1 rfl r_many) ze_int) (fun hb F3 H3 s3 => ?_) (fun hb F3 H3 s3 => ?_)
    · have hf : take cs s many = (0, { s with step := s.step + 1 }) := cond_t hb
      have st := st.trans s3
      refine zs_ret st.ok ze_int fun v F4 H4 s4 r4 => ?_
      exact q v F4 H4 (by rw [hf]; exact st.trans s4) (by rw [hf]; exact r4)
    have hf := cond_f (α := Int × Sto) hb (a := (0, { s with step := s.step + 1 })) (b := (cond (decide (many ≤ (s.dig : Int))) ((s.dig : Int) % many, { s with step := s.step + 1, dig := ((s.dig : Int) / many).toNat })
      (cond (decide ((cs.length : Int) ≤ (s.ix : Int))) (mix s.seed s.step % many, { s with step := s.step + 1, dig := 0 })
        (cond (decide (((ixL cs s.ix).natAbs : Int) < big18)) (mix (ixL cs s.ix) s.step % many, { s with step := s.step + 1, dig := 0, ix := s.ix + 1 })
          (((ixL cs s.ix).natAbs : Int) % many, { s with step := s.step + 1, dig := (((ixL cs s.ix).natAbs : Int) / many).toNat, ix := s.ix + 1 })))))
    have hf : take cs s many = _ := hf
    have hm : 2 ≤ many := by have : ¬ (many < 2) := of_decide_eq_false hb; omega
    have st := st.trans s3
    have rc := rc.mono s3.gr
    have r_many := r_many.mono s3.gr
    have r_step := r_step.mono s3.gr
    refine zs_nil ?_
    show ZS _ _ [some (.ref a), some v_many, some v_step, none, none] H3 _
    -- if store[2] >= many
    refine zs_if st.ok (zt_cm cm_ge (ze_ixO 0 0 rfl ze_int rfl (sto_ra rc) atI_2) (ze_var 1 rfl r_many)) (fun hb2 F4 H4 s4 => ?_) (fun hb2 F4 H4 s4 => ?_)
    · have hf := hf.trans (cond_t hb2)
      have st := st.trans s4
      have rc := rc.mono s4.gr
      have r_many := r_many.mono s4.gr
      refine zs_set (n := 3) st.ok (ze_mod (ze_intI T.b_int (ze_ixO 0 0 rfl ze_int rfl (sto_ra rc) atI_2)) (ze_var 1 rfl r_many) (by omega)) sc.nd rfl (Or.inl rfl) fun v_digit F5 H5 s5 r_digit => ?_
      have st := st.trans s5
      have rc := rc.mono s5.gr
      have r_many := r_many.mono s5.gr
      show ZS _ _ [some (.ref a), some v_many, some v_step, some v_digit, none] H5 _
      refine zs_setItem (q := 2) st.ok 0 0 rfl (ze_fdivW (ze_ixO 0 0 rfl ze_int rfl (sto_ra rc) atI_2) (ze_var 1 rfl r_many) (by omega) (by omega)) ze_int rfl rfl fun v F6 H6 s6 r6 => ?_
      have hd : ((s.dig : Int) / many) = ((((s.dig : Int) / many).toNat : Nat) : Int) := (Int.toNat_of_nonneg (Int.ediv_nonneg (by omega) (by omega))).symm
      have r6 : R K F6 v (eI ((((s.dig : Int) / many).toNat : Nat) : Int)) := by rw [← hd]; exact r6
      obtain rfl := r6.int_inv
      have s6 : Stp _ _ _ F6 [stoO a c { s with step := s.step + 1, dig := ((s.dig : Int) / many).toNat }] H6 := s6
      have st := st.trans s6
      refine zs_ret st.ok (ze_var 3 rfl (r_digit.mono s6.gr)) fun v F7 H7 s7 r7 => ?_
      exact q v F7 H7 (by rw [hf]; exact st.trans s7) (by rw [hf]; exact r7)
    have hf := hf.trans (cond_f hb2)
    have st := st.trans s4
    have rc := rc.mono s4.gr
    have r_many := r_many.mono s4.gr
    have r_step := r_step.mono s4.gr
    refine zs_nil ?_
    show ZS _ _ [some (.ref a), some v_many, some v_step, none, none] H4 _
    -- store[2] = 0
    refine zs_setItem (q := 2) st.ok 0 0 rfl ze_int ze_int rfl rfl fun v F5 H5 s5 r5 => ?_
    obtain rfl := r5.int_inv
    have s5 : Stp _ _ _ F5 [stoO a c { s with step := s.step + 1, dig := 0 }] H5 := s5
    have st := st.trans s5
    have rc := rc.mono s5.gr
    have r_many := r_many.mono s5.gr
    have r_step := r_step.mono s5.gr
    -- if store[1] >= len(store[0])
    refine zs_if st.ok (zt_cm cm_ge (ze_ixO 0 0 rfl ze_int rfl (sto_ra rc) atI_1) (ze_lenLt T.b_len (ze_ixO 0 0 rfl ze_int rfl (sto_ra rc) atI_0))) (fun hb3 F6 H6 s6 => ?_) (fun hb3 F6 H6 s6 => ?_)
    · have hf := hf.trans (cond_t hb3)
      have st := st.trans s6
      have rc := rc.mono s6.gr
      have r_many := r_many.mono s6.gr
      have r_step := r_step.mono s6.gr
      refine zs_ret st.ok (ze_mod (ze_intI T.b_int (ze_callD (ok_mix T) (hr.mono (by decide)) (za_cons (ze_ixO 0 0 rfl ze_int rfl (sto_ra rc) atI_4) (za_cons (ze_var 2 rfl r_step) za_nil)) ⟨_, _, rfl, rfl⟩)) (ze_var 1 rfl r_many) (by omega)) fun v F7 H7 s7 r7 => ?_
      exact q v F7 H7 (by rw [hf]; exact st.trans s7) (by rw [hf]; exact r7)
    have hf := hf.trans (cond_f hb3)
    have hix : -(cs.length : Int) ≤ (s.ix : Int) ∧ (s.ix : Int) < (cs.length : Int) := by have : ¬ ((cs.length : Int) ≤ (s.ix : Int)) := of_decide_eq_false hb3; omega
    have st := st.trans s6
    have rc := rc.mono s6.gr
    have r_many := r_many.mono s6.gr
    have r_step := r_step.mono s6.gr
    refine zs_nil ?_
    show ZS _ _ [some (.ref a), some v_many, some v_step, none, none] H6 _
    -- cell = store[0][store[1]]
    refine zs_set (n := 4) st.ok (ze_ixLt (enc := eI) (xs := cs) (ze_ixO 0 0 rfl ze_int rfl (sto_ra rc) atI_0) (ze_ixO 0 0 rfl ze_int rfl (sto_ra rc) atI_1) hix) sc.nd rfl (Or.inl rfl) fun v_cell F7 H7 s7 r_cell => ?_
    have st := st.trans s7
    have rc := rc.mono s7.gr
    have r_many := r_many.mono s7.gr
    have r_step := r_step.mono s7.gr
    show ZS _ _ [some (.ref a), some v_many, some v_step, none, some v_cell] H7 _
    -- store[1] = store[1] + 1
    refine zs_setItem (q := 1) st.ok 0 0 rfl (ze_add (ze_ixO 0 0 rfl ze_int rfl (sto_ra rc) atI_1) ze_int) ze_int rfl rfl fun v F8 H8 s8 r8 => ?_
    obtain rfl := r8.int_inv
    have s8 : Stp _ _ _ F8 [stoO a c { s with step := s.step + 1, dig := 0, ix := s.ix + 1 }] H8 := s8
    have st := st.trans s8
    have rc := rc.mono s8.gr
    have r_many := r_many.mono s8.gr
    have r_step := r_step.mono s8.gr
    have r_cell := r_cell.mono s8.gr
    refine zs_if st.ok (zt_cm cm_lt (ze_abs T.b_abs (ze_var 4 rfl r_cell)) (ze_pow ze_int ze_int ⟨by decide, by decide, by decide⟩)) (fun hb4 F9 H9 s9 => ?_) (fun hb4 F9 H9 s9 => ?_)
    · have hf := hf.trans (cond_t hb4)
      have st := st.trans s9
      have r_many := r_many.mono s9.gr
      have r_step := r_step.mono s9.gr
      have r_cell := r_cell.mono s9.gr
      refine zs_ret st.ok (ze_mod (ze_intI T.b_int (ze_callD (ok_mix T) (hr.mono (by decide)) (za_cons (ze_var 4 rfl r_cell) (za_cons (ze_var 2 rfl r_step) za_nil)) ⟨_, _, rfl, rfl⟩)) (ze_var 1 rfl r_many) (by omega)) fun v Fa Ha sa ra => ?_
      exact q v Fa Ha (by rw [hf]; exact st.trans sa) (by rw [hf]; exact ra)
    have hf := hf.trans (cond_f hb4)
    have st := st.trans s9
    have rc := rc.mono s9.gr
    have r_many := r_many.mono s9.gr
    have r_cell := r_cell.mono s9.gr
    refine zs_nil ?_
    show ZS _ _ [some (.ref a), some v_many, some v_step, none, some v_cell] H9 _
    refine zs_setItem (q := 2) st.ok 0 0 rfl (ze_fdivW (ze_abs T.b_abs (ze_var 4 rfl r_cell)) (ze_var 1 rfl r_many) (by omega) (by omega)) ze_int rfl rfl fun v Fa Ha sa ra => ?_
    have hd : (((ixL cs s.ix).natAbs : Int) / many) = (((((ixL cs s.ix).natAbs : Int) / many).toNat : Nat) : Int) := (Int.toNat_of_nonneg (Int.ediv_nonneg (by omega) (by omega))).symm
    have ra : R K Fa v (eI (((((ixL cs s.ix).natAbs : Int) / many).toNat : Nat) : Int)) := by rw [← hd]; exact ra
    obtain rfl := ra.int_inv
    have sa : Stp _ _ _ Fa [stoO a c { s with step := s.step + 1, dig := (((ixL cs s.ix).natAbs : Int) / many).toNat, ix := s.ix + 1 }] Ha := sa
    have st := st.trans sa
    refine zs_ret st.ok (ze_mod (ze_abs T.b_abs (ze_var 4 rfl (r_cell.mono sa.gr))) (ze_var 1 rfl (r_many.mono sa.gr)) (by omega)) fun v Fb Hb sb rb => ?_
    exact q v Fb Hb (by rw [hf]; exact st.trans sb) (by rw [hf]; exact rb)

/-! _law_odds -/
abbrev s_odds : Stmt := topS 14
theorem sc_odds : FnScope ["store", "many"] ["store", "many"] (defScope s_odds) := ⟨rfl, rfl, rfl, by decide +kernel, rfl, by decide +kernel, by decide +kernel⟩
def odds (cs : List Int) (s : Sto) (many : Int) : Bool × Sto :=
  (decide ((take cs s many).1 = (0 : Int)), (take cs s many).2)
def A_odds : List Int → Sto → List PyData → PyData → Sto → Prop := fun cs s ds r s' => ∃ (many : Int), ds = [eI many] ∧ (many < 2 ^ 64) ∧ r = eB (odds cs s many).1 ∧ s' = (odds cs s many).2
set_option maxHeartbeats 4000000 in
theorem ok_odds {P : Program} {w : World} {K : PySem.W.Frag} {mg : Str → Option Value} {base : Heap} (T : Top K mg) : Fn P w K mg base 3 "_law_odds" ["store", "many"] (spS K A_odds) := by
  obtain ⟨f, fd, F, gm⟩ := T.f_odds
  have sc := sc_odds
  refine ⟨f, fd, F.ok sc (fun vs H Q E h => ?_) (fun cdv A outer s0 H vs Q E hr h => ⟨_, PSs.nox pss_w, ?_⟩), gm, F.kp, F.bindsN (fun _ _ _ _ _ _ us hl => match us, hl with | [_, _], _ => rfl)⟩
  · obtain ⟨F, a_st, c_st, cs, s, ws, ds, r, s', rfl, w, rc, ra, ⟨many, rfl, hpre, rfl, rfl⟩, q⟩ := h
    have h := ra.len
    show ws.length + 1 = 2
    rw [h]; rfl
  · obtain ⟨F, a_st, c_st, cs, s, ws, ds, r, s', rfl, w, r_st, ra, ⟨many, rfl, hpre, rfl, rfl⟩, q⟩ := h
    obtain ⟨v_many, ws, rfl, r_many, ra⟩ := ra.cons_inv
    obtain rfl := ra.nil_inv
    have st := Stp.refl w
    have hf : odds cs s many = odds cs s many := rfl
    show ZS _ _ [some (.ref a_st), some v_many] H _
    refine zs_ret st.ok (ze_cm cm_eqI (ze_callS 0 0 (ok_take T) (hr.mono (by decide)) rfl r_st (za_cons (ze_var 1 rfl r_many) za_nil) rfl ⟨many, rfl, (by /-1-/ first | omega | (simp only [List.length_append, List.length_cons, List.length_nil, List.length_map, rangeI_length]; omega)), rfl, rfl⟩) ze_int) fun v F_2 H_2 s_2 r_2 => ?_
    exact q v F_2 H_2 (by rw [hf]; exact (st.trans s_2)) (by rw [hf]; exact r_2)
/-! _law_number -/
abbrev s_number : Stmt := topS 15
theorem sc_number : FnScope ["store", "low", "high"] ["store", "low", "high"] (defScope s_number) := ⟨rfl, rfl, rfl, by decide +kernel, rfl, by decide +kernel, by decide +kernel⟩
def number_1 (cs : List Int) (low : Int) (high : Int) (s_5 : Sto) : Int × Sto :=
  ((ixL ([low, high, (low + (1 : Int)), (high - (1 : Int))] : List Int) ((take cs s_5 (4 : Int)).1)), (take cs s_5 (4 : Int)).2)
def number_2 (cs : List Int) (low : Int) (high : Int) (s_7 : Sto) : Int × Sto :=
  ((low + (take cs s_7 ((high - low) + (1 : Int))).1), (take cs s_7 ((high - low) + (1 : Int))).2)
def number (cs : List Int) (s : Sto) (low : Int) (high : Int) : Int × Sto :=
  (cond (decide (high ≤ low)) (low, s) (cond ((odds cs s (3 : Int)).1) (number_1 cs low high ((odds cs s (3 : Int)).2)) (number_2 cs low high ((odds cs s (3 : Int)).2))))
def A_number : List Int → Sto → List PyData → PyData → Sto → Prop := fun cs s ds r s' => ∃ (low : Int) (high : Int), ds = [eI low, eI high] ∧ (high - low < 2 ^ 63) ∧ r = eI (number cs s low high).1 ∧ s' = (number cs s low high).2
set_option maxHeartbeats 4000000 in
theorem ok_number {P : Program} {w : World} {K : PySem.W.Frag} {mg : Str → Option Value} {base : Heap} (T : Top K mg) : Fn P w K mg base 4 "_law_number" ["store", "low", "high"] (spS K A_number) := by
  obtain ⟨f, fd, F, gm⟩ := T.f_number
  have sc := sc_number
  refine ⟨f, fd, F.ok sc (fun vs H Q E h => ?_) (fun cdv A outer s0 H vs Q E hr h => ⟨_, PSs.nox pss_w, ?_⟩), gm, F.kp, F.bindsN (fun _ _ _ _ _ _ us hl => match us, hl with | [_, _, _], _ => rfl)⟩
  · obtain ⟨F, a_st, c_st, cs, s, ws, ds, r, s', rfl, w, rc, ra, ⟨low, high, rfl, hpre, rfl, rfl⟩, q⟩ := h
    have h := ra.len
    show ws.length + 1 = 3
    rw [h]; rfl
  · obtain ⟨F, a_st, c_st, cs, s, ws, ds, r, s', rfl, w, r_st, ra, ⟨low, high, rfl, hpre, rfl, rfl⟩, q⟩ := h
    obtain ⟨v_low, ws, rfl, r_low, ra⟩ := ra.cons_inv
    obtain ⟨v_high, ws, rfl, r_high, ra⟩ := ra.cons_inv
    obtain rfl := ra.nil_inv
    have st := Stp.refl w
    have hf : number cs s low high = number cs s low high := rfl
    show ZS _ _ [some (.ref a_st), some v_low, some v_high] H _
    refine zs_if st.ok (zt_cm cm_le (ze_var 2 rfl r_high) (ze_var 1 rfl r_low)) (fun hb F_2 H_2 s_2 => ?_) (fun hb F_2 H_2 s_2 => ?_)
    · have s_2 : Stp F [stoO a_st c_st s] H F_2 [stoO a_st c_st s] H_2 := by exact s_2
      have st := st.trans s_2
      have r_low := r_low.mono s_2.gr
      have r_high := r_high.mono s_2.gr
      have r_st := r_st.mono s_2.gr
      have hf := hf.trans (cond_t hb)
      refine zs_ret st.ok (ze_var 1 rfl r_low) fun v F_3 H_3 s_3 r_2 => ?_
      exact q v F_3 H_3 (by rw [hf]; exact (st.trans s_3)) (by rw [hf]; exact r_2)
    · have s_2 : Stp F [stoO a_st c_st s] H F_2 [stoO a_st c_st s] H_2 := by exact s_2
      have st := st.trans s_2
      have r_low := r_low.mono s_2.gr
      have r_high := r_high.mono s_2.gr
      have r_st := r_st.mono s_2.gr
      have hf := hf.trans (cond_f hb)
      refine zs_nil ?_
      show ZS _ _ [some (.ref a_st), some v_low, some v_high] H_2 _
      refine zs_if st.ok (zt_val (ze_callS 0 0 (ok_odds T) (hr.mono (by decide)) rfl r_st (za_cons ze_int za_nil) rfl ⟨(3 : Int), rfl, (by /-1-/ first | omega | (simp only [List.length_append, List.length_cons, List.length_nil, List.length_map, rangeI_length]; omega)), rfl, rfl⟩)) (fun hb_2 F_4 H_4 s_4 => ?_) (fun hb_2 F_4 H_4 s_4 => ?_)
      · obtain ⟨s_5, hx_s_5⟩ : ∃ z : Sto, z = (odds cs s (3 : Int)).2 := ⟨_, rfl⟩
        have s_4 : Stp F_2 [stoO a_st c_st s] H_2 F_4 [stoO a_st c_st s_5] H_4 := by subst hx_s_5; exact s_4
        have st := st.trans s_4
        have r_low := r_low.mono s_4.gr
        have r_high := r_high.mono s_4.gr
        have r_st := r_st.mono s_4.gr
        have hf := hf.trans (cond_t hb_2)
        have hf : number cs s low high = number_1 cs low high s_5 := by subst hx_s_5; exact hf
        have htk := take_lt (cs := cs) (s := s_5) (many := 4) (by decide)
        refine zs_ret st.ok (ze_ixLt (enc := eI) (zn_ze (zn_lstt (enc := eI) (xs := ([low, high, (low + (1 : Int)), (high - (1 : Int))] : List Int)) (za_cons (ze_var 1 rfl r_low) (za_cons (ze_var 2 rfl r_high) (za_cons (ze_add (ze_var 1 rfl r_low) ze_int) (za_cons (ze_sub (ze_var 2 rfl r_high) ze_int) za_nil)))))) (ze_callS 0 0 (ok_take T) (hr.mono (by decide)) rfl r_st (za_cons ze_int za_nil) rfl ⟨(4 : Int), rfl, (by /-2-/ first | omega | (simp only [List.length_append, List.length_cons, List.length_nil, List.length_map, rangeI_length]; omega)), rfl, rfl⟩) (by /-3-/ first | omega | (simp only [List.length_append, List.length_cons, List.length_nil, List.length_map, rangeI_length]; omega))) fun v_2 F_5 H_5 s_6 r_3 => ?_
        exact q v_2 F_5 H_5 (by rw [hf]; exact (st.trans s_6)) (by rw [hf]; exact r_3)
      · obtain ⟨s_7, hx_s_7⟩ : ∃ z : Sto, z = (odds cs s (3 : Int)).2 := ⟨_, rfl⟩
        have s_4 : Stp F_2 [stoO a_st c_st s] H_2 F_4 [stoO a_st c_st s_7] H_4 := by subst hx_s_7; exact s_4
        have st := st.trans s_4
        have r_low := r_low.mono s_4.gr
        have r_high := r_high.mono s_4.gr
        have r_st := r_st.mono s_4.gr
        have hf := hf.trans (cond_f hb_2)
        have hf : number cs s low high = number_2 cs low high s_7 := by subst hx_s_7; exact hf
        refine zs_nil ?_
        show ZS _ _ [some (.ref a_st), some v_low, some v_high] H_4 _
        refine zs_ret st.ok (ze_add (ze_var 1 rfl r_low) (ze_callS 0 0 (ok_take T) (hr.mono (by decide)) rfl r_st (za_cons (ze_add (ze_sub (ze_var 2 rfl r_high) (ze_var 1 rfl r_low)) ze_int) za_nil) rfl ⟨((high - low) + (1 : Int)), rfl, (by /-4-/ first | omega | (simp only [List.length_append, List.length_cons, List.length_nil, List.length_map, rangeI_length]; omega)), rfl, rfl⟩)) fun v_3 F_6 H_6 s_8 r_4 => ?_
        exact q v_3 F_6 H_6 (by rw [hf]; exact (st.trans s_8)) (by rw [hf]; exact r_4)

theorem number_range (cs : List Int) (s : Sto) (low high : Int) (h : low ≤ high) : low ≤ (number cs s low high).1 ∧ (number cs s low high).1 ≤ high := by
  unfold number
  by_cases h1 : high ≤ low
  · rw [cond_t (decide_eq_true h1)]; exact ⟨Int.le_refl _, by omega⟩
  · rw [cond_f (decide_eq_false h1)]
    cases hb : (odds cs s 3).1 with
    | true =>
      have ht := take_lt (cs := cs) (s := (odds cs s 3).2) (many := 4) (by decide)
      have hm := ixL_mem (xs := [low, high, low + 1, high - 1]) (i := (take cs (odds cs s 3).2 4).1) (by simp only [List.length_cons, List.length_nil]; omega)
      show low ≤ (ixL [low, high, low + 1, high - 1] (take cs (odds cs s 3).2 4).1) ∧ (ixL [low, high, low + 1, high - 1] (take cs (odds cs s 3).2 4).1) ≤ high
      simp only [List.mem_cons, List.not_mem_nil, or_false] at hm
      omega
    | false =>
      have ht := take_lt (cs := cs) (s := (odds cs s 3).2) (many := high - low + 1) (by omega)
      show low ≤ low + (take cs (odds cs s 3).2 (high - low + 1)).1 ∧ low + (take cs (odds cs s 3).2 (high - low + 1)).1 ≤ high
      omega


/-! _law_same -/
abbrev s_same : Stmt := topS 19
theorem sc_same : FnScope ["told", "due", "pairs", "step", "one", "two", "k"] ["told", "due"] (defScope s_same) := ⟨rfl, rfl, rfl, by decide +kernel, rfl, by decide +kernel, by decide +kernel⟩
def A_same : List PyData → PyData → Prop := fun ds r => ∃ d, ds = [d, d] ∧ dsz d ≤ 199999 ∧ r = .bool true
theorem len_dszL : ∀ xs : List PyData, xs.length ≤ dszL xs
  | [] => Nat.le_refl _
  | x :: xs => by
    have h1 := dsz_pos x
    have h2 := len_dszL xs
    simp only [dszL, List.length_cons]; omega
theorem dszL_one (d : PyData) : dszL [d] = dsz d := by simp [dszL]
theorem range_at {n : Int} {i : Nat} {d : PyData} (h : ((rangeI 0 n).map PyData.int)[i]? = some d) : d = .int (i : Nat) ∧ i < n.toNat := by
  rw [List.getElem?_map] at h
  unfold rangeI at h
  rw [List.getElem?_map] at h
  cases z : (List.range (n - 0).toNat)[i]? with
  | none => rw [z] at h; cases h
  | some j =>
    rw [z] at h
    obtain ⟨hl, hj⟩ := List.getElem?_eq_some_iff.mp z
    rw [List.getElem_range] at hj
    subst hj
    have h : PyData.int (0 + (i : Nat)) = d := Option.some.inj h
    rw [← h, Int.zero_add]
    rw [List.length_range] at hl
    exact ⟨rfl, by omega⟩
theorem ra_snoc {K : PySem.W.Frag} {F : Hp} {vs : List V} {ds : List PyData} {d : PyData} (h : RA K F vs (ds ++ [d])) : ∃ us v, vs = us ++ [v] ∧ RA K F us ds ∧ R K F v d := by
  have hl := h.len
  rw [List.length_append] at hl
  rcases List.eq_nil_or_concat vs with rfl | ⟨us, v, e⟩
  · simp at hl
  · rw [List.concat_eq_append] at e
    subst e
    rw [List.length_append] at hl
    have hl2 : us.length = ds.length := by simpa using hl
    refine ⟨us, v, rfl, ⟨hl2, fun i w e a b => ?_⟩, ?_⟩
    · have hi := (List.getElem?_eq_some_iff.mp a).1
      exact h.at_ i w e (by rw [List.getElem?_append_left hi]; exact a) (by rw [List.getElem?_append_left (by omega)]; exact b)
    · refine h.at_ us.length v d ?_ ?_
      · rw [List.getElem?_append_right (Nat.le_refl _), Nat.sub_self]; rfl
      · rw [hl2, List.getElem?_append_right (Nat.le_refl _), Nat.sub_self]; rfl
set_option maxHeartbeats 16000000 in
theorem ok_same {P : Program} {w : World} {K : PySem.W.Frag} {mg : Str → Option Value} {base : Heap} (T : Top K mg) : Fn P w K mg base 1 "_law_same" ["told", "due"] (spD K A_same) := by
  obtain ⟨f, fd, F, gm⟩ := T.f_same
  have sc := sc_same
  refine ⟨f, fd, F.ok sc (fun vs H Q E h => ?_) (fun cdv A outer s0 H vs Q E hr h => ⟨_, PSs.nox pss_w, ?_⟩), gm, F.kp, F.bindsN (fun _ _ _ _ _ _ us hl => match us, hl with | [_, _], _ => rfl)⟩
  · obtain ⟨F, ds, r, w, ra, ⟨d, rfl, hd, rfl⟩, q⟩ := h
    exact ra.len
  · obtain ⟨F, ds, r, w, ra, ⟨d, rfl, hd, rfl⟩, q⟩ := h
    obtain ⟨v_told, ws, rfl, r_told, ra⟩ := ra.cons_inv
    obtain ⟨v_due, ws, rfl, r_due, ra⟩ := ra.cons_inv
    obtain rfl := ra.nil_inv
    have st := Stp.refl w
    show ZS _ _ [some v_told, some v_due, none, none, none, none, none] H _
    refine zs_setN (n := 2) st.ok (zn_lst (za_cons (ze_tup (za_cons (ze_var 0 rfl r_told) (za_cons (ze_var 1 rfl r_due) za_nil))) za_nil)) sc.nd rfl (Or.inl rfl) fun p us F1 H1 hp s1 ra => ?_
    have st := st.trans s1
    show ZS _ _ [some v_told, some v_due, some (.ref p), none, none, none, none] H1 _
    refine zs_for st.ok PassesOwn.never rfl (zi_range1 T.b_range ze_int (by decide)) (fun i σ F O => ∃ (z3 z4 z5 z6 : Option V) (us : List V) (L : List PyData), σ = [some v_told, some v_due, some (.ref p), z3, z4, z5, z6] ∧ O = [(p, .lst us)] ∧ RA K F us (L.map fun d => PyData.tuple [d, d]) ∧ dszL L + i ≤ 199999) (fun F1 H1 s1 => ⟨none, none, none, none, us, [d], rfl, rfl, ra.mono s1.gr, by rw [dszL_one]; exact hd⟩) (fun i di v_step σ1 Fa Fb O1 Hb hdi _ rel g stt r_step => ?_) (fun σ1 Fb O1 Hb stt rel => ?_)
    · obtain ⟨z3, z4, z5, z6, us, L, rfl, rfl, ra, hsum⟩ := rel
      have ra := ra.mono g
      have st := st.trans stt
      have sb := Stp.refl stt.ok
      refine zg_name (n := 3) sc.nd rfl (Or.inl rfl) ?_
      show ZS _ _ [some v_told, some v_due, some (.ref p), some v_step, z4, z5, z6] Hb _
      rcases List.eq_nil_or_concat L with rfl | ⟨L, d, e⟩
      · refine zs_ifT st.ok (zt_eq (zt_not (zt_trO 2 0 rfl rfl ra)) rfl) fun F5 H5 s5 => ?_
        have st := st.trans s5
        refine zs_ret st.ok ze_bl fun v F6 H6 s6 r6 => ?_
        exact q v F6 H6 ((st.trans s6).dropAt 0) r6
      · rw [List.concat_eq_append] at e
        subst e
        refine zs_ifF st.ok (zt_eq (zt_not (zt_trO 2 0 rfl rfl ra)) (by simp)) fun F5 H5 s5 => ?_
        have sb := sb.trans s5
        have ra := ra.mono s5.gr
        refine zs_nil ?_
        show ZS _ _ [some v_told, some v_due, some (.ref p), some v_step, z4, z5, z6] H5 _
        rw [List.map_append] at ra
        obtain ⟨us, v, rfl, rb, rv⟩ := ra_snoc ra
        refine zs_asg sb.ok (ze_popO 2 0 rfl rfl rv) fun v6 F6 H6 s6 r6 => ?_
        have s6 : Stp F5 [(p, .lst (us ++ [v]))] H5 F6 [(p, .lst us)] H6 := s6
        have sb := sb.trans s6
        have rb := rb.mono s6.gr
        refine zg_tup2 (n := 4) (m := 5) (F := F6) rfl sc.nd rfl (Or.inl rfl) rfl (Or.inl rfl) r6 sb.ok fun v_one v_two r_one r_two => ?_
        show ZS _ _ [some v_told, some v_due, some (.ref p), some v_step, some v_one, some v_two, z6] H6 _
        clear s6 r6 s5 rv
        cases d with
        | none =>
          refine zs_ifT sb.ok (zt_cm cm_is (ze_var 5 rfl r_two) ze_non) fun Fx Hx sx => ?_
          have sb := sb.trans sx
          have r_one := r_one.mono sx.gr
          have r_two := r_two.mono sx.gr
          have rb := rb.mono sx.gr
          refine zs_ifF sb.ok (zt_cm cm_isnot (ze_var 4 rfl r_one) ze_non) fun Fx Hx sx => ?_
          have sb := sb.trans sx
          have r_one := r_one.mono sx.gr
          have r_two := r_two.mono sx.gr
          have rb := rb.mono sx.gr
          repeat refine zs_nil ?_
          exact ⟨_, _, sb, some v_step, some v_one, some v_two, z6, us, L, rfl, rfl, rb, by rw [dszL_app, dszL_one] at hsum; simp only [dsz] at hsum; omega⟩
        | bool b =>
          refine zs_ifF sb.ok (zt_cm cm_is (ze_var 5 rfl r_two) ze_non) fun Fx Hx sx => ?_
          have sb := sb.trans sx
          have r_one := r_one.mono sx.gr
          have r_two := r_two.mono sx.gr
          have rb := rb.mono sx.gr
          refine zs_ifT sb.ok (zt_val (ze_isi (T := "bool") (k := true) T.b_isinstance T.b_bool (ze_var 5 rfl r_two) (show kitB "bool" "bool" = some true by decide +kernel))) fun Fx Hx sx => ?_
          have sb := sb.trans sx
          have r_one := r_one.mono sx.gr
          have r_two := r_two.mono sx.gr
          have rb := rb.mono sx.gr
          refine zs_ifF sb.ok (zt_eq (zt_w (zw_or (zt_not (zt_val (ze_isi (T := "bool") (k := true) T.b_isinstance T.b_bool (ze_var 4 rfl r_one) (show kitB "bool" "bool" = some true by decide +kernel)))) fun _ => zw_or1 (zt_cm cm_neB (ze_var 4 rfl r_one) (ze_var 5 rfl r_two)))) (by simp)) fun Fx Hx sx => ?_
          have sb := sb.trans sx
          have r_one := r_one.mono sx.gr
          have r_two := r_two.mono sx.gr
          have rb := rb.mono sx.gr
          repeat refine zs_nil ?_
          exact ⟨_, _, sb, some v_step, some v_one, some v_two, z6, us, L, rfl, rfl, rb, by rw [dszL_app, dszL_one] at hsum; simp only [dsz] at hsum; omega⟩
        | int i =>
          refine zs_ifF sb.ok (zt_cm cm_is (ze_var 5 rfl r_two) ze_non) fun Fx Hx sx => ?_
          have sb := sb.trans sx
          have r_one := r_one.mono sx.gr
          have r_two := r_two.mono sx.gr
          have rb := rb.mono sx.gr
          refine zs_ifF sb.ok (zt_val (ze_isi (T := "bool") (k := false) T.b_isinstance T.b_bool (ze_var 5 rfl r_two) (show kitB "int" "bool" = some false by decide +kernel))) fun Fx Hx sx => ?_
          have sb := sb.trans sx
          have r_one := r_one.mono sx.gr
          have r_two := r_two.mono sx.gr
          have rb := rb.mono sx.gr
          refine zs_ifT sb.ok (zt_val (ze_isi (T := "int") (k := true) T.b_isinstance T.b_int (ze_var 5 rfl r_two) (show kitB "int" "int" = some true by decide +kernel))) fun Fx Hx sx => ?_
          have sb := sb.trans sx
          have r_one := r_one.mono sx.gr
          have r_two := r_two.mono sx.gr
          have rb := rb.mono sx.gr
          refine zs_ifF sb.ok (zt_eq (zt_w (zw_or (zt_not (zt_val (ze_isi (T := "int") (k := true) T.b_isinstance T.b_int (ze_var 4 rfl r_one) (show kitB "int" "int" = some true by decide +kernel)))) fun _ => zw_or (zt_val (ze_isi (T := "bool") (k := false) T.b_isinstance T.b_bool (ze_var 4 rfl r_one) (show kitB "int" "bool" = some false by decide +kernel))) fun _ => zw_or1 (zt_cm cm_neI (ze_var 4 rfl r_one) (ze_var 5 rfl r_two)))) (by simp)) fun Fx Hx sx => ?_
          have sb := sb.trans sx
          have r_one := r_one.mono sx.gr
          have r_two := r_two.mono sx.gr
          have rb := rb.mono sx.gr
          repeat refine zs_nil ?_
          exact ⟨_, _, sb, some v_step, some v_one, some v_two, z6, us, L, rfl, rfl, rb, by rw [dszL_app, dszL_one] at hsum; simp only [dsz] at hsum; omega⟩
        | str x =>
          refine zs_ifF sb.ok (zt_cm cm_is (ze_var 5 rfl r_two) ze_non) fun Fx Hx sx => ?_
          have sb := sb.trans sx
          have r_one := r_one.mono sx.gr
          have r_two := r_two.mono sx.gr
          have rb := rb.mono sx.gr
          refine zs_ifF sb.ok (zt_val (ze_isi (T := "bool") (k := false) T.b_isinstance T.b_bool (ze_var 5 rfl r_two) (show kitB "str" "bool" = some false by decide +kernel))) fun Fx Hx sx => ?_
          have sb := sb.trans sx
          have r_one := r_one.mono sx.gr
          have r_two := r_two.mono sx.gr
          have rb := rb.mono sx.gr
          refine zs_ifF sb.ok (zt_val (ze_isi (T := "int") (k := false) T.b_isinstance T.b_int (ze_var 5 rfl r_two) (show kitB "str" "int" = some false by decide +kernel))) fun Fx Hx sx => ?_
          have sb := sb.trans sx
          have r_one := r_one.mono sx.gr
          have r_two := r_two.mono sx.gr
          have rb := rb.mono sx.gr
          refine zs_ifT sb.ok (zt_val (ze_isi (T := "str") (k := true) T.b_isinstance T.b_str (ze_var 5 rfl r_two) (show kitB "str" "str" = some true by decide +kernel))) fun Fx Hx sx => ?_
          have sb := sb.trans sx
          have r_one := r_one.mono sx.gr
          have r_two := r_two.mono sx.gr
          have rb := rb.mono sx.gr
          refine zs_ifF sb.ok (zt_eq (zt_w (zw_or (zt_not (zt_val (ze_isi (T := "str") (k := true) T.b_isinstance T.b_str (ze_var 4 rfl r_one) (show kitB "str" "str" = some true by decide +kernel)))) fun _ => zw_or1 (zt_cm cm_neS (ze_var 4 rfl r_one) (ze_var 5 rfl r_two)))) (by simp)) fun Fx Hx sx => ?_
          have sb := sb.trans sx
          have r_one := r_one.mono sx.gr
          have r_two := r_two.mono sx.gr
          have rb := rb.mono sx.gr
          repeat refine zs_nil ?_
          exact ⟨_, _, sb, some v_step, some v_one, some v_two, z6, us, L, rfl, rfl, rb, by rw [dszL_app, dszL_one] at hsum; simp only [dsz] at hsum; omega⟩
        | list xs =>
          refine zs_ifF sb.ok (zt_cm cm_is (ze_var 5 rfl r_two) ze_non) fun Fx Hx sx => ?_
          have sb := sb.trans sx
          have r_one := r_one.mono sx.gr
          have r_two := r_two.mono sx.gr
          have rb := rb.mono sx.gr
          refine zs_ifF sb.ok (zt_val (ze_isi (T := "bool") (k := false) T.b_isinstance T.b_bool (ze_var 5 rfl r_two) (show kitB "list" "bool" = some false by decide +kernel))) fun Fx Hx sx => ?_
          have sb := sb.trans sx
          have r_one := r_one.mono sx.gr
          have r_two := r_two.mono sx.gr
          have rb := rb.mono sx.gr
          refine zs_ifF sb.ok (zt_val (ze_isi (T := "int") (k := false) T.b_isinstance T.b_int (ze_var 5 rfl r_two) (show kitB "list" "int" = some false by decide +kernel))) fun Fx Hx sx => ?_
          have sb := sb.trans sx
          have r_one := r_one.mono sx.gr
          have r_two := r_two.mono sx.gr
          have rb := rb.mono sx.gr
          refine zs_ifF sb.ok (zt_val (ze_isi (T := "str") (k := false) T.b_isinstance T.b_str (ze_var 5 rfl r_two) (show kitB "list" "str" = some false by decide +kernel))) fun Fx Hx sx => ?_
          have sb := sb.trans sx
          have r_one := r_one.mono sx.gr
          have r_two := r_two.mono sx.gr
          have rb := rb.mono sx.gr
          refine zs_ifF sb.ok (zt_eq (zt_w (zw_and (zt_val (ze_isi (T := "list") (k := true) T.b_isinstance T.b_list (ze_var 5 rfl r_two) (show kitB "list" "list" = some true by decide +kernel))) fun _ => zw_and1 (zt_not (zt_val (ze_isi (T := "list") (k := true) T.b_isinstance T.b_list (ze_var 4 rfl r_one) (show kitB "list" "list" = some true by decide +kernel)))))) (by rfl)) fun Fx Hx sx => ?_
          have sb := sb.trans sx
          have r_one := r_one.mono sx.gr
          have r_two := r_two.mono sx.gr
          have rb := rb.mono sx.gr
          refine zs_nil ?_
          refine zs_ifF sb.ok (zt_eq (zt_w (zw_and (zt_val (ze_isi (T := "tuple") (k := false) T.b_isinstance T.b_tuple (ze_var 5 rfl r_two) (show kitB "list" "tuple" = some false by decide +kernel))) fun _ => zw_and1 (zt_not (zt_val (ze_isi (T := "tuple") (k := false) T.b_isinstance T.b_tuple (ze_var 4 rfl r_one) (show kitB "list" "tuple" = some false by decide +kernel)))))) (by rfl)) fun Fx Hx sx => ?_
          have sb := sb.trans sx
          have r_one := r_one.mono sx.gr
          have r_two := r_two.mono sx.gr
          have rb := rb.mono sx.gr
          refine zs_nil ?_
          refine zs_ifF sb.ok (zt_eq (zt_cm cm_neI (ze_lenL T.b_len (ze_var 4 rfl r_one)) (ze_lenL T.b_len (ze_var 5 rfl r_two))) (by simp)) fun Fx Hx sx => ?_
          have sb := sb.trans sx
          have r_one := r_one.mono sx.gr
          have r_two := r_two.mono sx.gr
          have rb := rb.mono sx.gr
          refine zs_nil ?_
          have hxl : xs.length ≤ 199999 := by rw [dszL_app, dszL_one, dsz_list] at hsum; have := len_dszL xs; omega
          refine zs_for sb.ok PassesOwn.never rfl (zi_range1 T.b_range (ze_lenL T.b_len (ze_var 5 rfl r_two)) (by omega)) (fun j σ F O => ∃ (z6 : Option V) (us : List V), σ = [some v_told, some v_due, some (.ref p), some v_step, some v_one, some v_two, z6] ∧ O = [(p, .lst us)] ∧ RA K F us ((L ++ xs.take j).map fun d => PyData.tuple [d, d])) (fun F1 H1 s1 => ⟨z6, us, rfl, rfl, by rw [List.take_zero, List.append_nil]; exact rb.mono s1.gr⟩) (fun j d x σ1 Fa Fb O1 Hb hd _ rel g stt r => ?_) (fun σ1 Fb O1 Hb stt rel => ?_)
          · obtain ⟨z6, us, rfl, rfl, rb⟩ := rel
            obtain ⟨e, hj⟩ := range_at hd
            subst e
            rw [Int.toNat_natCast] at hj
            have r_one := r_one.mono stt.gr
            have r_two := r_two.mono stt.gr
            have rb := rb.mono g
            have hl := rb.len
            rw [List.length_map, List.length_append, List.length_take] at hl
            have hlt := len_dszL (L ++ [PyData.list xs])
            rw [List.length_append] at hlt
            have hlt : us.length < sizeLine := by rw [← szL]; omega
            refine zg_name (n := 6) sc.nd rfl (Or.inl rfl) ?_
            show ZS _ _ [some v_told, some v_due, some (.ref p), some v_step, some v_one, some v_two, some x] Hb _
            refine zs_append stt.ok 2 0 rfl (ze_tup (za_cons (ze_ixL (ze_var 4 rfl r_one) (ze_var 6 rfl r) (atI_nat (List.getElem?_eq_getElem hj))) (za_cons (ze_ixL (ze_var 5 rfl r_two) (ze_var 6 rfl r) (atI_nat (List.getElem?_eq_getElem hj))) za_nil))) rfl hlt fun v F5 H5 s5 r5 => ?_
            refine zs_nil ?_
            refine ⟨F5, _, s5, some x, us ++ [v], rfl, rfl, ?_⟩
            rw [List.take_add_one, List.getElem?_eq_getElem hj, ← List.append_assoc, List.map_append]
            exact (rb.mono s5.gr).snoc r5
          · obtain ⟨z6, us, rfl, rfl, rb⟩ := rel
            have sb := sb.trans stt
            repeat refine zs_nil ?_
            rw [List.length_map, rangeI_length] at rb
            have e0 : (((xs.length : Nat) : Int) - 0).toNat = xs.length := by omega
            rw [e0, List.take_length] at rb
            exact ⟨_, _, sb, some v_step, some v_one, some v_two, z6, us, L ++ xs, rfl, rfl, rb, by rw [dszL_app, dszL_one, dsz_list] at hsum; rw [dszL_app]; omega⟩
        | tuple xs =>
          refine zs_ifF sb.ok (zt_cm cm_is (ze_var 5 rfl r_two) ze_non) fun Fx Hx sx => ?_
          have sb := sb.trans sx
          have r_one := r_one.mono sx.gr
          have r_two := r_two.mono sx.gr
          have rb := rb.mono sx.gr
          refine zs_ifF sb.ok (zt_val (ze_isi (T := "bool") (k := false) T.b_isinstance T.b_bool (ze_var 5 rfl r_two) (show kitB "tuple" "bool" = some false by decide +kernel))) fun Fx Hx sx => ?_
          have sb := sb.trans sx
          have r_one := r_one.mono sx.gr
          have r_two := r_two.mono sx.gr
          have rb := rb.mono sx.gr
          refine zs_ifF sb.ok (zt_val (ze_isi (T := "int") (k := false) T.b_isinstance T.b_int (ze_var 5 rfl r_two) (show kitB "tuple" "int" = some false by decide +kernel))) fun Fx Hx sx => ?_
          have sb := sb.trans sx
          have r_one := r_one.mono sx.gr
          have r_two := r_two.mono sx.gr
          have rb := rb.mono sx.gr
          refine zs_ifF sb.ok (zt_val (ze_isi (T := "str") (k := false) T.b_isinstance T.b_str (ze_var 5 rfl r_two) (show kitB "tuple" "str" = some false by decide +kernel))) fun Fx Hx sx => ?_
          have sb := sb.trans sx
          have r_one := r_one.mono sx.gr
          have r_two := r_two.mono sx.gr
          have rb := rb.mono sx.gr
          refine zs_ifF sb.ok (zt_eq (zt_w (zw_and (zt_val (ze_isi (T := "list") (k := false) T.b_isinstance T.b_list (ze_var 5 rfl r_two) (show kitB "tuple" "list" = some false by decide +kernel))) fun _ => zw_and1 (zt_not (zt_val (ze_isi (T := "list") (k := false) T.b_isinstance T.b_list (ze_var 4 rfl r_one) (show kitB "tuple" "list" = some false by decide +kernel)))))) (by rfl)) fun Fx Hx sx => ?_
          have sb := sb.trans sx
          have r_one := r_one.mono sx.gr
          have r_two := r_two.mono sx.gr
          have rb := rb.mono sx.gr
          refine zs_nil ?_
          refine zs_ifF sb.ok (zt_eq (zt_w (zw_and (zt_val (ze_isi (T := "tuple") (k := true) T.b_isinstance T.b_tuple (ze_var 5 rfl r_two) (show kitB "tuple" "tuple" = some true by decide +kernel))) fun _ => zw_and1 (zt_not (zt_val (ze_isi (T := "tuple") (k := true) T.b_isinstance T.b_tuple (ze_var 4 rfl r_one) (show kitB "tuple" "tuple" = some true by decide +kernel)))))) (by rfl)) fun Fx Hx sx => ?_
          have sb := sb.trans sx
          have r_one := r_one.mono sx.gr
          have r_two := r_two.mono sx.gr
          have rb := rb.mono sx.gr
          refine zs_nil ?_
          refine zs_ifF sb.ok (zt_eq (zt_cm cm_neI (ze_lenT T.b_len (ze_var 4 rfl r_one)) (ze_lenT T.b_len (ze_var 5 rfl r_two))) (by simp)) fun Fx Hx sx => ?_
          have sb := sb.trans sx
          have r_one := r_one.mono sx.gr
          have r_two := r_two.mono sx.gr
          have rb := rb.mono sx.gr
          refine zs_nil ?_
          have hxl : xs.length ≤ 199999 := by rw [dszL_app, dszL_one, dsz_tuple] at hsum; have := len_dszL xs; omega
          refine zs_for sb.ok PassesOwn.never rfl (zi_range1 T.b_range (ze_lenT T.b_len (ze_var 5 rfl r_two)) (by omega)) (fun j σ F O => ∃ (z6 : Option V) (us : List V), σ = [some v_told, some v_due, some (.ref p), some v_step, some v_one, some v_two, z6] ∧ O = [(p, .lst us)] ∧ RA K F us ((L ++ xs.take j).map fun d => PyData.tuple [d, d])) (fun F1 H1 s1 => ⟨z6, us, rfl, rfl, by rw [List.take_zero, List.append_nil]; exact rb.mono s1.gr⟩) (fun j d x σ1 Fa Fb O1 Hb hd _ rel g stt r => ?_) (fun σ1 Fb O1 Hb stt rel => ?_)
          · obtain ⟨z6, us, rfl, rfl, rb⟩ := rel
            obtain ⟨e, hj⟩ := range_at hd
            subst e
            rw [Int.toNat_natCast] at hj
            have r_one := r_one.mono stt.gr
            have r_two := r_two.mono stt.gr
            have rb := rb.mono g
            have hl := rb.len
            rw [List.length_map, List.length_append, List.length_take] at hl
            have hlt := len_dszL (L ++ [PyData.tuple xs])
            rw [List.length_append] at hlt
            have hlt : us.length < sizeLine := by rw [← szL]; omega
            refine zg_name (n := 6) sc.nd rfl (Or.inl rfl) ?_
            show ZS _ _ [some v_told, some v_due, some (.ref p), some v_step, some v_one, some v_two, some x] Hb _
            refine zs_append stt.ok 2 0 rfl (ze_tup (za_cons (ze_ixT (ze_var 4 rfl r_one) (ze_var 6 rfl r) (atI_nat (List.getElem?_eq_getElem hj))) (za_cons (ze_ixT (ze_var 5 rfl r_two) (ze_var 6 rfl r) (atI_nat (List.getElem?_eq_getElem hj))) za_nil))) rfl hlt fun v F5 H5 s5 r5 => ?_
            refine zs_nil ?_
            refine ⟨F5, _, s5, some x, us ++ [v], rfl, rfl, ?_⟩
            rw [List.take_add_one, List.getElem?_eq_getElem hj, ← List.append_assoc, List.map_append]
            exact (rb.mono s5.gr).snoc r5
          · obtain ⟨z6, us, rfl, rfl, rb⟩ := rel
            have sb := sb.trans stt
            repeat refine zs_nil ?_
            rw [List.length_map, rangeI_length] at rb
            have e0 : (((xs.length : Nat) : Int) - 0).toNat = xs.length := by omega
            rw [e0, List.take_length] at rb
            exact ⟨_, _, sb, some v_step, some v_one, some v_two, z6, us, L ++ xs, rfl, rfl, rb, by rw [dszL_app, dszL_one, dsz_tuple] at hsum; rw [dszL_app]; omega⟩
        | dict kvs => cases r_one
    · obtain ⟨z3, z4, z5, z6, us, L, rfl, rfl, ra, hsum⟩ := rel
      exfalso
      rw [List.length_map, rangeI_length] at hsum
      omega


theorem A_same_of {a b : PyData} (h : b = a) (hs : dsz a ≤ 199999) : A_same [a, b] (.bool true) := ⟨a, by rw [h], hs, rfl⟩

/-! _law_pick -/
abbrev s_pick : Stmt := topS 16
theorem sc_pick : FnScope ["store", "things"] ["store", "things"] (defScope s_pick) := ⟨rfl, rfl, rfl, by decide +kernel, rfl, by decide +kernel, by decide +kernel⟩
def pick (cs : List Int) (s : Sto) (things : (List PyData)) : PyData × Sto :=
  ((ixL things ((take cs s (things.length : Int)).1)), (take cs s (things.length : Int)).2)
def A_pick : List Int → Sto → List PyData → PyData → Sto → Prop := fun cs s ds r s' => ∃ (things : (List PyData)), ds = [(eL (fun d : PyData => d)) things] ∧ (1 ≤ things.length ∧ things.length < 2 ^ 63) ∧ r = (fun d : PyData => d) (pick cs s things).1 ∧ s' = (pick cs s things).2
set_option maxHeartbeats 4000000 in
theorem ok_pick {P : Program} {w : World} {K : PySem.W.Frag} {mg : Str → Option Value} {base : Heap} (T : Top K mg) : Fn P w K mg base 3 "_law_pick" ["store", "things"] (spS K A_pick) := by
  obtain ⟨f, fd, F, gm⟩ := T.f_pick
  have sc := sc_pick
  refine ⟨f, fd, F.ok sc (fun vs H Q E h => ?_) (fun cdv A outer s0 H vs Q E hr h => ⟨_, PSs.nox pss_w, ?_⟩), gm, F.kp, F.bindsN (fun _ _ _ _ _ _ us hl => match us, hl with | [_, _], _ => rfl)⟩
  · obtain ⟨F, a_st, c_st, cs, s, ws, ds, r, s', rfl, w, rc, ra, ⟨things, rfl, hpre, rfl, rfl⟩, q⟩ := h
    have h := ra.len
    show ws.length + 1 = 2
    rw [h]; rfl
  · obtain ⟨F, a_st, c_st, cs, s, ws, ds, r, s', rfl, w, r_st, ra, ⟨things, rfl, hpre, rfl, rfl⟩, q⟩ := h
    obtain ⟨v_things, ws, rfl, r_things, ra⟩ := ra.cons_inv
    obtain rfl := ra.nil_inv
    have st := Stp.refl w
    have hf : pick cs s things = pick cs s things := rfl
    show ZS _ _ [some (.ref a_st), some v_things] H _
    refine zs_ret st.ok (ze_ixLt (enc := (fun d : PyData => d)) (ze_var 1 rfl r_things) (ze_callS 0 0 (ok_take T) (hr.mono (by decide)) rfl r_st (za_cons (ze_lenLt T.b_len (ze_var 1 rfl r_things)) za_nil) rfl ⟨(things.length : Int), rfl, (by /-1-/ first | omega | (simp only [List.length_append, List.length_cons, List.length_nil, List.length_map, rangeI_length]; omega)), rfl, rfl⟩) (by /-2-/ exact ⟨by have := (take_lt (cs := cs) (s := s) (many := (things.length : Int)) (by omega)).1; omega, (take_lt (by omega)).2⟩)) fun v F_2 H_2 s_2 r_2 => ?_
    exact q v F_2 H_2 (by rw [hf]; exact (st.trans s_2)) (by rw [hf]; exact r_2)

def pickT {α : Type} [Inhabited α] (cs : List Int) (s : Sto) (xs : List α) : α × Sto := (ixL xs (take cs s (xs.length : Int)).1, (take cs s (xs.length : Int)).2)
theorem pickT_mem {α : Type} [Inhabited α] {cs : List Int} {s : Sto} {xs : List α} (h : 1 ≤ xs.length) : (pickT cs s xs).1 ∈ xs :=
  ixL_mem ⟨by have := (take_lt (cs := cs) (s := s) (many := (xs.length : Int)) (by omega)).1; omega, (take_lt (by omega)).2⟩
theorem A_pick_of {α : Type} [Inhabited α] {cs : List Int} {s : Sto} {xs : List α} (enc : α → PyData) (h : 1 ≤ xs.length ∧ xs.length < 2 ^ 63) : A_pick cs s [eL enc xs] (enc (pickT cs s xs).1) (pickT cs s xs).2 := by
  have hr : -(xs.length : Int) ≤ (take cs s (xs.length : Int)).1 ∧ (take cs s (xs.length : Int)).1 < xs.length := ⟨by have := (take_lt (cs := cs) (s := s) (many := (xs.length : Int)) (by omega)).1; omega, (take_lt (by omega)).2⟩
  refine ⟨xs.map enc, by rw [eL, eL, List.map_id'], by rw [List.length_map]; exact h, ?_, ?_⟩
  · show enc (ixL xs _) = ixL (xs.map enc) (take cs s ((xs.map enc).length : Int)).1
    rw [List.length_map]
    unfold ixL
    rw [atI_map hr, atI_in hr]; rfl
  · show _ = (take cs s ((xs.map enc).length : Int)).2
    rw [List.length_map]; rfl

/-! _law_shuffle -/
abbrev s_shuffleL : Stmt := topS 17
theorem sc_shuffleL : FnScope ["store", "things", "row", "k", "last", "at", "thing"] ["store", "things"] (defScope s_shuffleL) := ⟨rfl, rfl, rfl, by decide +kernel, rfl, by decide +kernel, by decide +kernel⟩
def shuffleL_6 (row_4 : (List PyData)) (s_7 : Sto) : ((List PyData) × Sto) :=
  (row_4, s_7)
def shuffleL_5 (row_3 : (List PyData)) (last : Int) (thing : PyData) (s_7 : Sto) : ((List PyData) × Sto) :=
  shuffleL_6 (setL row_3 last thing) s_7
def shuffleL_4 (row_2 : (List PyData)) (last : Int) (at_ : Int) (thing : PyData) (s_7 : Sto) : ((List PyData) × Sto) :=
  shuffleL_5 (setL row_2 at_ (ixL row_2 last)) last thing s_7
def shuffleL_3 (row_2 : (List PyData)) (last : Int) (at_ : Int) (s_7 : Sto) : ((List PyData) × Sto) :=
  shuffleL_4 row_2 last at_ (ixL row_2 at_) s_7
def shuffleL_2 (cs : List Int) (row_2 : (List PyData)) (last : Int) (s_4 : Sto) : ((List PyData) × Sto) :=
  shuffleL_3 row_2 last ((take cs s_4 (last + (1 : Int))).1) ((take cs s_4 (last + (1 : Int))).2)
def shuffleL_L1b (cs : List Int) (things : (List PyData)) (row_2 : (List PyData)) (s_4 : Sto) (k : Int) : ((List PyData) × Sto) :=
  shuffleL_2 cs row_2 (((things.length : Int) - (1 : Int)) - k) s_4
def shuffleL_L1 (cs : List Int) (things : (List PyData)) (b : ((List PyData) × Sto)) (a : Int) : ((List PyData) × Sto) :=
  shuffleL_L1b cs things b.1 b.2 a
def shuffleL_7 (b : ((List PyData) × Sto)) : (List PyData) × Sto :=
  (b.1, b.2)
def shuffleL_1 (cs : List Int) (things : (List PyData)) (row : (List PyData)) (s : Sto) : (List PyData) × Sto :=
  shuffleL_7 (List.foldl (shuffleL_L1 cs things) (row, s) (rangeI 0 ((things.length : Int) - (1 : Int))))
def shuffleL (cs : List Int) (s : Sto) (things : (List PyData)) : (List PyData) × Sto :=
  shuffleL_1 cs things things s
def A_shuffleL : List Int → Sto → List PyData → PyData → Sto → Prop := fun cs s ds r s' => ∃ (things : (List PyData)), ds = [(eL (fun d : PyData => d)) things] ∧ (things.length < 2 ^ 23) ∧ r = (eL (fun d : PyData => d)) (shuffleL cs s things).1 ∧ s' = (shuffleL cs s things).2
set_option maxHeartbeats 4000000 in
theorem ok_shuffleL {P : Program} {w : World} {K : PySem.W.Frag} {mg : Str → Option Value} {base : Heap} (T : Top K mg) : Fn P w K mg base 3 "_law_shuffle" ["store", "things"] (spS K A_shuffleL) := by
  obtain ⟨f, fd, F, gm⟩ := T.f_shuffleL
  have sc := sc_shuffleL
  refine ⟨f, fd, F.ok sc (fun vs H Q E h => ?_) (fun cdv A outer s0 H vs Q E hr h => ⟨_, PSs.nox pss_w, ?_⟩), gm, F.kp, F.bindsN (fun _ _ _ _ _ _ us hl => match us, hl with | [_, _], _ => rfl)⟩
  · obtain ⟨F, a_st, c_st, cs, s, ws, ds, r, s', rfl, w, rc, ra, ⟨things, rfl, hpre, rfl, rfl⟩, q⟩ := h
    have h := ra.len
    show ws.length + 1 = 2
    rw [h]; rfl
  · obtain ⟨F, a_st, c_st, cs, s, ws, ds, r, s', rfl, w, r_st, ra, ⟨things, rfl, hpre, rfl, rfl⟩, q⟩ := h
    obtain ⟨v_things, ws, rfl, r_things, ra⟩ := ra.cons_inv
    obtain rfl := ra.nil_inv
    have st := Stp.refl w
    have hf : shuffleL cs s things = shuffleL cs s things := rfl
    show ZS _ _ [some (.ref a_st), some v_things, none, none, none, none, none] H _
    refine zs_setN (n := 2) st.ok (zn_list T.b_list (ze_var 1 rfl r_things)) sc.nd rfl (by first | exact Or.inl rfl | exact Or.inr rfl) fun p_row us_row F_2 H_2 hp_2 s_2 r_row => ?_
    obtain ⟨row, hx_row⟩ : ∃ z : (List PyData), z = things := ⟨_, rfl⟩
    have hn := st.newAt hp_2
    have s_2 : Stp F [stoO a_st c_st s] H F_2 [(p_row, .lst us_row), stoO a_st c_st s] H_2 := by exact s_2
    have r_row : RA K F_2 us_row (row.map (fun d : PyData => d)) := by subst hx_row; exact r_row
    have st := st.trans s_2
    have r_things := r_things.mono s_2.gr
    have r_st := r_st.mono s_2.gr
    show ZS _ _ [some (.ref a_st), some v_things, some (.ref p_row), none, none, none, none] H_2 _
    have hf : shuffleL cs s things = shuffleL_1 cs things row s := by subst hx_row; exact hf
    refine zs_forF (f := (shuffleL_L1 cs things)) (b0 := (row, s)) st.ok PassesOwn.never rfl (zi_range1 T.b_range (ze_sub (ze_lenLt T.b_len (ze_var 1 rfl r_things)) ze_int) (by /-1-/ first | (first | omega | (simp only [List.length_append, List.length_cons, List.length_nil, List.length_map, rangeI_length]; omega)) | (first | omega | (rw [hx_row_3, setL_length]; omega) | (rw [← szL]; omega)))) (fun iq b σ F O => ∃ (z1 : Option V) (z2 : Option V) (z3 : Option V) (z4 : Option V) (w5 : List V), σ = [some (.ref a_st), some v_things, some (.ref p_row), z1, z2, z3, z4] ∧ O = [(p_row, .lst w5), stoO a_st c_st b.2] ∧ RA K F w5 (b.1.map (fun d : PyData => d)) ∧ (b.1.length = things.length)) (fun F_13 H_11 s_14 => ⟨none, none, none, none, us_row, rfl, rfl, r_row.mono s_14.gr, by rw [hx_row]⟩) (fun i b k v σ F_3 F_4 O_2 H_3 ha hbe hz rel g s_3 r_2 => ?_) (fun σ_2 F_10 O_3 H_9 s_12 rel_2 => ?_)
    · skip
      obtain ⟨row_2, s_4⟩ := b
      obtain ⟨z_k, z_last, z_at, z_thing, us_row_2, rfl, rfl, r_row_2, hinv⟩ := rel
      have r_row_2 : RA K _ us_row_2 (row_2.map (fun d : PyData => d)) := r_row_2
      have st := st.trans s_3
      have r_things := r_things.mono s_3.gr
      have r_st := r_st.mono s_3.gr
      have r_row_2 := r_row_2.mono g
      have hinv : row_2.length = things.length := hinv
      have hlt_i := (List.getElem?_eq_some_iff.mp ha).1
      rw [rangeI_length] at hlt_i
      have hat_i := rangeI_at ha
      have sb : Stp F_4 [(p_row, .lst us_row_2), stoO a_st c_st s_4] H_3 F_4 [(p_row, .lst us_row_2), stoO a_st c_st s_4] H_3 := Stp.refl st.ok
      have hfb : shuffleL_L1 cs things (row_2, s_4) k = shuffleL_L1b cs things row_2 s_4 k := rfl
      refine zg_name (n := 3) sc.nd rfl (by first | exact Or.inl rfl | exact Or.inr rfl) ?_
      show ZS _ _ [some (.ref a_st), some v_things, some (.ref p_row), some v, z_last, z_at, z_thing] H_3 _
      refine zs_set (n := 4) st.ok (ze_sub (ze_sub (ze_lenLt T.b_len (ze_var 1 rfl r_things)) ze_int) (ze_var 3 rfl r_2)) sc.nd rfl (by first | exact Or.inl rfl | exact Or.inr rfl) fun v_last F_5 H_4 s_5 r_last => ?_
      obtain ⟨last, hx_last⟩ : ∃ z : Int, z = (((things.length : Int) - (1 : Int)) - k) := ⟨_, rfl⟩
      have s_5 : Stp F_4 [(p_row, .lst us_row_2), stoO a_st c_st s_4] H_3 F_5 [(p_row, .lst us_row_2), stoO a_st c_st s_4] H_4 := by exact s_5
      have r_last : R K F_5 v_last (eI last) := by subst hx_last; exact r_last
      have st := st.trans s_5
      have sb := sb.trans s_5
      have r_things := r_things.mono s_5.gr
      have r_st := r_st.mono s_5.gr
      have r_row_2 := r_row_2.mono s_5.gr
      have r_2 := r_2.mono s_5.gr
      show ZS _ _ [some (.ref a_st), some v_things, some (.ref p_row), some v, some v_last, z_at, z_thing] H_4 _
      have hfb : shuffleL_L1 cs things (row_2, s_4) k = shuffleL_2 cs row_2 last s_4 := by subst hx_last; exact hfb
      refine zs_set (n := 5) st.ok (ze_callS 0 1 (ok_take T) (hr.mono (by decide)) rfl r_st (za_cons (ze_add (ze_var 4 rfl r_last) ze_int) za_nil) rfl ⟨(last + (1 : Int)), rfl, (by /-2-/ first | (first | omega | (simp only [List.length_append, List.length_cons, List.length_nil, List.length_map, rangeI_length]; omega)) | (first | omega | (rw [hx_row_3, setL_length]; omega) | (rw [← szL]; omega))), rfl, rfl⟩) sc.nd rfl (by first | exact Or.inl rfl | exact Or.inr rfl) fun v_at F_6 H_5 s_6 r_at => ?_
      obtain ⟨at_, hx_at_⟩ : ∃ z : Int, z = (take cs s_4 (last + (1 : Int))).1 := ⟨_, rfl⟩
      obtain ⟨s_7, hx_s_7⟩ : ∃ z : Sto, z = (take cs s_4 (last + (1 : Int))).2 := ⟨_, rfl⟩
      have s_6 : Stp F_5 [(p_row, .lst us_row_2), stoO a_st c_st s_4] H_4 F_6 [(p_row, .lst us_row_2), stoO a_st c_st s_7] H_5 := by subst hx_s_7; exact s_6
      have r_at : R K F_6 v_at (eI at_) := by subst hx_at_; exact r_at
      have st := st.trans s_6
      have sb := sb.trans s_6
      have r_things := r_things.mono s_6.gr
      have r_st := r_st.mono s_6.gr
      have r_row_2 := r_row_2.mono s_6.gr
      have r_2 := r_2.mono s_6.gr
      have r_last := r_last.mono s_6.gr
      show ZS _ _ [some (.ref a_st), some v_things, some (.ref p_row), some v, some v_last, some v_at, z_thing] H_5 _
      have hfb : shuffleL_L1 cs things (row_2, s_4) k = shuffleL_3 row_2 last at_ s_7 := by subst hx_at_; subst hx_s_7; exact hfb
      have htk : 0 ≤ at_ ∧ at_ < last + 1 := by rw [hx_at_]; exact take_lt (by omega)
      refine zs_set (n := 6) st.ok (ze_ixOt (enc := (fun d : PyData => d)) 2 0 rfl (ze_var 5 rfl r_at) rfl r_row_2 (by /-3-/ first | (first | omega | (simp only [List.length_append, List.length_cons, List.length_nil, List.length_map, rangeI_length]; omega)) | (first | omega | (rw [hx_row_3, setL_length]; omega) | (rw [← szL]; omega)))) sc.nd rfl (by first | exact Or.inl rfl | exact Or.inr rfl) fun v_thing F_7 H_6 s_8 r_thing => ?_
      obtain ⟨thing, hx_thing⟩ : ∃ z : PyData, z = (ixL row_2 at_) := ⟨_, rfl⟩
      have s_8 : Stp F_6 [(p_row, .lst us_row_2), stoO a_st c_st s_7] H_5 F_7 [(p_row, .lst us_row_2), stoO a_st c_st s_7] H_6 := by exact s_8
      have r_thing : R K F_7 v_thing ((fun d : PyData => d) thing) := by subst hx_thing; exact r_thing
      have st := st.trans s_8
      have sb := sb.trans s_8
      have r_things := r_things.mono s_8.gr
      have r_st := r_st.mono s_8.gr
      have r_row_2 := r_row_2.mono s_8.gr
      have r_2 := r_2.mono s_8.gr
      have r_last := r_last.mono s_8.gr
      have r_at := r_at.mono s_8.gr
      show ZS _ _ [some (.ref a_st), some v_things, some (.ref p_row), some v, some v_last, some v_at, some v_thing] H_6 _
      have hfb : shuffleL_L1 cs things (row_2, s_4) k = shuffleL_4 row_2 last at_ thing s_7 := by subst hx_thing; exact hfb
      obtain ⟨q_2, hq, q_2_lt⟩ : ∃ q, ixN row_2.length at_ = some q ∧ q < row_2.length := ixN_in (by /-5-/ first | (first | omega | (simp only [List.length_append, List.length_cons, List.length_nil, List.length_map, rangeI_length]; omega)) | (first | omega | (rw [hx_row_3, setL_length]; omega) | (rw [← szL]; omega)))
      have hl : (us_row_2).length = row_2.length := by have h := r_row_2.len; exact h.trans (by rw [List.length_map])
      refine zs_setItem (q := q_2) st.ok 2 0 rfl (ze_ixOt (enc := (fun d : PyData => d)) 2 0 rfl (ze_var 4 rfl r_last) rfl r_row_2 (by /-4-/ first | (first | omega | (simp only [List.length_append, List.length_cons, List.length_nil, List.length_map, rangeI_length]; omega)) | (first | omega | (rw [hx_row_3, setL_length]; omega) | (rw [← szL]; omega)))) (ze_var 5 rfl r_at) rfl (by rw [hl]; exact hq) fun v_2 F_8 H_7 s_9 r_3 => ?_
      obtain ⟨row_3, hx_row_3⟩ : ∃ z : (List PyData), z = setL row_2 at_ (ixL row_2 last) := ⟨_, rfl⟩
      obtain ⟨us_row_3, hus_row_3⟩ : ∃ z, z = us_row_2.set q_2 v_2 := ⟨_, rfl⟩
      have s_9 : Stp F_7 [(p_row, .lst us_row_2), stoO a_st c_st s_7] H_6 F_8 [(p_row, .lst us_row_3), stoO a_st c_st s_7] H_7 := by subst hus_row_3; exact s_9
      have r_row_3 : RA K F_8 us_row_3 (row_3.map (fun d : PyData => d)) := by rw [hus_row_3, hx_row_3, setL_eq hq, List.map_set]; exact (r_row_2.mono s_9.gr).set r_3
      have st := st.trans s_9
      have sb := sb.trans s_9
      have r_things := r_things.mono s_9.gr
      have r_st := r_st.mono s_9.gr
      have r_2 := r_2.mono s_9.gr
      have r_last := r_last.mono s_9.gr
      have r_at := r_at.mono s_9.gr
      have r_thing := r_thing.mono s_9.gr
      show ZS _ _ [some (.ref a_st), some v_things, some (.ref p_row), some v, some v_last, some v_at, some v_thing] H_7 _
      have hfb : shuffleL_L1 cs things (row_2, s_4) k = shuffleL_5 row_3 last thing s_7 := by subst hx_row_3; exact hfb
      obtain ⟨q_3, hq_2, q_3_lt⟩ : ∃ q, ixN row_3.length last = some q ∧ q < row_3.length := ixN_in (by /-6-/ first | (first | omega | (simp only [List.length_append, List.length_cons, List.length_nil, List.length_map, rangeI_length]; omega)) | (first | omega | (rw [hx_row_3, setL_length]; omega) | (rw [← szL]; omega)))
      have hl_2 : (us_row_3).length = row_3.length := by have h := r_row_3.len; exact h.trans (by rw [List.length_map])
      refine zs_setItem (q := q_3) st.ok 2 0 rfl (ze_var 6 rfl r_thing) (ze_var 4 rfl r_last) rfl (by rw [hl_2]; exact hq_2) fun v_3 F_9 H_8 s_10 r_4 => ?_
      obtain ⟨row_4, hx_row_4⟩ : ∃ z : (List PyData), z = setL row_3 last thing := ⟨_, rfl⟩
      obtain ⟨us_row_4, hus_row_4⟩ : ∃ z, z = us_row_3.set q_3 v_3 := ⟨_, rfl⟩
      have s_10 : Stp F_8 [(p_row, .lst us_row_3), stoO a_st c_st s_7] H_7 F_9 [(p_row, .lst us_row_4), stoO a_st c_st s_7] H_8 := by subst hus_row_4; exact s_10
      have r_row_4 : RA K F_9 us_row_4 (row_4.map (fun d : PyData => d)) := by rw [hus_row_4, hx_row_4, setL_eq hq_2, List.map_set]; exact (r_row_3.mono s_10.gr).set r_4
      have st := st.trans s_10
      have sb := sb.trans s_10
      have r_things := r_things.mono s_10.gr
      have r_st := r_st.mono s_10.gr
      have r_2 := r_2.mono s_10.gr
      have r_last := r_last.mono s_10.gr
      have r_at := r_at.mono s_10.gr
      have r_thing := r_thing.mono s_10.gr
      show ZS _ _ [some (.ref a_st), some v_things, some (.ref p_row), some v, some v_last, some v_at, some v_thing] H_8 _
      have hfb : shuffleL_L1 cs things (row_2, s_4) k = shuffleL_6 row_4 s_7 := by subst hx_row_4; exact hfb
      refine zs_nil ?_
      exact ⟨_, _, sb, by (try rw [hfb]); exact ⟨some v, some v_last, some v_at, some v_thing, us_row_4, rfl, rfl, r_row_4, (show row_4.length = things.length from by rw [hx_row_4, setL_length, hx_row_3, setL_length]; exact hinv)⟩⟩
    · skip
      obtain ⟨b_2, hb⟩ : ∃ z : ((List PyData) × Sto), z = List.foldl (shuffleL_L1 cs things) (row, s) (rangeI 0 ((things.length : Int) - (1 : Int))) := ⟨_, rfl⟩
      try rw [← hb] at rel_2
      obtain ⟨row_5, s_11⟩ := b_2
      obtain ⟨z_k_2, z_last_2, z_at_2, z_thing_2, us_row_5, rfl, rfl, r_row_5, hinv_2⟩ := rel_2
      have r_row_5 : RA K _ us_row_5 (row_5.map (fun d : PyData => d)) := r_row_5
      have st := st.trans s_12
      have r_things := r_things.mono s_12.gr
      have r_st := r_st.mono s_12.gr
      have hinv_2 : row_5.length = things.length := hinv_2
      have hf : shuffleL cs s things = shuffleL_7 (row_5, s_11) := by rw [hb]; exact hf
      show ZS _ _ [some (.ref a_st), some v_things, some (.ref p_row), z_k_2, z_last_2, z_at_2, z_thing_2] H_9 _
      have gz : Gr F_10 (upd F_10 p_row (.lst us_row_5)) := Gr.upd (st.ok.at_ (k := 0) rfl).2
      have r_row_6 : R K (upd F_10 p_row (.lst us_row_5)) (.ref p_row) (eL (fun d : PyData => d) row_5) := (r_row_5.mono gz).lst upd_same
      have st : Stp _ _ _ (upd F_10 p_row (.lst us_row_5)) [stoO a_st c_st s_11] H_9 := st.freezeAt 0 rfl hn
      have r_things := r_things.mono gz
      have r_st := r_st.mono gz
      show ZS _ _ [some (.ref a_st), some v_things, some (.ref p_row), z_k_2, z_last_2, z_at_2, z_thing_2] H_9 _
      refine zs_ret st.ok (ze_var 2 rfl r_row_6) fun v_4 F_12 H_10 s_13 r_5 => ?_
      exact q v_4 F_12 H_10 (by rw [hf]; exact (st.trans s_13)) (by rw [hf]; exact r_5)
def shufStep {α : Type} [Inhabited α] (cs : List Int) (n : Int) (b : List α × Sto) (k : Int) : List α × Sto :=
  (setL (setL b.1 (take cs b.2 (n - 1 - k + 1)).1 (ixL b.1 (n - 1 - k))) (n - 1 - k) (ixL b.1 (take cs b.2 (n - 1 - k + 1)).1), (take cs b.2 (n - 1 - k + 1)).2)
def shufT {α : Type} [Inhabited α] (cs : List Int) (s : Sto) (xs : List α) : List α × Sto := (rangeI 0 ((xs.length : Int) - 1)).foldl (shufStep cs (xs.length : Int)) (xs, s)
theorem setL_map {α : Type} {f : α → PyData} {xs : List α} {i : Int} {v : α} : setL (xs.map f) i (f v) = (setL xs i v).map f := by
  unfold setL
  rw [List.length_map]
  cases ixN xs.length i with
  | none => rfl
  | some q => exact List.map_set.symm
theorem ixL_map {α : Type} [Inhabited α] {f : α → PyData} {xs : List α} {i : Int} (h : -(xs.length : Int) ≤ i ∧ i < xs.length) : ixL (xs.map f) i = f (ixL xs i) := by
  have h1 := atI_map (e := f) h
  unfold ixL at h1 ⊢
  rw [h1]; rfl
theorem ixL_at {α : Type} [Inhabited α] {xs : List α} {q : Nat} (h : q < xs.length) : ixL xs (q : Int) = xs[q] := by
  unfold ixL atI
  have : ixN xs.length (q : Int) = some q := by
    unfold ixN
    rw [if_pos (by omega), if_pos (by omega), Int.toNat_natCast]
  rw [this]
  simp [h]
theorem setL_at {α : Type} {xs : List α} {q : Nat} {v : α} (h : q < xs.length) : setL xs (q : Int) v = xs.set q v := by
  refine setL_eq ?_
  unfold ixN
  rw [if_pos (by omega), if_pos (by omega), Int.toNat_natCast]
theorem shufStep_perm {α : Type} [Inhabited α] {cs : List Int} {n k : Int} {b : List α × Sto} (hb : (b.1.length : Int) = n) (hk : 0 ≤ k ∧ k < n - 1) : (shufStep cs n b k).1.Perm b.1 := by
  have ht := take_lt (cs := cs) (s := b.2) (many := n - 1 - k + 1) (by omega)
  unfold shufStep
  generalize (take cs b.2 (n - 1 - k + 1)).1 = a at ht
  obtain ⟨i, rfl⟩ := Int.eq_ofNat_of_zero_le ht.1
  obtain ⟨j, hj⟩ := Int.eq_ofNat_of_zero_le (a := n - 1 - k) (by omega)
  rw [hj]
  have hi : i < b.1.length := by omega
  have hjl : j < b.1.length := by omega
  show (setL (setL b.1 (i : Int) (ixL b.1 (j : Int))) (j : Int) (ixL b.1 (i : Int))).Perm b.1
  rw [setL_at (xs := b.1) hi, setL_at (by rw [List.length_set]; exact hjl), ixL_at hi, ixL_at hjl]
  exact List.set_set_perm hi hjl
theorem shufT_perm {α : Type} [Inhabited α] {cs : List Int} {s : Sto} {xs : List α} : (shufT cs s xs).1.Perm xs := by
  unfold shufT
  refine foldl_inv (fun b : List α × Sto => b.1.Perm xs) (List.Perm.refl _) fun b k hk h => ?_
  exact (shufStep_perm (by rw [h.length_eq]) (rangeI_mem.mp hk)).trans h
theorem shuf_map {α : Type} [Inhabited α] {cs : List Int} {s : Sto} {xs : List α} (enc : α → PyData) : shuffleL cs s (xs.map enc) = ((shufT cs s xs).1.map enc, (shufT cs s xs).2) := by
  have key : ∀ (ks : List Int) (row : List α) (st : Sto), (∀ k ∈ ks, 0 ≤ k ∧ k < (xs.length : Int) - 1) → row.length = xs.length → ks.foldl (shuffleL_L1 cs (xs.map enc)) (row.map enc, st) = ((ks.foldl (shufStep cs (xs.length : Int)) (row, st)).1.map enc, (ks.foldl (shufStep cs (xs.length : Int)) (row, st)).2) := fun ks => by
    induction ks with
    | nil => intro row st _ _; rfl
    | cons k ks ih =>
      intro row st hk hl
      have h0 := hk k List.mem_cons_self
      have ht := take_lt (cs := cs) (s := st) (many := (xs.length : Int) - 1 - k + 1) (by omega)
      have e : shuffleL_L1 cs (xs.map enc) (row.map enc, st) k = ((shufStep cs (xs.length : Int) (row, st) k).1.map enc, (shufStep cs (xs.length : Int) (row, st) k).2) := by
        show (setL (setL (row.map enc) (take cs st (((xs.map enc).length : Int) - 1 - k + 1)).1 (ixL (row.map enc) (((xs.map enc).length : Int) - 1 - k))) (((xs.map enc).length : Int) - 1 - k) (ixL (row.map enc) (take cs st (((xs.map enc).length : Int) - 1 - k + 1)).1), (take cs st (((xs.map enc).length : Int) - 1 - k + 1)).2) = _
        rw [List.length_map, ixL_map (by omega), ixL_map (by omega), setL_map, setL_map]
        rfl
      rw [List.foldl_cons, List.foldl_cons, e]
      have := ih (shufStep cs (xs.length : Int) (row, st) k).1 (shufStep cs (xs.length : Int) (row, st) k).2 (fun k' h => hk k' (List.mem_cons_of_mem _ h)) (by
        show (setL (setL row _ _) _ _).length = _
        rw [setL_length, setL_length]; exact hl)
      exact this
  show ((List.foldl (shuffleL_L1 cs (xs.map enc)) (xs.map enc, s) (rangeI 0 (((xs.map enc).length : Int) - 1))).1, (List.foldl (shuffleL_L1 cs (xs.map enc)) (xs.map enc, s) (rangeI 0 (((xs.map enc).length : Int) - 1))).2) = _
  rw [List.length_map, key _ xs s (fun k hk => rangeI_mem.mp hk) rfl]
  rfl
theorem A_shuf_of {α : Type} [Inhabited α] {cs : List Int} {s : Sto} {xs : List α} (enc : α → PyData) (h : xs.length < 2 ^ 23) : A_shuffleL cs s [eL enc xs] (eL enc (shufT cs s xs).1) (shufT cs s xs).2 := by
  refine ⟨xs.map enc, by show [PyData.list _] = [PyData.list _]; rw [List.map_id'], by rw [List.length_map]; exact h, ?_, ?_⟩
  · show PyData.list _ = PyData.list ((shuffleL cs s (xs.map enc)).1.map fun d => d)
    rw [List.map_id', shuf_map]
  · rw [shuf_map]

/-! _law_yard -/
abbrev s_yardL : Stmt := topS 18
theorem sc_yardL : FnScope ["store"] ["store"] (defScope s_yardL) := ⟨rfl, rfl, rfl, by decide +kernel, rfl, by decide +kernel, by decide +kernel⟩
def yardL_1 (cs : List Int) (s_3 : Sto) : (Str × Int) × Sto :=
  (((Str.ofString "yard"), (number cs s_3 (0 : Int) (99 : Int)).1), (number cs s_3 (0 : Int) (99 : Int)).2)
def yardL_2 (cs : List Int) (s_5 : Sto) : (Str × Int) × Sto :=
  (((Str.ofString "yard"), (take cs s_5 (4 : Int)).1), (take cs s_5 (4 : Int)).2)
def yardL (cs : List Int) (s : Sto) : (Str × Int) × Sto :=
  (cond ((odds cs s (3 : Int)).1) (yardL_1 cs ((odds cs s (3 : Int)).2)) (yardL_2 cs ((odds cs s (3 : Int)).2)))
def A_yardL : List Int → Sto → List PyData → PyData → Sto → Prop := fun cs s ds r s' => ds = [] ∧ r = (eT2 eS eI) (yardL cs s).1 ∧ s' = (yardL cs s).2
set_option maxHeartbeats 4000000 in
theorem ok_yardL {P : Program} {w : World} {K : PySem.W.Frag} {mg : Str → Option Value} {base : Heap} (T : Top K mg) : Fn P w K mg base 5 "_law_yard" ["store"] (spS K A_yardL) := by
  obtain ⟨f, fd, F, gm⟩ := T.f_yardL
  have sc := sc_yardL
  refine ⟨f, fd, F.ok sc (fun vs H Q E h => ?_) (fun cdv A outer s0 H vs Q E hr h => ⟨_, PSs.nox pss_w, ?_⟩), gm, F.kp, F.bindsN (fun _ _ _ _ _ _ us hl => match us, hl with | [_], _ => rfl)⟩
  · obtain ⟨F, a_st, c_st, cs, s, ws, ds, r, s', rfl, w, rc, ra, ⟨rfl, rfl, rfl⟩, q⟩ := h
    have h := ra.len
    show ws.length + 1 = 1
    rw [h]; rfl
  · obtain ⟨F, a_st, c_st, cs, s, ws, ds, r, s', rfl, w, r_st, ra, ⟨rfl, rfl, rfl⟩, q⟩ := h
    obtain rfl := ra.nil_inv
    have st := Stp.refl w
    have hf : yardL cs s = yardL cs s := rfl
    show ZS _ _ [some (.ref a_st)] H _
    refine zs_if st.ok (zt_val (ze_callS 0 0 (ok_odds T) (hr.mono (by decide)) rfl r_st (za_cons ze_int za_nil) rfl ⟨(3 : Int), rfl, (by /-1-/ first | (first | omega | (simp only [List.length_append, List.length_cons, List.length_nil, List.length_map, rangeI_length]; omega)) | (first | omega | (rw [← szL]; omega) | (simp only [List.length_append, List.length_cons, List.length_nil, List.length_map, rangeI_length, ← szL]; omega))), rfl, rfl⟩)) (fun hb F_2 H_2 s_2 => ?_) (fun hb F_2 H_2 s_2 => ?_)
    · obtain ⟨s_3, hx_s_3⟩ : ∃ z : Sto, z = (odds cs s (3 : Int)).2 := ⟨_, rfl⟩
      have s_2 : Stp F [stoO a_st c_st s] H F_2 [stoO a_st c_st s_3] H_2 := by subst hx_s_3; exact s_2
      have st := st.trans s_2
      have r_st := r_st.mono s_2.gr
      have hf := hf.trans (cond_t hb)
      have hf : yardL cs s = yardL_1 cs s_3 := by subst hx_s_3; exact hf
      refine zs_ret st.ok (ze_tup (za_cons ze_str (za_cons (ze_callS 0 0 (ok_number T) (hr.mono (by decide)) rfl r_st (za_cons ze_int (za_cons ze_int za_nil)) rfl ⟨(0 : Int), (99 : Int), rfl, (by /-2-/ first | (first | omega | (simp only [List.length_append, List.length_cons, List.length_nil, List.length_map, rangeI_length]; omega)) | (first | omega | (rw [← szL]; omega) | (simp only [List.length_append, List.length_cons, List.length_nil, List.length_map, rangeI_length, ← szL]; omega))), rfl, rfl⟩) za_nil))) fun v F_3 H_3 s_4 r_2 => ?_
      exact q v F_3 H_3 (by rw [hf]; exact (st.trans s_4)) (by rw [hf]; exact r_2)
    · obtain ⟨s_5, hx_s_5⟩ : ∃ z : Sto, z = (odds cs s (3 : Int)).2 := ⟨_, rfl⟩
      have s_2 : Stp F [stoO a_st c_st s] H F_2 [stoO a_st c_st s_5] H_2 := by subst hx_s_5; exact s_2
      have st := st.trans s_2
      have r_st := r_st.mono s_2.gr
      have hf := hf.trans (cond_f hb)
      have hf : yardL cs s = yardL_2 cs s_5 := by subst hx_s_5; exact hf
      refine zs_nil ?_
      show ZS _ _ [some (.ref a_st)] H_2 _
      refine zs_ret st.ok (ze_tup (za_cons ze_str (za_cons (ze_callS 0 0 (ok_take T) (hr.mono (by decide)) rfl r_st (za_cons ze_int za_nil) rfl ⟨(4 : Int), rfl, (by /-3-/ first | (first | omega | (simp only [List.length_append, List.length_cons, List.length_nil, List.length_map, rangeI_length]; omega)) | (first | omega | (rw [← szL]; omega) | (simp only [List.length_append, List.length_cons, List.length_nil, List.length_map, rangeI_length, ← szL]; omega))), rfl, rfl⟩) za_nil))) fun v_2 F_4 H_4 s_6 r_3 => ?_
      exact q v_2 F_4 H_4 (by rw [hf]; exact (st.trans s_6)) (by rw [hf]; exact r_3)
theorem pick3 {cs : List Int} {s : Sto} : (pickT cs s ([(3 : Int), (20 : Int), (20000 : Int)] : List Int)).1 = 3 ∨ (pickT cs s ([(3 : Int), (20 : Int), (20000 : Int)] : List Int)).1 = 20 ∨ (pickT cs s ([(3 : Int), (20 : Int), (20000 : Int)] : List Int)).1 = 20000 := by
  have h := pickT_mem (cs := cs) (s := s) (xs := ([(3 : Int), (20 : Int), (20000 : Int)] : List Int)) (by simp)
  simp only [List.mem_cons, List.not_mem_nil, or_false] at h
  omega

/-! rod_picks -/
abbrev s_rod_picksP : Stmt := topS 1
theorem sc_rod_picksP : FnScope ["stock", "ask", "rod"] ["stock", "ask"] (defScope s_rod_picksP) := ⟨rfl, rfl, rfl, by decide +kernel, rfl, by decide +kernel, by decide +kernel⟩
def rod_picksP (stock : (List Int)) (ask : Int) : (List Int) :=
  (usI ((stock.filter (fun a_rod : Int => decide (ask ≤ a_rod))).map (fun a_rod : Int => a_rod)))
def A_rod_picksP : List PyData → List PyData → Prop := fun ds r => ∃ (stock : (List Int)) (ask : Int), ds = [(eL eI) stock, eI ask] ∧ (stock.length < 63) ∧ r = (rod_picksP stock ask).map eI
set_option maxHeartbeats 4000000 in
theorem ok_rod_picksP {P : Program} {w : World} {K : PySem.W.Frag} {mg : Str → Option Value} {base : Heap} (T : Top K mg) : Fn P w K mg base 1 "rod_picks" ["stock", "ask"] (spN K A_rod_picksP) := by
  obtain ⟨f, fd, F, gm⟩ := T.f_rod_picksP
  have sc := sc_rod_picksP
  refine ⟨f, fd, F.ok sc (fun vs H Q E h => ?_) (fun cdv A outer s0 H vs Q E hr h => ⟨_, PSs.nox pss_w, ?_⟩), gm, F.kp, F.bindsN (fun _ _ _ _ _ _ us hl => match us, hl with | [_, _], _ => rfl)⟩
  · obtain ⟨F, ds, r, w, ra, ⟨stock, ask, rfl, hpre, rfl⟩, q⟩ := h
    exact ra.len
  · obtain ⟨F, ds, r, w, ra, ⟨stock, ask, rfl, hpre, rfl⟩, q⟩ := h
    obtain ⟨v_stock, ws, rfl, r_stock, ra⟩ := ra.cons_inv
    obtain ⟨v_ask, ws, rfl, r_ask, ra⟩ := ra.cons_inv
    obtain rfl := ra.nil_inv
    have st := Stp.refl w
    have hf : rod_picksP stock ask = rod_picksP stock ask := rfl
    show ZS _ _ [some v_stock, some v_ask, none] H _
    refine zs_retN st.ok (zn_sortV rfl T.b_sorted (zv_scI (own := [("rod", 2)]) (B := (fun (a_rod : Int) (σ2 : L2.St) (F' : Hp) => ∃ (v_rod : V), σ2 = ((wipe [some v_stock, some v_ask, none] [2]).set 2 (some v_rod)) ∧ R K F' v_rod (eI a_rod))) (f0 := (fun a_rod : Int => a_rod)) (pr := (fun a_rod : Int => decide (ask ≤ a_rod))) (by /-1-/ exact hpre) rfl sc.nd (zi_list (ze_var 0 rfl r_stock)) ⟨(fun _ _ _ hBq => by obtain ⟨v_rod, rfl, r_rod⟩ := hBq; rfl), (fun _ _ _ _ hBq gg => by obtain ⟨v_rod, rfl, r_rod⟩ := hBq; exact ⟨v_rod, rfl, r_rod.mono gg⟩), (fun s H0 C cl fp a v F' O' H' Q _ w r k => zg_name (n := 2) sc.nd rfl (by first | exact Or.inl rfl | exact Or.inr rfl) (k _ ⟨v, rfl, r⟩))⟩ (fun _ _ _ _ _ a_rod _ _ hx_c g_c hBq => by obtain ⟨v_rod, rfl, r_rod⟩ := hBq; exact (zt_cm cm_ge (ze_var 2 rfl r_rod) (ze_var 1 rfl (r_ask.mono g_c)))) (fun _ _ _ _ _ a_rod _ _ hx_c hp_c g_c hBq => by obtain ⟨v_rod, rfl, r_rod⟩ := hBq; exact (ze_var 2 rfl r_rod)) (blkOk_by (N := ["stock", "ask", "rod"]) (sc := defScope (topS 1)) (by decide +kernel))) (by /-2-/ exact Nat.lt_of_le_of_lt (len_filter_map _ _ _) (by omega))) fun v us F_2 H_2 hp_2 s_2 r_2 => ?_
    exact q v us F_2 H_2 (st.newAt hp_2) (st.trans s_2) (by rw [hf]; exact r_2)
/-! rod_rest -/
abbrev s_rod_restP : Stmt := topS 2
theorem sc_rod_restP : FnScope ["saw", "rod", "ask", "rest"] ["saw", "rod", "ask"] (defScope s_rod_restP) := ⟨rfl, rfl, rfl, by decide +kernel, rfl, by decide +kernel, by decide +kernel⟩
def rod_restP_1 (rest : Int) : Int :=
  (cond (decide ((1 : Int) ≤ rest)) rest (0 : Int))
def rod_restP (saw : Int) (rod : Int) (ask : Int) : Int :=
  rod_restP_1 ((rod - ask) - saw)
def A_rod_restP : List PyData → PyData → Prop := fun ds r => ∃ (saw : Int) (rod : Int) (ask : Int), ds = [eI saw, eI rod, eI ask] ∧ r = eI (rod_restP saw rod ask)
set_option maxHeartbeats 4000000 in
theorem ok_rod_restP {P : Program} {w : World} {K : PySem.W.Frag} {mg : Str → Option Value} {base : Heap} (T : Top K mg) : Fn P w K mg base 1 "rod_rest" ["saw", "rod", "ask"] (spD K A_rod_restP) := by
  obtain ⟨f, fd, F, gm⟩ := T.f_rod_restP
  have sc := sc_rod_restP
  refine ⟨f, fd, F.ok sc (fun vs H Q E h => ?_) (fun cdv A outer s0 H vs Q E hr h => ⟨_, PSs.nox pss_w, ?_⟩), gm, F.kp, F.bindsN (fun _ _ _ _ _ _ us hl => match us, hl with | [_, _, _], _ => rfl)⟩
  · obtain ⟨F, ds, r, w, ra, ⟨saw, rod, ask, rfl, rfl⟩, q⟩ := h
    exact ra.len
  · obtain ⟨F, ds, r, w, ra, ⟨saw, rod, ask, rfl, rfl⟩, q⟩ := h
    obtain ⟨v_saw, ws, rfl, r_saw, ra⟩ := ra.cons_inv
    obtain ⟨v_rod, ws, rfl, r_rod, ra⟩ := ra.cons_inv
    obtain ⟨v_ask, ws, rfl, r_ask, ra⟩ := ra.cons_inv
    obtain rfl := ra.nil_inv
    have st := Stp.refl w
    have hf : rod_restP saw rod ask = rod_restP saw rod ask := rfl
    show ZS _ _ [some v_saw, some v_rod, some v_ask, none] H _
    refine zs_set (n := 3) st.ok (ze_sub (ze_sub (ze_var 1 rfl r_rod) (ze_var 2 rfl r_ask)) (ze_var 0 rfl r_saw)) sc.nd rfl (by first | exact Or.inl rfl | exact Or.inr rfl) fun v_rest F_2 H_2 s_2 r_rest => ?_
    obtain ⟨rest, hx_rest⟩ : ∃ z : Int, z = ((rod - ask) - saw) := ⟨_, rfl⟩
    have s_2 : Stp F [] H F_2 [] H_2 := by exact s_2
    have r_rest : R K F_2 v_rest (eI rest) := by subst hx_rest; exact r_rest
    have st := st.trans s_2
    have r_saw := r_saw.mono s_2.gr
    have r_rod := r_rod.mono s_2.gr
    have r_ask := r_ask.mono s_2.gr
    show ZS _ _ [some v_saw, some v_rod, some v_ask, some v_rest] H_2 _
    have hf : rod_restP saw rod ask = rod_restP_1 rest := by subst hx_rest; exact hf
    refine zs_if st.ok (zt_cm cm_ge (ze_var 3 rfl r_rest) ze_int) (fun hb F_3 H_3 s_3 => ?_) (fun hb F_3 H_3 s_3 => ?_)
    · have s_3 : Stp F_2 [] H_2 F_3 [] H_3 := by exact s_3
      have st := st.trans s_3
      have r_saw := r_saw.mono s_3.gr
      have r_rod := r_rod.mono s_3.gr
      have r_ask := r_ask.mono s_3.gr
      have r_rest := r_rest.mono s_3.gr
      have hf := hf.trans (cond_t hb)
      refine zs_ret st.ok (ze_var 3 rfl r_rest) fun v F_4 H_4 s_4 r_2 => ?_
      exact q v F_4 H_4 (st.trans s_4) (by rw [hf]; exact r_2)
    · have s_3 : Stp F_2 [] H_2 F_3 [] H_3 := by exact s_3
      have st := st.trans s_3
      have r_saw := r_saw.mono s_3.gr
      have r_rod := r_rod.mono s_3.gr
      have r_ask := r_ask.mono s_3.gr
      have r_rest := r_rest.mono s_3.gr
      have hf := hf.trans (cond_f hb)
      refine zs_nil ?_
      show ZS _ _ [some v_saw, some v_rod, some v_ask, some v_rest] H_3 _
      refine zs_ret st.ok ze_int fun v_2 F_5 H_5 s_5 r_3 => ?_
      exact q v_2 F_5 H_5 (st.trans s_5) (by rw [hf]; exact r_3)
/-! rod_leave -/
abbrev s_rod_leaveP : Stmt := topS 3
theorem sc_rod_leaveP : FnScope ["saw", "stock", "ask", "pick", "left", "rest"] ["saw", "stock", "ask", "pick"] (defScope s_rod_leaveP) := ⟨rfl, rfl, rfl, by decide +kernel, rfl, by decide +kernel, by decide +kernel⟩
def rod_leaveP_4 (j_left : (List Int)) : (List Int) :=
  (sortI j_left)
def rod_leaveP_5 (left_3 : (List Int)) : (List Int) :=
  rod_leaveP_4 left_3
def rod_leaveP_3 (left_2 : (List Int)) (rest : Int) : (List Int) :=
  (cond (decide ((1 : Int) ≤ rest)) (rod_leaveP_5 (left_2 ++ [rest])) (rod_leaveP_4 left_2))
def rod_leaveP_2 (saw : Int) (ask : Int) (pick : Int) (left_2 : (List Int)) : (List Int) :=
  rod_leaveP_3 left_2 (rod_restP saw pick ask)
def rod_leaveP_1 (saw : Int) (ask : Int) (pick : Int) (left : (List Int)) : (List Int) :=
  rod_leaveP_2 saw ask pick (left.erase pick)
def rod_leaveP (saw : Int) (stock : (List Int)) (ask : Int) (pick : Int) : (List Int) :=
  rod_leaveP_1 saw ask pick stock
def A_rod_leaveP : List PyData → List PyData → Prop := fun ds r => ∃ (saw : Int) (stock : (List Int)) (ask : Int) (pick : Int), ds = [eI saw, (eL eI) stock, eI ask, eI pick] ∧ (pick ∈ stock ∧ stock.length < 2 ^ 20) ∧ r = (rod_leaveP saw stock ask pick).map eI
set_option maxHeartbeats 4000000 in
theorem ok_rod_leaveP {P : Program} {w : World} {K : PySem.W.Frag} {mg : Str → Option Value} {base : Heap} (T : Top K mg) : Fn P w K mg base 2 "rod_leave" ["saw", "stock", "ask", "pick"] (spN K A_rod_leaveP) := by
  obtain ⟨f, fd, F, gm⟩ := T.f_rod_leaveP
  have sc := sc_rod_leaveP
  refine ⟨f, fd, F.ok sc (fun vs H Q E h => ?_) (fun cdv A outer s0 H vs Q E hr h => ⟨_, PSs.nox pss_w, ?_⟩), gm, F.kp, F.bindsN (fun _ _ _ _ _ _ us hl => match us, hl with | [_, _, _, _], _ => rfl)⟩
  · obtain ⟨F, ds, r, w, ra, ⟨saw, stock, ask, pick, rfl, hpre, rfl⟩, q⟩ := h
    exact ra.len
  · obtain ⟨F, ds, r, w, ra, ⟨saw, stock, ask, pick, rfl, hpre, rfl⟩, q⟩ := h
    obtain ⟨v_saw, ws, rfl, r_saw, ra⟩ := ra.cons_inv
    obtain ⟨v_stock, ws, rfl, r_stock, ra⟩ := ra.cons_inv
    obtain ⟨v_ask, ws, rfl, r_ask, ra⟩ := ra.cons_inv
    obtain ⟨v_pick, ws, rfl, r_pick, ra⟩ := ra.cons_inv
    obtain rfl := ra.nil_inv
    have st := Stp.refl w
    have hf : rod_leaveP saw stock ask pick = rod_leaveP saw stock ask pick := rfl
    show ZS _ _ [some v_saw, some v_stock, some v_ask, some v_pick, none, none] H _
    refine zs_setN (n := 4) st.ok (zn_list T.b_list (ze_var 1 rfl r_stock)) sc.nd rfl (by first | exact Or.inl rfl | exact Or.inr rfl) fun p_left us_left F_2 H_2 hp_2 s_2 r_left => ?_
    obtain ⟨left, hx_left⟩ : ∃ z : (List Int), z = stock := ⟨_, rfl⟩
    have hn := st.newAt hp_2
    have s_2 : Stp F [] H F_2 [(p_left, .lst us_left)] H_2 := by exact s_2
    have r_left : RA K F_2 us_left (left.map eI) := by subst hx_left; exact r_left
    have st := st.trans s_2
    have r_saw := r_saw.mono s_2.gr
    have r_stock := r_stock.mono s_2.gr
    have r_ask := r_ask.mono s_2.gr
    have r_pick := r_pick.mono s_2.gr
    show ZS _ _ [some v_saw, some v_stock, some v_ask, some v_pick, some (.ref p_left), none] H_2 _
    have hf : rod_leaveP saw stock ask pick = rod_leaveP_1 saw ask pick left := by subst hx_left; exact hf
    refine zs_removeI st.ok 4 0 rfl (ze_var 3 rfl r_pick) rfl r_left (by /-1-/ rw [hx_left]; exact hpre.1) fun F_3 H_3 s_3 => ?_
    obtain ⟨left_2, hx_left_2⟩ : ∃ z : (List Int), z = left.erase pick := ⟨_, rfl⟩
    have s_3 : Stp F_2 [(p_left, .lst us_left)] H_2 F_3 [(p_left, .lst (left_2.map V.int))] H_3 := by subst hx_left_2; exact s_3
    have r_left_2 : RA K F_3 (left_2.map V.int) (left_2.map eI) := ra_ints _
    have st := st.trans s_3
    have r_saw := r_saw.mono s_3.gr
    have r_stock := r_stock.mono s_3.gr
    have r_ask := r_ask.mono s_3.gr
    have r_pick := r_pick.mono s_3.gr
    show ZS _ _ [some v_saw, some v_stock, some v_ask, some v_pick, some (.ref p_left), none] H_3 _
    have hf : rod_leaveP saw stock ask pick = rod_leaveP_2 saw ask pick left_2 := by subst hx_left_2; exact hf
    refine zs_set (n := 5) st.ok (ze_callD (ok_rod_restP T) (hr.mono (by decide)) (za_cons (ze_var 0 rfl r_saw) (za_cons (ze_var 3 rfl r_pick) (za_cons (ze_var 2 rfl r_ask) za_nil))) ⟨saw, pick, ask, rfl, rfl⟩) sc.nd rfl (by first | exact Or.inl rfl | exact Or.inr rfl) fun v_rest F_4 H_4 s_4 r_rest => ?_
    obtain ⟨rest, hx_rest⟩ : ∃ z : Int, z = (rod_restP saw pick ask) := ⟨_, rfl⟩
    have s_4 : Stp F_3 [(p_left, .lst (left_2.map V.int))] H_3 F_4 [(p_left, .lst (left_2.map V.int))] H_4 := by exact s_4
    have r_rest : R K F_4 v_rest (eI rest) := by subst hx_rest; exact r_rest
    have st := st.trans s_4
    have r_saw := r_saw.mono s_4.gr
    have r_stock := r_stock.mono s_4.gr
    have r_ask := r_ask.mono s_4.gr
    have r_pick := r_pick.mono s_4.gr
    have r_left_2 := r_left_2.mono s_4.gr
    show ZS _ _ [some v_saw, some v_stock, some v_ask, some v_pick, some (.ref p_left), some v_rest] H_4 _
    have hf : rod_leaveP saw stock ask pick = rod_leaveP_3 left_2 rest := by subst hx_rest; exact hf
    refine zs_ifJ st.ok (zt_cm cm_ge (ze_var 5 rfl r_rest) ze_int) (fun σ H' => ∃ (j_left : (List Int)) (F : Hp) (O : Own), rod_leaveP saw stock ask pick = rod_leaveP_4 j_left ∧ Stp F_4 [(p_left, .lst (left_2.map V.int))] H_4 F O H' ∧ ∃ (w1 : List V), σ = [some v_saw, some v_stock, some v_ask, some v_pick, some (.ref p_left), some v_rest] ∧ O = [(p_left, .lst w1)] ∧ RA K F w1 (j_left.map eI) ∧ True) (fun hb F_5 H_5 s_5 => ?_) (fun hb F_5 H_5 s_5 => ?_) (fun σ H_6 hJ => ?_)
    · have s_5 : Stp F_4 [(p_left, .lst (left_2.map V.int))] H_4 F_5 [(p_left, .lst (left_2.map V.int))] H_5 := by exact s_5
      have sj := s_5
      have st := st.trans s_5
      have r_saw := r_saw.mono s_5.gr
      have r_stock := r_stock.mono s_5.gr
      have r_ask := r_ask.mono s_5.gr
      have r_pick := r_pick.mono s_5.gr
      have r_left_2 := r_left_2.mono s_5.gr
      have r_rest := r_rest.mono s_5.gr
      have hf := hf.trans (cond_t hb)
      have hl : ((left_2.map V.int)).length = left_2.length := by have h := r_left_2.len; exact h.trans (by rw [List.length_map])
      refine zs_append st.ok 4 0 rfl (ze_var 5 rfl r_rest) rfl (by rw [hl]; exact (by /-2-/ rw [← szL, hx_left_2]; have h8 : (left.erase pick).length ≤ left.length := List.length_erase_le; rw [hx_left] at h8 ⊢; omega)) fun v_2 F_9 H_8 s_8 r_3 => ?_
      obtain ⟨left_3, hx_left_3⟩ : ∃ z : (List Int), z = left_2 ++ [rest] := ⟨_, rfl⟩
      obtain ⟨us_left_3, hus_left_3⟩ : ∃ z, z = (left_2.map V.int) ++ [v_2] := ⟨_, rfl⟩
      have s_8 : Stp F_5 [(p_left, .lst (left_2.map V.int))] H_5 F_9 [(p_left, .lst us_left_3)] H_8 := by subst hus_left_3; exact s_8
      have r_left_5 : RA K F_9 us_left_3 (left_3.map eI) := by rw [hus_left_3, hx_left_3, List.map_append]; exact (r_left_2.mono s_8.gr).snoc r_3
      have st := st.trans s_8
      have sj := sj.trans s_8
      have r_saw := r_saw.mono s_8.gr
      have r_stock := r_stock.mono s_8.gr
      have r_ask := r_ask.mono s_8.gr
      have r_pick := r_pick.mono s_8.gr
      have r_rest := r_rest.mono s_8.gr
      show ZS _ _ [some v_saw, some v_stock, some v_ask, some v_pick, some (.ref p_left), some v_rest] H_8 _
      have hf : rod_leaveP saw stock ask pick = rod_leaveP_5 left_3 := by subst hx_left_3; exact hf
      refine zs_nil ?_
      exact ⟨left_3, _, _, hf, sj, us_left_3, rfl, rfl, r_left_5, trivial⟩
    · have s_5 : Stp F_4 [(p_left, .lst (left_2.map V.int))] H_4 F_5 [(p_left, .lst (left_2.map V.int))] H_5 := by exact s_5
      have sj := s_5
      have st := st.trans s_5
      have r_saw := r_saw.mono s_5.gr
      have r_stock := r_stock.mono s_5.gr
      have r_ask := r_ask.mono s_5.gr
      have r_pick := r_pick.mono s_5.gr
      have r_left_2 := r_left_2.mono s_5.gr
      have r_rest := r_rest.mono s_5.gr
      have hf := hf.trans (cond_f hb)
      refine zs_nil ?_
      exact ⟨left_2, _, _, hf, sj, (left_2.map V.int), rfl, rfl, r_left_2, trivial⟩
    · obtain ⟨j_left, F_6, O_2, hf, s_6, hJ⟩ := hJ
      obtain ⟨us_left_2, rfl, rfl, r_left_3, hinv⟩ := hJ
      have r_left_3 : RA K _ us_left_2 (j_left.map eI) := r_left_3
      have st := st.trans s_6
      have r_saw := r_saw.mono s_6.gr
      have r_stock := r_stock.mono s_6.gr
      have r_ask := r_ask.mono s_6.gr
      have r_pick := r_pick.mono s_6.gr
      have r_rest := r_rest.mono s_6.gr
      show ZS _ _ [some v_saw, some v_stock, some v_ask, some v_pick, some (.ref p_left), some v_rest] H_6 _
      have gz : Gr F_6 (upd F_6 p_left (.lst us_left_2)) := Gr.upd (st.ok.at_ (k := 0) rfl).2
      have r_left_4 : R K (upd F_6 p_left (.lst us_left_2)) (.ref p_left) (eL eI j_left) := (r_left_3.mono gz).lst upd_same
      have st : Stp _ _ _ (upd F_6 p_left (.lst us_left_2)) [] H_6 := st.freezeAt 0 rfl hn
      have r_saw := r_saw.mono gz
      have r_stock := r_stock.mono gz
      have r_ask := r_ask.mono gz
      have r_pick := r_pick.mono gz
      have r_rest := r_rest.mono gz
      show ZS _ _ [some v_saw, some v_stock, some v_ask, some v_pick, some (.ref p_left), some v_rest] H_6 _
      refine zs_retN st.ok (zn_sortI T.b_sorted (ze_var 4 rfl r_left_4)) fun v us F_8 H_7 hp_3 s_7 r_2 => ?_
      exact q v us F_8 H_7 (st.newAt hp_3) (st.trans s_7) (by rw [hf]; exact r_2)
/-! load -/
abbrev s_loadP : Stmt := topS 4
theorem sc_loadP : FnScope ["saw", "asks", "ask"] ["saw", "asks"] (defScope s_loadP) := ⟨rfl, rfl, rfl, by decide +kernel, rfl, by decide +kernel, by decide +kernel⟩
def loadP (saw : Int) (asks : (List Int)) : Int :=
  (asks.map (fun a_ask : Int => (a_ask + saw))).sum
def A_loadP : List PyData → PyData → Prop := fun ds r => ∃ (saw : Int) (asks : (List Int)), ds = [eI saw, (eL eI) asks] ∧ (asks.length < 2 ^ 20) ∧ r = eI (loadP saw asks)
set_option maxHeartbeats 4000000 in
theorem ok_loadP {P : Program} {w : World} {K : PySem.W.Frag} {mg : Str → Option Value} {base : Heap} (T : Top K mg) : Fn P w K mg base 1 "load" ["saw", "asks"] (spD K A_loadP) := by
  obtain ⟨f, fd, F, gm⟩ := T.f_loadP
  have sc := sc_loadP
  refine ⟨f, fd, F.ok sc (fun vs H Q E h => ?_) (fun cdv A outer s0 H vs Q E hr h => ⟨_, PSs.nox pss_w, ?_⟩), gm, F.kp, F.bindsN (fun _ _ _ _ _ _ us hl => match us, hl with | [_, _], _ => rfl)⟩
  · obtain ⟨F, ds, r, w, ra, ⟨saw, asks, rfl, hpre, rfl⟩, q⟩ := h
    exact ra.len
  · obtain ⟨F, ds, r, w, ra, ⟨saw, asks, rfl, hpre, rfl⟩, q⟩ := h
    obtain ⟨v_saw, ws, rfl, r_saw, ra⟩ := ra.cons_inv
    obtain ⟨v_asks, ws, rfl, r_asks, ra⟩ := ra.cons_inv
    obtain rfl := ra.nil_inv
    have st := Stp.refl w
    have hf : loadP saw asks = loadP saw asks := rfl
    show ZS _ _ [some v_saw, some v_asks, none] H _
    refine zs_ret st.ok (ze_sum rfl T.b_sum (zn_ze (zn_lcM (n := 2) (f0 := (fun a_ask : Int => (a_ask + saw))) (encR := eI) rfl sc.nd (zi_list (ze_var 1 rfl r_asks)) (fun _ _ _ _ _ a_ask v_a_ask _ h_a_ask g_c r_a_ask => (ze_add (ze_var 2 rfl r_a_ask) (ze_var 0 rfl (r_saw.mono g_c)))) (blkOk_by (N := ["saw", "asks", "ask"]) (sc := defScope (topS 4)) (by decide +kernel)) (fun _ _ _ _ _ => pg_name (i := 2) sc.nd rfl (Or.inl rfl))))) fun v F_2 H_2 s_2 r_2 => ?_
    exact q v F_2 H_2 (st.trans s_2) (by rw [hf]; exact r_2)
/-! bears -/
abbrev s_bearsP : Stmt := topS 5
theorem sc_bearsP : FnScope ["saw", "rod", "asks"] ["saw", "rod", "asks"] (defScope s_bearsP) := ⟨rfl, rfl, rfl, by decide +kernel, rfl, by decide +kernel, by decide +kernel⟩
def bearsP (saw : Int) (rod : Int) (asks : (List Int)) : Bool :=
  decide ((loadP saw asks) ≤ (rod + saw))
def A_bearsP : List PyData → PyData → Prop := fun ds r => ∃ (saw : Int) (rod : Int) (asks : (List Int)), ds = [eI saw, eI rod, (eL eI) asks] ∧ (asks.length < 2 ^ 20) ∧ r = eB (bearsP saw rod asks)
set_option maxHeartbeats 4000000 in
theorem ok_bearsP {P : Program} {w : World} {K : PySem.W.Frag} {mg : Str → Option Value} {base : Heap} (T : Top K mg) : Fn P w K mg base 2 "bears" ["saw", "rod", "asks"] (spD K A_bearsP) := by
  obtain ⟨f, fd, F, gm⟩ := T.f_bearsP
  have sc := sc_bearsP
  refine ⟨f, fd, F.ok sc (fun vs H Q E h => ?_) (fun cdv A outer s0 H vs Q E hr h => ⟨_, PSs.nox pss_w, ?_⟩), gm, F.kp, F.bindsN (fun _ _ _ _ _ _ us hl => match us, hl with | [_, _, _], _ => rfl)⟩
  · obtain ⟨F, ds, r, w, ra, ⟨saw, rod, asks, rfl, hpre, rfl⟩, q⟩ := h
    exact ra.len
  · obtain ⟨F, ds, r, w, ra, ⟨saw, rod, asks, rfl, hpre, rfl⟩, q⟩ := h
    obtain ⟨v_saw, ws, rfl, r_saw, ra⟩ := ra.cons_inv
    obtain ⟨v_rod, ws, rfl, r_rod, ra⟩ := ra.cons_inv
    obtain ⟨v_asks, ws, rfl, r_asks, ra⟩ := ra.cons_inv
    obtain rfl := ra.nil_inv
    have st := Stp.refl w
    have hf : bearsP saw rod asks = bearsP saw rod asks := rfl
    show ZS _ _ [some v_saw, some v_rod, some v_asks] H _
    refine zs_ret st.ok (ze_cm cm_le (ze_callD (ok_loadP T) (hr.mono (by decide)) (za_cons (ze_var 0 rfl r_saw) (za_cons (ze_var 2 rfl r_asks) za_nil)) ⟨saw, asks, rfl, (by /-1-/ first | (first | omega | (simp only [List.length_append, List.length_cons, List.length_nil, List.length_map, rangeI_length]; omega)) | (first | omega | (rw [← szL]; omega) | (simp only [List.length_append, List.length_cons, List.length_nil, List.length_map, rangeI_length, ← szL]; omega))), rfl⟩) (ze_add (ze_var 1 rfl r_rod) (ze_var 0 rfl r_saw))) fun v F_2 H_2 s_2 r_2 => ?_
    exact q v F_2 H_2 (st.trans s_2) (by rw [hf]; exact r_2)
/-! cut_rod -/
abbrev s_cut_rodP : Stmt := topS 6
theorem sc_cut_rodP : FnScope ["saw", "rod", "asks", "left", "ask"] ["saw", "rod", "asks"] (defScope s_cut_rodP) := ⟨rfl, rfl, rfl, by decide +kernel, rfl, by decide +kernel, by decide +kernel⟩
def cut_rodP_2 (left_3 : Int) : Turn (Int) (Option Int) :=
  .nx left_3
def cut_rodP_L1b (saw : Int) (left_2 : Int) (ask : Int) : Turn (Int) (Option Int) :=
  (cond (decide (left_2 < ask)) (.rt none) (cut_rodP_2 (rod_restP saw left_2 ask)))
def cut_rodP_L1 (saw : Int) (b : (Int)) (a : Int) : Turn (Int) (Option Int) :=
  cut_rodP_L1b saw b a
def cut_rodP_3 (b : (Int)) : (Option Int) :=
  (some b)
def cut_rodP_1 (saw : Int) (asks : (List Int)) (left : Int) : (Option Int) :=
  outE (loopT (cut_rodP_L1 saw) left asks) cut_rodP_3 (fun r => r)
def cut_rodP (saw : Int) (rod : Int) (asks : (List Int)) : (Option Int) :=
  cut_rodP_1 saw asks rod
def A_cut_rodP : List PyData → PyData → Prop := fun ds r => ∃ (saw : Int) (rod : Int) (asks : (List Int)), ds = [eI saw, eI rod, (eL eI) asks] ∧ (asks.length < 2 ^ 20) ∧ r = (eO eI) (cut_rodP saw rod asks)
set_option maxHeartbeats 4000000 in
theorem ok_cut_rodP {P : Program} {w : World} {K : PySem.W.Frag} {mg : Str → Option Value} {base : Heap} (T : Top K mg) : Fn P w K mg base 2 "cut_rod" ["saw", "rod", "asks"] (spD K A_cut_rodP) := by
  obtain ⟨f, fd, F, gm⟩ := T.f_cut_rodP
  have sc := sc_cut_rodP
  refine ⟨f, fd, F.ok sc (fun vs H Q E h => ?_) (fun cdv A outer s0 H vs Q E hr h => ⟨_, PSs.nox pss_w, ?_⟩), gm, F.kp, F.bindsN (fun _ _ _ _ _ _ us hl => match us, hl with | [_, _, _], _ => rfl)⟩
  · obtain ⟨F, ds, r, w, ra, ⟨saw, rod, asks, rfl, hpre, rfl⟩, q⟩ := h
    exact ra.len
  · obtain ⟨F, ds, r, w, ra, ⟨saw, rod, asks, rfl, hpre, rfl⟩, q⟩ := h
    obtain ⟨v_saw, ws, rfl, r_saw, ra⟩ := ra.cons_inv
    obtain ⟨v_rod, ws, rfl, r_rod, ra⟩ := ra.cons_inv
    obtain ⟨v_asks, ws, rfl, r_asks, ra⟩ := ra.cons_inv
    obtain rfl := ra.nil_inv
    have st := Stp.refl w
    have hf : cut_rodP saw rod asks = cut_rodP saw rod asks := rfl
    show ZS _ _ [some v_saw, some v_rod, some v_asks, none, none] H _
    refine zs_set (n := 3) st.ok (ze_var 1 rfl r_rod) sc.nd rfl (by first | exact Or.inl rfl | exact Or.inr rfl) fun v_left F_2 H_2 s_2 r_left => ?_
    obtain ⟨left, hx_left⟩ : ∃ z : Int, z = rod := ⟨_, rfl⟩
    have s_2 : Stp F [] H F_2 [] H_2 := by exact s_2
    have r_left : R K F_2 v_left (eI left) := by subst hx_left; exact r_left
    have st := st.trans s_2
    have r_saw := r_saw.mono s_2.gr
    have r_rod := r_rod.mono s_2.gr
    have r_asks := r_asks.mono s_2.gr
    show ZS _ _ [some v_saw, some v_rod, some v_asks, some v_left, none] H_2 _
    have hf : cut_rodP saw rod asks = cut_rodP_1 saw asks left := by subst hx_left; exact hf
    refine zs_forT (f := (cut_rodP_L1 saw)) (b0 := left) st.ok PassesOwn.never rfl (zi_list (ze_var 2 rfl r_asks)) (fun iq b σ F O => ∃ (w1 : V) (z2 : Option V), σ = [some v_saw, some v_rod, some v_asks, some w1, z2] ∧ O = [] ∧ R K F w1 (eI b) ∧ True) (fun F_10 H_9 s_9 => ⟨v_left, none, rfl, rfl, r_left.mono s_9.gr, trivial⟩) (fun i b ask v σ F_3 F_4 O_2 H_3 ha hbe hz rel g s_3 r_2 => ?_) (fun j b_2 σ_2 F_8 O_3 H_7 hb_2 s_7 rel_2 => ?_)
    · skip
      obtain ⟨left_2, rfl⟩ : ∃ z, z = b := ⟨_, rfl⟩
      obtain ⟨v_left_2, z_ask, rfl, rfl, r_left_2, hinv⟩ := rel
      have r_left_2 : R K _ v_left_2 (eI left_2) := r_left_2
      have st := st.trans s_3
      have r_saw := r_saw.mono s_3.gr
      have r_rod := r_rod.mono s_3.gr
      have r_asks := r_asks.mono s_3.gr
      have r_left_2 := r_left_2.mono g
      have hlt_i := (List.getElem?_eq_some_iff.mp ha).1
      have sb : Stp F_4 [] H_3 F_4 [] H_3 := Stp.refl st.ok
      have hfb : cut_rodP_L1 saw left_2 ask = cut_rodP_L1b saw left_2 ask := rfl
      refine zg_name (n := 4) sc.nd rfl (by first | exact Or.inl rfl | exact Or.inr rfl) ?_
      show ZS _ _ [some v_saw, some v_rod, some v_asks, some v_left_2, some v] H_3 _
      refine zs_if st.ok (zt_cm cm_lt (ze_var 3 rfl r_left_2) (ze_var 4 rfl r_2)) (fun hb F_5 H_4 s_4 => ?_) (fun hb F_5 H_4 s_4 => ?_)
      · have s_4 : Stp F_4 [] H_3 F_5 [] H_4 := by exact s_4
        have st := st.trans s_4
        have sb := sb.trans s_4
        have r_saw := r_saw.mono s_4.gr
        have r_rod := r_rod.mono s_4.gr
        have r_asks := r_asks.mono s_4.gr
        have r_left_2 := r_left_2.mono s_4.gr
        have r_2 := r_2.mono s_4.gr
        have hfb := hfb.trans (cond_t hb)
        refine zs_ret st.ok ze_non fun v_2 F_6 H_5 s_5 r_3 => ?_
        have hret := hf.trans (outE_rt (hbe.trans (loopT_rt hfb)))
        have hret_2 : cut_rodP saw rod asks = none := hret
        exact q v_2 F_6 H_5 (st.trans s_5) (by rw [hret_2]; exact r_3)
      · have s_4 : Stp F_4 [] H_3 F_5 [] H_4 := by exact s_4
        have st := st.trans s_4
        have sb := sb.trans s_4
        have r_saw := r_saw.mono s_4.gr
        have r_rod := r_rod.mono s_4.gr
        have r_asks := r_asks.mono s_4.gr
        have r_left_2 := r_left_2.mono s_4.gr
        have r_2 := r_2.mono s_4.gr
        have hfb := hfb.trans (cond_f hb)
        refine zs_nil ?_
        show ZS _ _ [some v_saw, some v_rod, some v_asks, some v_left_2, some v] H_4 _
        refine zs_set (n := 3) st.ok (ze_callD (ok_rod_restP T) (hr.mono (by decide)) (za_cons (ze_var 0 rfl r_saw) (za_cons (ze_var 3 rfl r_left_2) (za_cons (ze_var 4 rfl r_2) za_nil))) ⟨saw, left_2, ask, rfl, rfl⟩) sc.nd rfl (by first | exact Or.inl rfl | exact Or.inr rfl) fun v_left_3 F_7 H_6 s_6 r_left_3 => ?_
        obtain ⟨left_3, hx_left_3⟩ : ∃ z : Int, z = (rod_restP saw left_2 ask) := ⟨_, rfl⟩
        have s_6 : Stp F_5 [] H_4 F_7 [] H_6 := by exact s_6
        have r_left_3 : R K F_7 v_left_3 (eI left_3) := by subst hx_left_3; exact r_left_3
        have st := st.trans s_6
        have sb := sb.trans s_6
        have r_saw := r_saw.mono s_6.gr
        have r_rod := r_rod.mono s_6.gr
        have r_asks := r_asks.mono s_6.gr
        have r_2 := r_2.mono s_6.gr
        show ZS _ _ [some v_saw, some v_rod, some v_asks, some v_left_3, some v] H_6 _
        have hfb : cut_rodP_L1 saw left_2 ask = cut_rodP_2 left_3 := by subst hx_left_3; exact hfb
        refine zs_nil ?_
        exact ⟨left_3, _, _, hfb, sb, v_left_3, some v, rfl, rfl, r_left_3, trivial⟩
    · skip
      obtain ⟨left_4, rfl⟩ : ∃ z, z = b_2 := ⟨_, rfl⟩
      obtain ⟨v_left_4, z_ask_2, rfl, rfl, r_left_4, hinv_2⟩ := rel_2
      have r_left_4 : R K _ v_left_4 (eI left_4) := r_left_4
      have st := st.trans s_7
      have r_saw := r_saw.mono s_7.gr
      have r_rod := r_rod.mono s_7.gr
      have r_asks := r_asks.mono s_7.gr
      have hf : cut_rodP saw rod asks = cut_rodP_3 left_4 := hf.trans (outE_nx hb_2)
      show ZS _ _ [some v_saw, some v_rod, some v_asks, some v_left_4, z_ask_2] H_7 _
      refine zs_ret st.ok (ze_var 3 rfl r_left_4) fun v_3 F_9 H_8 s_8 r_4 => ?_
      exact q v_3 F_9 H_8 (st.trans s_8) (by rw [hf]; exact r_4)
/-! rod_beats -/
abbrev s_rod_beatsP : Stmt := topS 7
theorem sc_rod_beatsP : FnScope ["saw", "ask", "pick", "other"] ["saw", "ask", "pick", "other"] (defScope s_rod_beatsP) := ⟨rfl, rfl, rfl, by decide +kernel, rfl, by decide +kernel, by decide +kernel⟩
def rod_beatsP (saw : Int) (ask : Int) (pick : Int) (other : Int) : Bool :=
  (cond (decide (pick = other)) true (decide (pick < other) && (decide (pick = ask) || decide (other ≤ (ask + saw)))))
def A_rod_beatsP : List PyData → PyData → Prop := fun ds r => ∃ (saw : Int) (ask : Int) (pick : Int) (other : Int), ds = [eI saw, eI ask, eI pick, eI other] ∧ r = eB (rod_beatsP saw ask pick other)
set_option maxHeartbeats 4000000 in
theorem ok_rod_beatsP {P : Program} {w : World} {K : PySem.W.Frag} {mg : Str → Option Value} {base : Heap} (T : Top K mg) : Fn P w K mg base 1 "rod_beats" ["saw", "ask", "pick", "other"] (spD K A_rod_beatsP) := by
  obtain ⟨f, fd, F, gm⟩ := T.f_rod_beatsP
  have sc := sc_rod_beatsP
  refine ⟨f, fd, F.ok sc (fun vs H Q E h => ?_) (fun cdv A outer s0 H vs Q E hr h => ⟨_, PSs.nox pss_w, ?_⟩), gm, F.kp, F.bindsN (fun _ _ _ _ _ _ us hl => match us, hl with | [_, _, _, _], _ => rfl)⟩
  · obtain ⟨F, ds, r, w, ra, ⟨saw, ask, pick, other, rfl, rfl⟩, q⟩ := h
    exact ra.len
  · obtain ⟨F, ds, r, w, ra, ⟨saw, ask, pick, other, rfl, rfl⟩, q⟩ := h
    obtain ⟨v_saw, ws, rfl, r_saw, ra⟩ := ra.cons_inv
    obtain ⟨v_ask, ws, rfl, r_ask, ra⟩ := ra.cons_inv
    obtain ⟨v_pick, ws, rfl, r_pick, ra⟩ := ra.cons_inv
    obtain ⟨v_other, ws, rfl, r_other, ra⟩ := ra.cons_inv
    obtain rfl := ra.nil_inv
    have st := Stp.refl w
    have hf : rod_beatsP saw ask pick other = rod_beatsP saw ask pick other := rfl
    show ZS _ _ [some v_saw, some v_ask, some v_pick, some v_other] H _
    refine zs_if st.ok (zt_cm cm_eqI (ze_var 2 rfl r_pick) (ze_var 3 rfl r_other)) (fun hb F_2 H_2 s_2 => ?_) (fun hb F_2 H_2 s_2 => ?_)
    · have s_2 : Stp F [] H F_2 [] H_2 := by exact s_2
      have st := st.trans s_2
      have r_saw := r_saw.mono s_2.gr
      have r_ask := r_ask.mono s_2.gr
      have r_pick := r_pick.mono s_2.gr
      have r_other := r_other.mono s_2.gr
      have hf := hf.trans (cond_t hb)
      refine zs_ret st.ok ze_bl fun v F_3 H_3 s_3 r_2 => ?_
      exact q v F_3 H_3 (st.trans s_3) (by rw [hf]; exact r_2)
    · have s_2 : Stp F [] H F_2 [] H_2 := by exact s_2
      have st := st.trans s_2
      have r_saw := r_saw.mono s_2.gr
      have r_ask := r_ask.mono s_2.gr
      have r_pick := r_pick.mono s_2.gr
      have r_other := r_other.mono s_2.gr
      have hf := hf.trans (cond_f hb)
      refine zs_nil ?_
      show ZS _ _ [some v_saw, some v_ask, some v_pick, some v_other] H_2 _
      refine zs_ret st.ok (ze_and (ze_cm cm_lt (ze_var 2 rfl r_pick) (ze_var 3 rfl r_other)) fun hb => (ze_one (ze_or (ze_cm cm_eqI (ze_var 2 rfl r_pick) (ze_var 1 rfl r_ask)) fun hb => (ze_one (ze_cm cm_le (ze_var 3 rfl r_other) (ze_add (ze_var 1 rfl r_ask) (ze_var 0 rfl r_saw))))))) fun v_2 F_4 H_4 s_4 r_3 => ?_
      exact q v_2 F_4 H_4 (st.trans s_4) (by rw [hf]; exact r_3)
/-! rod_reason -/
abbrev s_rod_reasonP : Stmt := topS 8
theorem sc_rod_reasonP : FnScope ["saw", "ask", "pick", "other"] ["saw", "ask", "pick", "other"] (defScope s_rod_reasonP) := ⟨rfl, rfl, rfl, by decide +kernel, rfl, by decide +kernel, by decide +kernel⟩
def rod_reasonP (saw : Int) (ask : Int) (pick : Int) (other : Int) : Str :=
  (cond (decide (pick = other)) (Str.ofString "same") (cond (decide (other < pick)) (Str.ofString "longer") (cond (!(rod_beatsP saw ask pick other)) (Str.ofString "rest") (cond (decide (pick = ask)) (Str.ofString "exact") (Str.ofString "right")))))
def A_rod_reasonP : List PyData → PyData → Prop := fun ds r => ∃ (saw : Int) (ask : Int) (pick : Int) (other : Int), ds = [eI saw, eI ask, eI pick, eI other] ∧ r = eS (rod_reasonP saw ask pick other)
set_option maxHeartbeats 4000000 in
theorem ok_rod_reasonP {P : Program} {w : World} {K : PySem.W.Frag} {mg : Str → Option Value} {base : Heap} (T : Top K mg) : Fn P w K mg base 2 "rod_reason" ["saw", "ask", "pick", "other"] (spD K A_rod_reasonP) := by
  obtain ⟨f, fd, F, gm⟩ := T.f_rod_reasonP
  have sc := sc_rod_reasonP
  refine ⟨f, fd, F.ok sc (fun vs H Q E h => ?_) (fun cdv A outer s0 H vs Q E hr h => ⟨_, PSs.nox pss_w, ?_⟩), gm, F.kp, F.bindsN (fun _ _ _ _ _ _ us hl => match us, hl with | [_, _, _, _], _ => rfl)⟩
  · obtain ⟨F, ds, r, w, ra, ⟨saw, ask, pick, other, rfl, rfl⟩, q⟩ := h
    exact ra.len
  · obtain ⟨F, ds, r, w, ra, ⟨saw, ask, pick, other, rfl, rfl⟩, q⟩ := h
    obtain ⟨v_saw, ws, rfl, r_saw, ra⟩ := ra.cons_inv
    obtain ⟨v_ask, ws, rfl, r_ask, ra⟩ := ra.cons_inv
    obtain ⟨v_pick, ws, rfl, r_pick, ra⟩ := ra.cons_inv
    obtain ⟨v_other, ws, rfl, r_other, ra⟩ := ra.cons_inv
    obtain rfl := ra.nil_inv
    have st := Stp.refl w
    have hf : rod_reasonP saw ask pick other = rod_reasonP saw ask pick other := rfl
    show ZS _ _ [some v_saw, some v_ask, some v_pick, some v_other] H _
    refine zs_if st.ok (zt_cm cm_eqI (ze_var 2 rfl r_pick) (ze_var 3 rfl r_other)) (fun hb F_2 H_2 s_2 => ?_) (fun hb F_2 H_2 s_2 => ?_)
    · have s_2 : Stp F [] H F_2 [] H_2 := by exact s_2
      have st := st.trans s_2
      have r_saw := r_saw.mono s_2.gr
      have r_ask := r_ask.mono s_2.gr
      have r_pick := r_pick.mono s_2.gr
      have r_other := r_other.mono s_2.gr
      have hf := hf.trans (cond_t hb)
      refine zs_ret st.ok ze_str fun v F_3 H_3 s_3 r_2 => ?_
      exact q v F_3 H_3 (st.trans s_3) (by rw [hf]; exact r_2)
    · have s_2 : Stp F [] H F_2 [] H_2 := by exact s_2
      have st := st.trans s_2
      have r_saw := r_saw.mono s_2.gr
      have r_ask := r_ask.mono s_2.gr
      have r_pick := r_pick.mono s_2.gr
      have r_other := r_other.mono s_2.gr
      have hf := hf.trans (cond_f hb)
      refine zs_nil ?_
      show ZS _ _ [some v_saw, some v_ask, some v_pick, some v_other] H_2 _
      refine zs_if st.ok (zt_cm cm_gt (ze_var 2 rfl r_pick) (ze_var 3 rfl r_other)) (fun hb_2 F_4 H_4 s_4 => ?_) (fun hb_2 F_4 H_4 s_4 => ?_)
      · have s_4 : Stp F_2 [] H_2 F_4 [] H_4 := by exact s_4
        have st := st.trans s_4
        have r_saw := r_saw.mono s_4.gr
        have r_ask := r_ask.mono s_4.gr
        have r_pick := r_pick.mono s_4.gr
        have r_other := r_other.mono s_4.gr
        have hf := hf.trans (cond_t hb_2)
        refine zs_ret st.ok ze_str fun v_2 F_5 H_5 s_5 r_3 => ?_
        exact q v_2 F_5 H_5 (st.trans s_5) (by rw [hf]; exact r_3)
      · have s_4 : Stp F_2 [] H_2 F_4 [] H_4 := by exact s_4
        have st := st.trans s_4
        have r_saw := r_saw.mono s_4.gr
        have r_ask := r_ask.mono s_4.gr
        have r_pick := r_pick.mono s_4.gr
        have r_other := r_other.mono s_4.gr
        have hf := hf.trans (cond_f hb_2)
        refine zs_nil ?_
        show ZS _ _ [some v_saw, some v_ask, some v_pick, some v_other] H_4 _
        refine zs_if st.ok (zt_not (zt_val (ze_callD (ok_rod_beatsP T) (hr.mono (by decide)) (za_cons (ze_var 0 rfl r_saw) (za_cons (ze_var 1 rfl r_ask) (za_cons (ze_var 2 rfl r_pick) (za_cons (ze_var 3 rfl r_other) za_nil)))) ⟨saw, ask, pick, other, rfl, rfl⟩))) (fun hb_3 F_6 H_6 s_6 => ?_) (fun hb_3 F_6 H_6 s_6 => ?_)
        · have s_6 : Stp F_4 [] H_4 F_6 [] H_6 := by exact s_6
          have st := st.trans s_6
          have r_saw := r_saw.mono s_6.gr
          have r_ask := r_ask.mono s_6.gr
          have r_pick := r_pick.mono s_6.gr
          have r_other := r_other.mono s_6.gr
          have hf := hf.trans (cond_t hb_3)
          refine zs_ret st.ok ze_str fun v_3 F_7 H_7 s_7 r_4 => ?_
          exact q v_3 F_7 H_7 (st.trans s_7) (by rw [hf]; exact r_4)
        · have s_6 : Stp F_4 [] H_4 F_6 [] H_6 := by exact s_6
          have st := st.trans s_6
          have r_saw := r_saw.mono s_6.gr
          have r_ask := r_ask.mono s_6.gr
          have r_pick := r_pick.mono s_6.gr
          have r_other := r_other.mono s_6.gr
          have hf := hf.trans (cond_f hb_3)
          refine zs_nil ?_
          show ZS _ _ [some v_saw, some v_ask, some v_pick, some v_other] H_6 _
          refine zs_if st.ok (zt_cm cm_eqI (ze_var 2 rfl r_pick) (ze_var 1 rfl r_ask)) (fun hb_4 F_8 H_8 s_8 => ?_) (fun hb_4 F_8 H_8 s_8 => ?_)
          · have s_8 : Stp F_6 [] H_6 F_8 [] H_8 := by exact s_8
            have st := st.trans s_8
            have r_saw := r_saw.mono s_8.gr
            have r_ask := r_ask.mono s_8.gr
            have r_pick := r_pick.mono s_8.gr
            have r_other := r_other.mono s_8.gr
            have hf := hf.trans (cond_t hb_4)
            refine zs_ret st.ok ze_str fun v_4 F_9 H_9 s_9 r_5 => ?_
            exact q v_4 F_9 H_9 (st.trans s_9) (by rw [hf]; exact r_5)
          · have s_8 : Stp F_6 [] H_6 F_8 [] H_8 := by exact s_8
            have st := st.trans s_8
            have r_saw := r_saw.mono s_8.gr
            have r_ask := r_ask.mono s_8.gr
            have r_pick := r_pick.mono s_8.gr
            have r_other := r_other.mono s_8.gr
            have hf := hf.trans (cond_f hb_4)
            refine zs_nil ?_
            show ZS _ _ [some v_saw, some v_ask, some v_pick, some v_other] H_8 _
            refine zs_ret st.ok ze_str fun v_5 F_10 H_10 s_10 r_6 => ?_
            exact q v_5 F_10 H_10 (st.trans s_10) (by rw [hf]; exact r_6)
/-! good_rods -/
abbrev s_good_rodsP : Stmt := topS 9
theorem sc_good_rodsP : FnScope ["saw", "rod", "other"] ["saw", "rod", "other"] (defScope s_good_rodsP) := ⟨rfl, rfl, rfl, by decide +kernel, rfl, by decide +kernel, by decide +kernel⟩
def good_rodsP (saw : Int) (rod : Int) (other : Int) : Bool :=
  (cond (decide (rod = (1 : Int)) || decide (other = (1 : Int))) true (cond (decide (rod ≤ ((1 : Int) + saw)) && decide (other ≤ ((1 : Int) + saw))) true (decide (rod = (saw + (2 : Int))) && decide (other = (saw + (2 : Int))))))
def A_good_rodsP : List PyData → PyData → Prop := fun ds r => ∃ (saw : Int) (rod : Int) (other : Int), ds = [eI saw, eI rod, eI other] ∧ r = eB (good_rodsP saw rod other)
set_option maxHeartbeats 4000000 in
theorem ok_good_rodsP {P : Program} {w : World} {K : PySem.W.Frag} {mg : Str → Option Value} {base : Heap} (T : Top K mg) : Fn P w K mg base 1 "good_rods" ["saw", "rod", "other"] (spD K A_good_rodsP) := by
  obtain ⟨f, fd, F, gm⟩ := T.f_good_rodsP
  have sc := sc_good_rodsP
  refine ⟨f, fd, F.ok sc (fun vs H Q E h => ?_) (fun cdv A outer s0 H vs Q E hr h => ⟨_, PSs.nox pss_w, ?_⟩), gm, F.kp, F.bindsN (fun _ _ _ _ _ _ us hl => match us, hl with | [_, _, _], _ => rfl)⟩
  · obtain ⟨F, ds, r, w, ra, ⟨saw, rod, other, rfl, rfl⟩, q⟩ := h
    exact ra.len
  · obtain ⟨F, ds, r, w, ra, ⟨saw, rod, other, rfl, rfl⟩, q⟩ := h
    obtain ⟨v_saw, ws, rfl, r_saw, ra⟩ := ra.cons_inv
    obtain ⟨v_rod, ws, rfl, r_rod, ra⟩ := ra.cons_inv
    obtain ⟨v_other, ws, rfl, r_other, ra⟩ := ra.cons_inv
    obtain rfl := ra.nil_inv
    have st := Stp.refl w
    have hf : good_rodsP saw rod other = good_rodsP saw rod other := rfl
    show ZS _ _ [some v_saw, some v_rod, some v_other] H _
    refine zs_if st.ok (zt_w (zw_or (zt_cm cm_eqI (ze_var 1 rfl r_rod) ze_int) fun hb => (zw_or1 (zt_cm cm_eqI (ze_var 2 rfl r_other) ze_int)))) (fun hb F_2 H_2 s_2 => ?_) (fun hb F_2 H_2 s_2 => ?_)
    · have s_2 : Stp F [] H F_2 [] H_2 := by exact s_2
      have st := st.trans s_2
      have r_saw := r_saw.mono s_2.gr
      have r_rod := r_rod.mono s_2.gr
      have r_other := r_other.mono s_2.gr
      have hf := hf.trans (cond_t hb)
      refine zs_ret st.ok ze_bl fun v F_3 H_3 s_3 r_2 => ?_
      exact q v F_3 H_3 (st.trans s_3) (by rw [hf]; exact r_2)
    · have s_2 : Stp F [] H F_2 [] H_2 := by exact s_2
      have st := st.trans s_2
      have r_saw := r_saw.mono s_2.gr
      have r_rod := r_rod.mono s_2.gr
      have r_other := r_other.mono s_2.gr
      have hf := hf.trans (cond_f hb)
      refine zs_nil ?_
      show ZS _ _ [some v_saw, some v_rod, some v_other] H_2 _
      refine zs_if st.ok (zt_w (zw_and (zt_cm cm_le (ze_var 1 rfl r_rod) (ze_add ze_int (ze_var 0 rfl r_saw))) fun hb => (zw_and1 (zt_cm cm_le (ze_var 2 rfl r_other) (ze_add ze_int (ze_var 0 rfl r_saw)))))) (fun hb_2 F_4 H_4 s_4 => ?_) (fun hb_2 F_4 H_4 s_4 => ?_)
      · have s_4 : Stp F_2 [] H_2 F_4 [] H_4 := by exact s_4
        have st := st.trans s_4
        have r_saw := r_saw.mono s_4.gr
        have r_rod := r_rod.mono s_4.gr
        have r_other := r_other.mono s_4.gr
        have hf := hf.trans (cond_t hb_2)
        refine zs_ret st.ok ze_bl fun v_2 F_5 H_5 s_5 r_3 => ?_
        exact q v_2 F_5 H_5 (st.trans s_5) (by rw [hf]; exact r_3)
      · have s_4 : Stp F_2 [] H_2 F_4 [] H_4 := by exact s_4
        have st := st.trans s_4
        have r_saw := r_saw.mono s_4.gr
        have r_rod := r_rod.mono s_4.gr
        have r_other := r_other.mono s_4.gr
        have hf := hf.trans (cond_f hb_2)
        refine zs_nil ?_
        show ZS _ _ [some v_saw, some v_rod, some v_other] H_4 _
        refine zs_ret st.ok (ze_and (ze_cm cm_eqI (ze_var 1 rfl r_rod) (ze_add (ze_var 0 rfl r_saw) ze_int)) fun hb => (ze_one (ze_cm cm_eqI (ze_var 2 rfl r_other) (ze_add (ze_var 0 rfl r_saw) ze_int)))) fun v_3 F_6 H_6 s_6 r_4 => ?_
        exact q v_3 F_6 H_6 (st.trans s_6) (by rw [hf]; exact r_4)
/-! _law_less -/
abbrev s_lessL : Stmt := topS 20
theorem sc_lessL : FnScope ["first", "second", "row", "thing"] ["first", "second"] (defScope s_lessL) := ⟨rfl, rfl, rfl, by decide +kernel, rfl, by decide +kernel, by decide +kernel⟩
def lessL_2 (row_3 : (List Int)) : ((List Int)) :=
  row_3
def lessL_L1b (row_2 : (List Int)) (thing : Int) : ((List Int)) :=
  (cond (decide (thing ∈ row_2)) (lessL_2 (row_2.erase thing)) row_2)
def lessL_L1 (b : ((List Int))) (a : Int) : ((List Int)) :=
  lessL_L1b b a
def lessL_3 (b : ((List Int))) : (List Int) :=
  b
def lessL_1 (second : (List Int)) (row : (List Int)) : (List Int) :=
  lessL_3 (List.foldl lessL_L1 row second)
def lessL (first : (List Int)) (second : (List Int)) : (List Int) :=
  lessL_1 second (sortI first)
def A_lessL : List PyData → List PyData → Prop := fun ds r => ∃ (first : (List Int)) (second : (List Int)), ds = [(eL eI) first, (eL eI) second] ∧ (second.length < 2 ^ 20 ∧ first.length < 2 ^ 20) ∧ r = (lessL first second).map eI
set_option maxHeartbeats 4000000 in
theorem ok_lessL {P : Program} {w : World} {K : PySem.W.Frag} {mg : Str → Option Value} {base : Heap} (T : Top K mg) : Fn P w K mg base 1 "_law_less" ["first", "second"] (spN K A_lessL) := by
  obtain ⟨f, fd, F, gm⟩ := T.f_lessL
  have sc := sc_lessL
  refine ⟨f, fd, F.ok sc (fun vs H Q E h => ?_) (fun cdv A outer s0 H vs Q E hr h => ⟨_, PSs.nox pss_w, ?_⟩), gm, F.kp, F.bindsN (fun _ _ _ _ _ _ us hl => match us, hl with | [_, _], _ => rfl)⟩
  · obtain ⟨F, ds, r, w, ra, ⟨first, second, rfl, hpre, rfl⟩, q⟩ := h
    exact ra.len
  · obtain ⟨F, ds, r, w, ra, ⟨first, second, rfl, hpre, rfl⟩, q⟩ := h
    obtain ⟨v_first, ws, rfl, r_first, ra⟩ := ra.cons_inv
    obtain ⟨v_second, ws, rfl, r_second, ra⟩ := ra.cons_inv
    obtain rfl := ra.nil_inv
    have st := Stp.refl w
    have hf : lessL first second = lessL first second := rfl
    show ZS _ _ [some v_first, some v_second, none, none] H _
    refine zs_setN (n := 2) st.ok (zn_sortI T.b_sorted (ze_var 0 rfl r_first)) sc.nd rfl (by first | exact Or.inl rfl | exact Or.inr rfl) fun p_row us_row F_2 H_2 hp_2 s_2 r_row => ?_
    obtain ⟨row, hx_row⟩ : ∃ z : (List Int), z = (sortI first) := ⟨_, rfl⟩
    have hn := st.newAt hp_2
    have s_2 : Stp F [] H F_2 [(p_row, .lst us_row)] H_2 := by exact s_2
    have r_row : RA K F_2 us_row (row.map eI) := by subst hx_row; exact r_row
    have st := st.trans s_2
    have r_first := r_first.mono s_2.gr
    have r_second := r_second.mono s_2.gr
    show ZS _ _ [some v_first, some v_second, some (.ref p_row), none] H_2 _
    have hf : lessL first second = lessL_1 second row := by subst hx_row; exact hf
    refine zs_forF (f := lessL_L1) (b0 := row) st.ok PassesOwn.never rfl (zi_list (ze_var 1 rfl r_second)) (fun iq b σ F O => ∃ (z1 : Option V) (w2 : List V), σ = [some v_first, some v_second, some (.ref p_row), z1] ∧ O = [(p_row, .lst w2)] ∧ RA K F w2 (b.map eI) ∧ True) (fun F_8 H_7 s_7 => ⟨none, us_row, rfl, rfl, r_row.mono s_7.gr, trivial⟩) (fun i b thing v σ F_3 F_4 O_2 H_3 ha hbe hz rel g s_3 r_2 => ?_) (fun σ_2 F_7 O_3 H_6 s_6 rel_2 => ?_)
    · skip
      obtain ⟨row_2, rfl⟩ : ∃ z, z = b := ⟨_, rfl⟩
      obtain ⟨z_thing, us_row_2, rfl, rfl, r_row_2, hinv⟩ := rel
      have r_row_2 : RA K _ us_row_2 (row_2.map eI) := r_row_2
      have st := st.trans s_3
      have r_first := r_first.mono s_3.gr
      have r_second := r_second.mono s_3.gr
      have r_row_2 := r_row_2.mono g
      have hlt_i := (List.getElem?_eq_some_iff.mp ha).1
      have sb : Stp F_4 [(p_row, .lst us_row_2)] H_3 F_4 [(p_row, .lst us_row_2)] H_3 := Stp.refl st.ok
      have hfb : lessL_L1 row_2 thing = lessL_L1b row_2 thing := rfl
      refine zg_name (n := 3) sc.nd rfl (by first | exact Or.inl rfl | exact Or.inr rfl) ?_
      show ZS _ _ [some v_first, some v_second, some (.ref p_row), some v] H_3 _
      have gl : Gr F_4 (upd F_4 p_row (.lst us_row_2)) := Gr.upd (st.ok.at_ (k := 0) rfl).2
      have r_row_3 : R K (upd F_4 p_row (.lst us_row_2)) (.ref p_row) (eL eI row_2) := (r_row_2.mono gl).lst upd_same
      refine zs_if st.ok (zt_lend (O1 := [(p_row, .lst us_row_2)]) 0 0 rfl rfl (zt_cm cm_inI (ze_var 3 rfl (r_2.mono gl)) (ze_var 2 rfl r_row_3)) rfl rfl) (fun hb F_5 H_4 s_4 => ?_) (fun hb F_5 H_4 s_4 => ?_)
      · have s_4 : Stp F_4 [(p_row, .lst us_row_2)] H_3 F_5 [(p_row, .lst us_row_2)] H_4 := by exact s_4
        have st := st.trans s_4
        have sb := sb.trans s_4
        have r_first := r_first.mono s_4.gr
        have r_second := r_second.mono s_4.gr
        have r_row_2 := r_row_2.mono s_4.gr
        have r_2 := r_2.mono s_4.gr
        have hfb := hfb.trans (cond_t hb)
        refine zs_removeI st.ok 2 0 rfl (ze_var 3 rfl r_2) rfl r_row_2 (by /-1-/ exact of_decide_eq_true hb) fun F_6 H_5 s_5 => ?_
        obtain ⟨row_3, hx_row_3⟩ : ∃ z : (List Int), z = row_2.erase thing := ⟨_, rfl⟩
        have s_5 : Stp F_5 [(p_row, .lst us_row_2)] H_4 F_6 [(p_row, .lst (row_3.map V.int))] H_5 := by subst hx_row_3; exact s_5
        have r_row_4 : RA K F_6 (row_3.map V.int) (row_3.map eI) := ra_ints _
        have st := st.trans s_5
        have sb := sb.trans s_5
        have r_first := r_first.mono s_5.gr
        have r_second := r_second.mono s_5.gr
        have r_2 := r_2.mono s_5.gr
        show ZS _ _ [some v_first, some v_second, some (.ref p_row), some v] H_5 _
        have hfb : lessL_L1 row_2 thing = lessL_2 row_3 := by subst hx_row_3; exact hfb
        refine zs_nil ?_
        show ZS _ _ [some v_first, some v_second, some (.ref p_row), some v] H_5 _
        refine zs_nil ?_
        exact ⟨_, _, sb, by (try rw [hfb]); exact ⟨some v, (row_3.map V.int), rfl, rfl, r_row_4, trivial⟩⟩
      · have s_4 : Stp F_4 [(p_row, .lst us_row_2)] H_3 F_5 [(p_row, .lst us_row_2)] H_4 := by exact s_4
        have st := st.trans s_4
        have sb := sb.trans s_4
        have r_first := r_first.mono s_4.gr
        have r_second := r_second.mono s_4.gr
        have r_row_2 := r_row_2.mono s_4.gr
        have r_2 := r_2.mono s_4.gr
        have hfb := hfb.trans (cond_f hb)
        refine zs_nil ?_
        show ZS _ _ [some v_first, some v_second, some (.ref p_row), some v] H_4 _
        refine zs_nil ?_
        exact ⟨_, _, sb, by (try rw [hfb]); exact ⟨some v, us_row_2, rfl, rfl, r_row_2, trivial⟩⟩
    · skip
      obtain ⟨b_2, hb_2⟩ : ∃ z : ((List Int)), z = List.foldl lessL_L1 row second := ⟨_, rfl⟩
      try rw [← hb_2] at rel_2
      obtain ⟨row_4, rfl⟩ : ∃ z, z = b_2 := ⟨_, rfl⟩
      obtain ⟨z_thing_2, us_row_3, rfl, rfl, r_row_5, hinv_2⟩ := rel_2
      have r_row_5 : RA K _ us_row_3 (row_4.map eI) := r_row_5
      have st := st.trans s_6
      have r_first := r_first.mono s_6.gr
      have r_second := r_second.mono s_6.gr
      have hf : lessL first second = lessL_3 row_4 := by rw [hb_2]; exact hf
      show ZS _ _ [some v_first, some v_second, some (.ref p_row), z_thing_2] H_6 _
      refine zs_retV (n := 2) rfl ?_
      exact q _ us_row_3 _ _ hn st (by rw [hf]; exact r_row_5)
/-! _law_stay -/
abbrev s_stayL : Stmt := topS 21
theorem sc_stayL : FnScope ["saw", "rod", "ask"] ["saw", "rod", "ask"] (defScope s_stayL) := ⟨rfl, rfl, rfl, by decide +kernel, rfl, by decide +kernel, by decide +kernel⟩
def stayL (saw : Int) (rod : Int) (ask : Int) : (Option Int) :=
  (cond (decide (rod < ask)) none (some (if ((rod - ask) - saw) > (0 : Int) then ((rod - ask) - saw) else (0 : Int))))
def A_stayL : List PyData → PyData → Prop := fun ds r => ∃ (saw : Int) (rod : Int) (ask : Int), ds = [eI saw, eI rod, eI ask] ∧ r = (eO eI) (stayL saw rod ask)
set_option maxHeartbeats 4000000 in
theorem ok_stayL {P : Program} {w : World} {K : PySem.W.Frag} {mg : Str → Option Value} {base : Heap} (T : Top K mg) : Fn P w K mg base 1 "_law_stay" ["saw", "rod", "ask"] (spD K A_stayL) := by
  obtain ⟨f, fd, F, gm⟩ := T.f_stayL
  have sc := sc_stayL
  refine ⟨f, fd, F.ok sc (fun vs H Q E h => ?_) (fun cdv A outer s0 H vs Q E hr h => ⟨_, PSs.nox pss_w, ?_⟩), gm, F.kp, F.bindsN (fun _ _ _ _ _ _ us hl => match us, hl with | [_, _, _], _ => rfl)⟩
  · obtain ⟨F, ds, r, w, ra, ⟨saw, rod, ask, rfl, rfl⟩, q⟩ := h
    exact ra.len
  · obtain ⟨F, ds, r, w, ra, ⟨saw, rod, ask, rfl, rfl⟩, q⟩ := h
    obtain ⟨v_saw, ws, rfl, r_saw, ra⟩ := ra.cons_inv
    obtain ⟨v_rod, ws, rfl, r_rod, ra⟩ := ra.cons_inv
    obtain ⟨v_ask, ws, rfl, r_ask, ra⟩ := ra.cons_inv
    obtain rfl := ra.nil_inv
    have st := Stp.refl w
    have hf : stayL saw rod ask = stayL saw rod ask := rfl
    show ZS _ _ [some v_saw, some v_rod, some v_ask] H _
    refine zs_if st.ok (zt_cm cm_lt (ze_var 1 rfl r_rod) (ze_var 2 rfl r_ask)) (fun hb F_2 H_2 s_2 => ?_) (fun hb F_2 H_2 s_2 => ?_)
    · have s_2 : Stp F [] H F_2 [] H_2 := by exact s_2
      have st := st.trans s_2
      have r_saw := r_saw.mono s_2.gr
      have r_rod := r_rod.mono s_2.gr
      have r_ask := r_ask.mono s_2.gr
      have hf := hf.trans (cond_t hb)
      refine zs_ret st.ok ze_non fun v F_3 H_3 s_3 r_2 => ?_
      exact q v F_3 H_3 (st.trans s_3) (by rw [hf]; exact r_2)
    · have s_2 : Stp F [] H F_2 [] H_2 := by exact s_2
      have st := st.trans s_2
      have r_saw := r_saw.mono s_2.gr
      have r_rod := r_rod.mono s_2.gr
      have r_ask := r_ask.mono s_2.gr
      have hf := hf.trans (cond_f hb)
      refine zs_nil ?_
      show ZS _ _ [some v_saw, some v_rod, some v_ask] H_2 _
      refine zs_ret st.ok (ze_max2 rfl T.b_max ze_int (ze_sub (ze_sub (ze_var 1 rfl r_rod) (ze_var 2 rfl r_ask)) (ze_var 0 rfl r_saw))) fun v_2 F_4 H_4 s_4 r_3 => ?_
      exact q v_2 F_4 H_4 (st.trans s_4) (by rw [hf]; exact r_3)
/-! _law_cut_all -/
abbrev s_cut_allL : Stmt := topS 22
theorem sc_cut_allL : FnScope ["saw", "rod", "asks", "left", "ask"] ["saw", "rod", "asks"] (defScope s_cut_allL) := ⟨rfl, rfl, rfl, by decide +kernel, rfl, by decide +kernel, by decide +kernel⟩
def cut_allL_2 (left_3 : (Option Int)) : ((Option Int)) :=
  left_3
def cut_allL_L1b (saw : Int) (left_2 : (Option Int)) (ask : Int) : ((Option Int)) :=
  (cond (!isNon ((eO eI) left_2)) (cut_allL_2 (stayL saw (left_2.getD default) ask)) left_2)
def cut_allL_L1 (saw : Int) (b : ((Option Int))) (a : Int) : ((Option Int)) :=
  cut_allL_L1b saw b a
def cut_allL_3 (b : ((Option Int))) : (Option Int) :=
  b
def cut_allL_1 (saw : Int) (asks : (List Int)) (left : (Option Int)) : (Option Int) :=
  cut_allL_3 (List.foldl (cut_allL_L1 saw) left asks)
def cut_allL (saw : Int) (rod : Int) (asks : (List Int)) : (Option Int) :=
  cut_allL_1 saw asks (some rod)
def A_cut_allL : List PyData → PyData → Prop := fun ds r => ∃ (saw : Int) (rod : Int) (asks : (List Int)), ds = [eI saw, eI rod, (eL eI) asks] ∧ (asks.length < 2 ^ 20) ∧ r = (eO eI) (cut_allL saw rod asks)
set_option maxHeartbeats 4000000 in
theorem ok_cut_allL {P : Program} {w : World} {K : PySem.W.Frag} {mg : Str → Option Value} {base : Heap} (T : Top K mg) : Fn P w K mg base 2 "_law_cut_all" ["saw", "rod", "asks"] (spD K A_cut_allL) := by
  obtain ⟨f, fd, F, gm⟩ := T.f_cut_allL
  have sc := sc_cut_allL
  refine ⟨f, fd, F.ok sc (fun vs H Q E h => ?_) (fun cdv A outer s0 H vs Q E hr h => ⟨_, PSs.nox pss_w, ?_⟩), gm, F.kp, F.bindsN (fun _ _ _ _ _ _ us hl => match us, hl with | [_, _, _], _ => rfl)⟩
  · obtain ⟨F, ds, r, w, ra, ⟨saw, rod, asks, rfl, hpre, rfl⟩, q⟩ := h
    exact ra.len
  · obtain ⟨F, ds, r, w, ra, ⟨saw, rod, asks, rfl, hpre, rfl⟩, q⟩ := h
    obtain ⟨v_saw, ws, rfl, r_saw, ra⟩ := ra.cons_inv
    obtain ⟨v_rod, ws, rfl, r_rod, ra⟩ := ra.cons_inv
    obtain ⟨v_asks, ws, rfl, r_asks, ra⟩ := ra.cons_inv
    obtain rfl := ra.nil_inv
    have st := Stp.refl w
    have hf : cut_allL saw rod asks = cut_allL saw rod asks := rfl
    show ZS _ _ [some v_saw, some v_rod, some v_asks, none, none] H _
    refine zs_set (n := 3) st.ok (ze_var 1 rfl r_rod) sc.nd rfl (by first | exact Or.inl rfl | exact Or.inr rfl) fun v_left F_2 H_2 s_2 r_left => ?_
    obtain ⟨left, hx_left⟩ : ∃ z : (Option Int), z = (some rod) := ⟨_, rfl⟩
    have s_2 : Stp F [] H F_2 [] H_2 := by exact s_2
    have r_left : R K F_2 v_left ((eO eI) left) := by subst hx_left; exact r_left
    have st := st.trans s_2
    have r_saw := r_saw.mono s_2.gr
    have r_rod := r_rod.mono s_2.gr
    have r_asks := r_asks.mono s_2.gr
    show ZS _ _ [some v_saw, some v_rod, some v_asks, some v_left, none] H_2 _
    have hf : cut_allL saw rod asks = cut_allL_1 saw asks left := by subst hx_left; exact hf
    refine zs_forF (f := (cut_allL_L1 saw)) (b0 := left) st.ok PassesOwn.never rfl (zi_list (ze_var 2 rfl r_asks)) (fun iq b σ F O => ∃ (w1 : V) (z2 : Option V), σ = [some v_saw, some v_rod, some v_asks, some w1, z2] ∧ O = [] ∧ R K F w1 ((eO eI) b) ∧ True) (fun F_9 H_8 s_8 => ⟨v_left, none, rfl, rfl, r_left.mono s_8.gr, trivial⟩) (fun i b ask v σ F_3 F_4 O_2 H_3 ha hbe hz rel g s_3 r_2 => ?_) (fun σ_2 F_7 O_3 H_6 s_6 rel_2 => ?_)
    · skip
      obtain ⟨left_2, rfl⟩ : ∃ z, z = b := ⟨_, rfl⟩
      obtain ⟨v_left_2, z_ask, rfl, rfl, r_left_2, hinv⟩ := rel
      have r_left_2 : R K _ v_left_2 ((eO eI) left_2) := r_left_2
      have st := st.trans s_3
      have r_saw := r_saw.mono s_3.gr
      have r_rod := r_rod.mono s_3.gr
      have r_asks := r_asks.mono s_3.gr
      have r_left_2 := r_left_2.mono g
      have hlt_i := (List.getElem?_eq_some_iff.mp ha).1
      have sb : Stp F_4 [] H_3 F_4 [] H_3 := Stp.refl st.ok
      have hfb : cut_allL_L1 saw left_2 ask = cut_allL_L1b saw left_2 ask := rfl
      refine zg_name (n := 4) sc.nd rfl (by first | exact Or.inl rfl | exact Or.inr rfl) ?_
      show ZS _ _ [some v_saw, some v_rod, some v_asks, some v_left_2, some v] H_3 _
      refine zs_if st.ok (zt_cm cm_isnot (ze_var 3 rfl r_left_2) ze_non) (fun hb F_5 H_4 s_4 => ?_) (fun hb F_5 H_4 s_4 => ?_)
      · have s_4 : Stp F_4 [] H_3 F_5 [] H_4 := by exact s_4
        have st := st.trans s_4
        have sb := sb.trans s_4
        have r_saw := r_saw.mono s_4.gr
        have r_rod := r_rod.mono s_4.gr
        have r_asks := r_asks.mono s_4.gr
        have r_left_2 := r_left_2.mono s_4.gr
        have r_2 := r_2.mono s_4.gr
        have hfb := hfb.trans (cond_t hb)
        refine zs_set (n := 3) st.ok (ze_callD (ok_stayL T) (hr.mono (by decide)) (za_cons (ze_var 0 rfl r_saw) (za_cons (ze_some (ze_var 3 rfl r_left_2) (by /-1-/ exact some_nn (fun _ => rfl) (by assumption))) (za_cons (ze_var 4 rfl r_2) za_nil))) ⟨saw, (left_2.getD default), ask, rfl, rfl⟩) sc.nd rfl (by first | exact Or.inl rfl | exact Or.inr rfl) fun v_left_3 F_6 H_5 s_5 r_left_3 => ?_
        obtain ⟨left_3, hx_left_3⟩ : ∃ z : (Option Int), z = (stayL saw (left_2.getD default) ask) := ⟨_, rfl⟩
        have s_5 : Stp F_5 [] H_4 F_6 [] H_5 := by exact s_5
        have r_left_3 : R K F_6 v_left_3 ((eO eI) left_3) := by subst hx_left_3; exact r_left_3
        have st := st.trans s_5
        have sb := sb.trans s_5
        have r_saw := r_saw.mono s_5.gr
        have r_rod := r_rod.mono s_5.gr
        have r_asks := r_asks.mono s_5.gr
        have r_2 := r_2.mono s_5.gr
        show ZS _ _ [some v_saw, some v_rod, some v_asks, some v_left_3, some v] H_5 _
        have hfb : cut_allL_L1 saw left_2 ask = cut_allL_2 left_3 := by subst hx_left_3; exact hfb
        refine zs_nil ?_
        show ZS _ _ [some v_saw, some v_rod, some v_asks, some v_left_3, some v] H_5 _
        refine zs_nil ?_
        exact ⟨_, _, sb, by (try rw [hfb]); exact ⟨v_left_3, some v, rfl, rfl, r_left_3, trivial⟩⟩
      · have s_4 : Stp F_4 [] H_3 F_5 [] H_4 := by exact s_4
        have st := st.trans s_4
        have sb := sb.trans s_4
        have r_saw := r_saw.mono s_4.gr
        have r_rod := r_rod.mono s_4.gr
        have r_asks := r_asks.mono s_4.gr
        have r_left_2 := r_left_2.mono s_4.gr
        have r_2 := r_2.mono s_4.gr
        have hfb := hfb.trans (cond_f hb)
        refine zs_nil ?_
        show ZS _ _ [some v_saw, some v_rod, some v_asks, some v_left_2, some v] H_4 _
        refine zs_nil ?_
        exact ⟨_, _, sb, by (try rw [hfb]); exact ⟨v_left_2, some v, rfl, rfl, r_left_2, trivial⟩⟩
    · skip
      obtain ⟨b_2, hb_2⟩ : ∃ z : ((Option Int)), z = List.foldl (cut_allL_L1 saw) left asks := ⟨_, rfl⟩
      try rw [← hb_2] at rel_2
      obtain ⟨left_4, rfl⟩ : ∃ z, z = b_2 := ⟨_, rfl⟩
      obtain ⟨v_left_4, z_ask_2, rfl, rfl, r_left_4, hinv_2⟩ := rel_2
      have r_left_4 : R K _ v_left_4 ((eO eI) left_4) := r_left_4
      have st := st.trans s_6
      have r_saw := r_saw.mono s_6.gr
      have r_rod := r_rod.mono s_6.gr
      have r_asks := r_asks.mono s_6.gr
      have hf : cut_allL saw rod asks = cut_allL_3 left_4 := by rw [hb_2]; exact hf
      show ZS _ _ [some v_saw, some v_rod, some v_asks, some v_left_4, z_ask_2] H_6 _
      refine zs_ret st.ok (ze_var 3 rfl r_left_4) fun v_2 F_8 H_7 s_7 r_3 => ?_
      exact q v_2 F_8 H_7 (st.trans s_7) (by rw [hf]; exact r_3)
/-! _law_asks_and_rod -/
abbrev s_asks_and_rodL : Stmt := topS 23
theorem sc_asks_and_rodL : FnScope ["store", "saw", "many", "most", "asks", "need", "ask", "rod", "k"] ["store", "saw"] (defScope s_asks_and_rodL) := ⟨rfl, rfl, rfl, by decide +kernel, rfl, by decide +kernel, by decide +kernel⟩
def asks_and_rodL_6 (need_3 : Int) : (Int) :=
  need_3
def asks_and_rodL_L1b (saw : Int) (need_2 : Int) (ask : Int) : (Int) :=
  asks_and_rodL_6 ((need_2 + ask) + saw)
def asks_and_rodL_L1 (saw : Int) (b : (Int)) (a : Int) : (Int) :=
  asks_and_rodL_L1b saw b a
def asks_and_rodL_9 (asks : (List Int)) (j_rod : Int) (j_s_2 : Sto) : ((List Int) × Int) × Sto :=
  ((asks, j_rod), j_s_2)
def asks_and_rodL_11 (asks : (List Int)) (rod_2 : Int) (s_20 : Sto) : ((List Int) × Int) × Sto :=
  asks_and_rodL_9 asks rod_2 s_20
def asks_and_rodL_10 (cs : List Int) (asks : (List Int)) (s_18 : Sto) : ((List Int) × Int) × Sto :=
  asks_and_rodL_11 asks ((number cs s_18 (1 : Int) (1000000 : Int)).1) ((number cs s_18 (1 : Int) (1000000 : Int)).2)
def asks_and_rodL_12 (asks : (List Int)) (rod : Int) (s_21 : Sto) : ((List Int) × Int) × Sto :=
  asks_and_rodL_9 asks rod s_21
def asks_and_rodL_8 (cs : List Int) (asks : (List Int)) (rod : Int) (s_14 : Sto) : ((List Int) × Int) × Sto :=
  (cond ((odds cs s_14 (6 : Int)).1) (asks_and_rodL_10 cs asks ((odds cs s_14 (6 : Int)).2)) (asks_and_rodL_12 asks rod ((odds cs s_14 (6 : Int)).2)))
def asks_and_rodL_7 (cs : List Int) (saw : Int) (asks : (List Int)) (s_8 : Sto) (b : (Int)) : ((List Int) × Int) × Sto :=
  asks_and_rodL_8 cs asks (if (b + (pickT cs s_8 ([(0 : Int), (0 : Int), (-(1 : Int)), (1 : Int), (-(2 : Int)), saw, (saw + (1 : Int)), (saw + (2 : Int))] : List Int)).1) > (1 : Int) then (b + (pickT cs s_8 ([(0 : Int), (0 : Int), (-(1 : Int)), (1 : Int), (-(2 : Int)), saw, (saw + (1 : Int)), (saw + (2 : Int))] : List Int)).1) else (1 : Int)) ((pickT cs s_8 ([(0 : Int), (0 : Int), (-(1 : Int)), (1 : Int), (-(2 : Int)), saw, (saw + (1 : Int)), (saw + (2 : Int))] : List Int)).2)
def asks_and_rodL_5 (cs : List Int) (saw : Int) (asks : (List Int)) (need : Int) (s_8 : Sto) : ((List Int) × Int) × Sto :=
  (asks_and_rodL_7 cs saw asks s_8) (List.foldl (asks_and_rodL_L1 saw) need asks)
def asks_and_rodL_4 (cs : List Int) (saw : Int) (asks : (List Int)) (s_8 : Sto) : ((List Int) × Int) × Sto :=
  asks_and_rodL_5 cs saw asks (-saw) s_8
def asks_and_rodL_3 (cs : List Int) (saw : Int) (j_many : Int) (most : Int) (s_6 : Sto) : ((List Int) × Int) × Sto :=
  asks_and_rodL_4 cs saw ((mapS (fun (z : Sto) (a_k : Int) => ((number cs z (1 : Int) most).1, (number cs z (1 : Int) most).2)) ((number cs s_6 (0 : Int) j_many).2) (rangeI 0 ((number cs s_6 (0 : Int) j_many).1))).1) ((mapS (fun (z : Sto) (a_k : Int) => ((number cs z (1 : Int) most).1, (number cs z (1 : Int) most).2)) ((number cs s_6 (0 : Int) j_many).2) (rangeI 0 ((number cs s_6 (0 : Int) j_many).1))).2)
def asks_and_rodL_2 (cs : List Int) (saw : Int) (j_many : Int) (j_s : Sto) : ((List Int) × Int) × Sto :=
  asks_and_rodL_3 cs saw j_many ((pickT cs j_s ([(3 : Int), (20 : Int), (20000 : Int)] : List Int)).1) ((pickT cs j_s ([(3 : Int), (20 : Int), (20000 : Int)] : List Int)).2)
def asks_and_rodL_14 (cs : List Int) (saw : Int) (many_2 : Int) (s_23 : Sto) : ((List Int) × Int) × Sto :=
  asks_and_rodL_2 cs saw many_2 s_23
def asks_and_rodL_13 (cs : List Int) (saw : Int) (s_23 : Sto) : ((List Int) × Int) × Sto :=
  asks_and_rodL_14 cs saw (40 : Int) s_23
def asks_and_rodL_15 (cs : List Int) (saw : Int) (many : Int) (s_25 : Sto) : ((List Int) × Int) × Sto :=
  asks_and_rodL_2 cs saw many s_25
def asks_and_rodL_1 (cs : List Int) (saw : Int) (many : Int) (s : Sto) : ((List Int) × Int) × Sto :=
  (cond ((odds cs s (6 : Int)).1) (asks_and_rodL_13 cs saw ((odds cs s (6 : Int)).2)) (asks_and_rodL_15 cs saw many ((odds cs s (6 : Int)).2)))
def asks_and_rodL (cs : List Int) (s : Sto) (saw : Int) : ((List Int) × Int) × Sto :=
  asks_and_rodL_1 cs saw (7 : Int) s
def A_asks_and_rodL : List Int → Sto → List PyData → PyData → Sto → Prop := fun cs s ds r s' => ∃ (saw : Int), ds = [eI saw] ∧ (0 ≤ saw ∧ saw ≤ 99) ∧ r = (eT2 (eL eI) eI) (asks_and_rodL cs s saw).1 ∧ s' = (asks_and_rodL cs s saw).2
set_option maxHeartbeats 4000000 in
theorem ok_asks_and_rodL {P : Program} {w : World} {K : PySem.W.Frag} {mg : Str → Option Value} {base : Heap} (T : Top K mg) : Fn P w K mg base 5 "_law_asks_and_rod" ["store", "saw"] (spS K A_asks_and_rodL) := by
  obtain ⟨f, fd, F, gm⟩ := T.f_asks_and_rodL
  have sc := sc_asks_and_rodL
  refine ⟨f, fd, F.ok sc (fun vs H Q E h => ?_) (fun cdv A outer s0 H vs Q E hr h => ⟨_, PSs.nox pss_w, ?_⟩), gm, F.kp, F.bindsN (fun _ _ _ _ _ _ us hl => match us, hl with | [_, _], _ => rfl)⟩
  · obtain ⟨F, a_st, c_st, cs, s, ws, ds, r, s', rfl, w, rc, ra, ⟨saw, rfl, hpre, rfl, rfl⟩, q⟩ := h
    have h := ra.len
    show ws.length + 1 = 2
    rw [h]; rfl
  · obtain ⟨F, a_st, c_st, cs, s, ws, ds, r, s', rfl, w, r_st, ra, ⟨saw, rfl, hpre, rfl, rfl⟩, q⟩ := h
    obtain ⟨v_saw, ws, rfl, r_saw, ra⟩ := ra.cons_inv
    obtain rfl := ra.nil_inv
    have st := Stp.refl w
    have hf : asks_and_rodL cs s saw = asks_and_rodL cs s saw := rfl
    show ZS _ _ [some (.ref a_st), some v_saw, none, none, none, none, none, none, none] H _
    refine zs_set (n := 2) st.ok ze_int sc.nd rfl (by first | exact Or.inl rfl | exact Or.inr rfl) fun v_many F_2 H_2 s_2 r_many => ?_
    obtain ⟨many, hx_many⟩ : ∃ z : Int, z = (7 : Int) := ⟨_, rfl⟩
    have s_2 : Stp F [stoO a_st c_st s] H F_2 [stoO a_st c_st s] H_2 := by exact s_2
    have r_many : R K F_2 v_many (eI many) := by subst hx_many; exact r_many
    have st := st.trans s_2
    have r_saw := r_saw.mono s_2.gr
    have r_st := r_st.mono s_2.gr
    show ZS _ _ [some (.ref a_st), some v_saw, some v_many, none, none, none, none, none, none] H_2 _
    have hf : asks_and_rodL cs s saw = asks_and_rodL_1 cs saw many s := by subst hx_many; exact hf
    refine zs_ifJ st.ok (zt_val (ze_callS 0 0 (ok_odds T) (hr.mono (by decide)) rfl r_st (za_cons ze_int za_nil) rfl ⟨(6 : Int), rfl, (by /-1-/ first | (first | omega | (simp only [List.length_append, List.length_cons, List.length_nil, List.length_map, rangeI_length]; omega)) | (first | omega | (rw [← szL]; omega) | (simp only [List.length_append, List.length_cons, List.length_nil, List.length_map, rangeI_length, ← szL]; omega))), rfl, rfl⟩)) (fun σ H' => ∃ (j_many : Int) (j_s : Sto) (F : Hp) (O : Own), asks_and_rodL cs s saw = asks_and_rodL_2 cs saw j_many j_s ∧ Stp F_2 [stoO a_st c_st s] H_2 F O H' ∧ ∃ (w1 : V), σ = [some (.ref a_st), some v_saw, some w1, none, none, none, none, none, none] ∧ O = [stoO a_st c_st j_s] ∧ R K F w1 (eI j_many) ∧ (7 ≤ j_many ∧ j_many ≤ 40)) (fun hb F_3 H_3 s_3 => ?_) (fun hb F_3 H_3 s_3 => ?_) (fun σ H_4 hJ => ?_)
    · obtain ⟨s_23, hx_s_23⟩ : ∃ z : Sto, z = (odds cs s (6 : Int)).2 := ⟨_, rfl⟩
      have s_3 : Stp F_2 [stoO a_st c_st s] H_2 F_3 [stoO a_st c_st s_23] H_3 := by subst hx_s_23; exact s_3
      have sj := s_3
      have st := st.trans s_3
      have r_saw := r_saw.mono s_3.gr
      have r_st := r_st.mono s_3.gr
      have r_many := r_many.mono s_3.gr
      have hf := hf.trans (cond_t hb)
      have hf : asks_and_rodL cs s saw = asks_and_rodL_13 cs saw s_23 := by subst hx_s_23; exact hf
      refine zs_set (n := 2) st.ok ze_int sc.nd rfl (by first | exact Or.inl rfl | exact Or.inr rfl) fun v_many_3 F_19 H_17 s_24 r_many_3 => ?_
      obtain ⟨many_2, hx_many_2⟩ : ∃ z : Int, z = (40 : Int) := ⟨_, rfl⟩
      have s_24 : Stp F_3 [stoO a_st c_st s_23] H_3 F_19 [stoO a_st c_st s_23] H_17 := by exact s_24
      have r_many_3 : R K F_19 v_many_3 (eI many_2) := by subst hx_many_2; exact r_many_3
      have st := st.trans s_24
      have sj := sj.trans s_24
      have r_saw := r_saw.mono s_24.gr
      have r_st := r_st.mono s_24.gr
      show ZS _ _ [some (.ref a_st), some v_saw, some v_many_3, none, none, none, none, none, none] H_17 _
      have hf : asks_and_rodL cs s saw = asks_and_rodL_14 cs saw many_2 s_23 := by subst hx_many_2; exact hf
      refine zs_nil ?_
      exact ⟨many_2, s_23, _, _, hf, sj, v_many_3, rfl, rfl, r_many_3, by rw [hx_many_2]; decide⟩
    · obtain ⟨s_25, hx_s_25⟩ : ∃ z : Sto, z = (odds cs s (6 : Int)).2 := ⟨_, rfl⟩
      have s_3 : Stp F_2 [stoO a_st c_st s] H_2 F_3 [stoO a_st c_st s_25] H_3 := by subst hx_s_25; exact s_3
      have sj := s_3
      have st := st.trans s_3
      have r_saw := r_saw.mono s_3.gr
      have r_st := r_st.mono s_3.gr
      have r_many := r_many.mono s_3.gr
      have hf := hf.trans (cond_f hb)
      have hf : asks_and_rodL cs s saw = asks_and_rodL_15 cs saw many s_25 := by subst hx_s_25; exact hf
      refine zs_nil ?_
      exact ⟨many, s_25, _, _, hf, sj, v_many, rfl, rfl, r_many, by rw [hx_many]; decide⟩
    · obtain ⟨j_many, j_s, F_4, O_2, hf, s_4, hJ⟩ := hJ
      obtain ⟨v_many_2, rfl, rfl, r_many_2, hinv⟩ := hJ
      have r_many_2 : R K _ v_many_2 (eI j_many) := r_many_2
      have st := st.trans s_4
      have r_saw := r_saw.mono s_4.gr
      have r_st := r_st.mono s_4.gr
      have hmany := hinv
      show ZS _ _ [some (.ref a_st), some v_saw, some v_many_2, none, none, none, none, none, none] H_4 _
      refine zs_set (n := 3) st.ok (ze_callS 0 0 (ok_pick T) (hr.mono (by decide)) rfl r_st (za_cons (zn_ze (zn_lstt (enc := eI) (xs := ([(3 : Int), (20 : Int), (20000 : Int)] : List Int)) (za_cons ze_int (za_cons ze_int (za_cons ze_int za_nil))))) za_nil) rfl (A_pick_of eI (by /-2-/ first | (first | (simp only [List.length_append, List.length_cons, List.length_nil, List.length_map, rangeI_length]; omega) | omega) | (first | omega | (rw [← szL]; omega) | (simp only [List.length_append, List.length_cons, List.length_nil, List.length_map, rangeI_length, ← szL]; omega))))) sc.nd rfl (by first | exact Or.inl rfl | exact Or.inr rfl) fun v_most F_5 H_5 s_5 r_most => ?_
      obtain ⟨most, hx_most⟩ : ∃ z : Int, z = (pickT cs j_s ([(3 : Int), (20 : Int), (20000 : Int)] : List Int)).1 := ⟨_, rfl⟩
      obtain ⟨s_6, hx_s_6⟩ : ∃ z : Sto, z = (pickT cs j_s ([(3 : Int), (20 : Int), (20000 : Int)] : List Int)).2 := ⟨_, rfl⟩
      have s_5 : Stp F_4 [stoO a_st c_st j_s] H_4 F_5 [stoO a_st c_st s_6] H_5 := by subst hx_s_6; exact s_5
      have r_most : R K F_5 v_most (eI most) := by subst hx_most; exact r_most
      have st := st.trans s_5
      have r_saw := r_saw.mono s_5.gr
      have r_st := r_st.mono s_5.gr
      have r_many_2 := r_many_2.mono s_5.gr
      show ZS _ _ [some (.ref a_st), some v_saw, some v_many_2, some v_most, none, none, none, none, none] H_5 _
      have hf : asks_and_rodL cs s saw = asks_and_rodL_3 cs saw j_many most s_6 := by subst hx_most; subst hx_s_6; exact hf
      have hmost : 3 ≤ most ∧ most ≤ 20000 := by rw [hx_most]; have := pick3 (cs := cs) (s := j_s); omega
      refine zs_setLcS (i0 := 4) (w := st.ok) (n := 8) (G := (fun z => [stoO a_st c_st z])) (st0 := (number cs s_6 (0 : Int) j_many).2) (f0 := (fun (z : Sto) (a_k : Int) => ((number cs z (1 : Int) most).1, (number cs z (1 : Int) most).2))) (encR := eI) rfl sc.nd (zi_range1 T.b_range (ze_callS 0 0 (ok_number T) (hr.mono (by decide)) rfl r_st (za_cons ze_int (za_cons (ze_var 2 rfl r_many_2) za_nil)) rfl ⟨(0 : Int), j_many, rfl, (by /-3-/ first | (first | omega | (simp only [List.length_append, List.length_cons, List.length_nil, List.length_map, rangeI_length]; omega)) | (first | omega | (rw [← szL]; omega) | (simp only [List.length_append, List.length_cons, List.length_nil, List.length_map, rangeI_length, ← szL]; omega))), rfl, rfl⟩) (by /-4-/ have h8 := number_range cs s_6 0 j_many (by omega); omega)) (fun _ _ _ _ _ z a_k v_a_k _ h_a_k g_c r_a_k => ze_to (ze_callS 0 0 (ok_number T) (hr.mono (by decide)) rfl (r_st.mono g_c) (za_cons ze_int (za_cons (ze_var 3 rfl (r_most.mono g_c)) za_nil)) rfl ⟨(1 : Int), most, rfl, (by /-5-/ first | (first | omega | (simp only [List.length_append, List.length_cons, List.length_nil, List.length_map, rangeI_length]; omega)) | (first | omega | (rw [← szL]; omega) | (simp only [List.length_append, List.length_cons, List.length_nil, List.length_map, rangeI_length, ← szL]; omega))), rfl, rfl⟩) rfl rfl) (blkOk_by (N := ["store", "saw", "many", "most", "asks", "need", "ask", "rod", "k"]) (sc := defScope (topS 23)) (by decide +kernel)) (fun _ _ _ _ _ => pg_name (i := 8) sc.nd rfl (Or.inl rfl)) rfl rfl (sw_true rfl rfl rfl (by decide +kernel)) fun p_asks us_asks F_6 H_6 hp_2 s_7 r_asks => ?_
      obtain ⟨asks, hx_asks⟩ : ∃ z : (List Int), z = (mapS (fun (z : Sto) (a_k : Int) => ((number cs z (1 : Int) most).1, (number cs z (1 : Int) most).2)) ((number cs s_6 (0 : Int) j_many).2) (rangeI 0 ((number cs s_6 (0 : Int) j_many).1))).1 := ⟨_, rfl⟩
      obtain ⟨s_8, hx_s_8⟩ : ∃ z : Sto, z = (mapS (fun (z : Sto) (a_k : Int) => ((number cs z (1 : Int) most).1, (number cs z (1 : Int) most).2)) ((number cs s_6 (0 : Int) j_many).2) (rangeI 0 ((number cs s_6 (0 : Int) j_many).1))).2 := ⟨_, rfl⟩
      have hn := st.newAt hp_2
      have s_7 : Stp F_5 [stoO a_st c_st s_6] H_5 F_6 [(p_asks, .lst us_asks), stoO a_st c_st s_8] H_6 := by subst hx_s_8; exact s_7
      have r_asks : RA K F_6 us_asks (asks.map eI) := by subst hx_asks; exact r_asks
      have st := st.trans s_7
      have r_saw := r_saw.mono s_7.gr
      have r_st := r_st.mono s_7.gr
      have r_many_2 := r_many_2.mono s_7.gr
      have r_most := r_most.mono s_7.gr
      have gz : Gr F_6 (upd F_6 p_asks (.lst us_asks)) := Gr.upd (st.ok.at_ (k := 0) rfl).2
      have r_asks_2 : R K (upd F_6 p_asks (.lst us_asks)) (.ref p_asks) (eL eI asks) := (r_asks.mono gz).lst upd_same
      have st : Stp _ _ _ (upd F_6 p_asks (.lst us_asks)) [stoO a_st c_st s_8] H_6 := st.freezeAt 0 rfl hn
      have r_saw := r_saw.mono gz
      have r_st := r_st.mono gz
      have r_many_2 := r_many_2.mono gz
      have r_most := r_most.mono gz
      show ZS _ _ [some (.ref a_st), some v_saw, some v_many_2, some v_most, some (.ref p_asks), none, none, none, none] H_6 _
      have hf : asks_and_rodL cs s saw = asks_and_rodL_4 cs saw asks s_8 := by subst hx_asks; subst hx_s_8; exact hf
      refine zs_set (n := 5) st.ok (ze_neg (ze_var 1 rfl r_saw)) sc.nd rfl (by first | exact Or.inl rfl | exact Or.inr rfl) fun v_need F_8 H_7 s_9 r_need => ?_
      obtain ⟨need, hx_need⟩ : ∃ z : Int, z = (-saw) := ⟨_, rfl⟩
      have s_9 : Stp (upd F_6 p_asks (.lst us_asks)) [stoO a_st c_st s_8] H_6 F_8 [stoO a_st c_st s_8] H_7 := by exact s_9
      have r_need : R K F_8 v_need (eI need) := by subst hx_need; exact r_need
      have st := st.trans s_9
      have r_saw := r_saw.mono s_9.gr
      have r_st := r_st.mono s_9.gr
      have r_many_2 := r_many_2.mono s_9.gr
      have r_most := r_most.mono s_9.gr
      have r_asks_2 := r_asks_2.mono s_9.gr
      show ZS _ _ [some (.ref a_st), some v_saw, some v_many_2, some v_most, some (.ref p_asks), some v_need, none, none, none] H_7 _
      have hf : asks_and_rodL cs s saw = asks_and_rodL_5 cs saw asks need s_8 := by subst hx_need; exact hf
      refine zs_forF (f := (asks_and_rodL_L1 saw)) (b0 := need) st.ok PassesOwn.never rfl (zi_list (ze_var 4 rfl r_asks_2)) (fun iq b σ F O => ∃ (w1 : V) (z2 : Option V), σ = [some (.ref a_st), some v_saw, some v_many_2, some v_most, some (.ref p_asks), some w1, z2, none, none] ∧ O = [stoO a_st c_st s_8] ∧ R K F w1 (eI b) ∧ True) (fun F_18 H_16 s_22 => ⟨v_need, none, rfl, rfl, r_need.mono s_22.gr, trivial⟩) (fun i b ask v σ_2 F_9 F_10 O_3 H_8 ha hbe hz rel g s_10 r_2 => ?_) (fun σ_3 F_12 O_4 H_10 s_12 rel_2 => ?_)
      · skip
        obtain ⟨need_2, rfl⟩ : ∃ z, z = b := ⟨_, rfl⟩
        obtain ⟨v_need_2, z_ask, rfl, rfl, r_need_2, hinv_2⟩ := rel
        have r_need_2 : R K _ v_need_2 (eI need_2) := r_need_2
        have st := st.trans s_10
        have r_saw := r_saw.mono s_10.gr
        have r_st := r_st.mono s_10.gr
        have r_many_2 := r_many_2.mono s_10.gr
        have r_most := r_most.mono s_10.gr
        have r_asks_2 := r_asks_2.mono s_10.gr
        have r_need_2 := r_need_2.mono g
        have hlt_i := (List.getElem?_eq_some_iff.mp ha).1
        have sb : Stp F_10 [stoO a_st c_st s_8] H_8 F_10 [stoO a_st c_st s_8] H_8 := Stp.refl st.ok
        have hfb : asks_and_rodL_L1 saw need_2 ask = asks_and_rodL_L1b saw need_2 ask := rfl
        refine zg_name (n := 6) sc.nd rfl (by first | exact Or.inl rfl | exact Or.inr rfl) ?_
        show ZS _ _ [some (.ref a_st), some v_saw, some v_many_2, some v_most, some (.ref p_asks), some v_need_2, some v, none, none] H_8 _
        refine zs_set (n := 5) st.ok (ze_add (ze_add (ze_var 5 rfl r_need_2) (ze_var 6 rfl r_2)) (ze_var 1 rfl r_saw)) sc.nd rfl (by first | exact Or.inl rfl | exact Or.inr rfl) fun v_need_3 F_11 H_9 s_11 r_need_3 => ?_
        obtain ⟨need_3, hx_need_3⟩ : ∃ z : Int, z = ((need_2 + ask) + saw) := ⟨_, rfl⟩
        have s_11 : Stp F_10 [stoO a_st c_st s_8] H_8 F_11 [stoO a_st c_st s_8] H_9 := by exact s_11
        have r_need_3 : R K F_11 v_need_3 (eI need_3) := by subst hx_need_3; exact r_need_3
        have st := st.trans s_11
        have sb := sb.trans s_11
        have r_saw := r_saw.mono s_11.gr
        have r_st := r_st.mono s_11.gr
        have r_many_2 := r_many_2.mono s_11.gr
        have r_most := r_most.mono s_11.gr
        have r_asks_2 := r_asks_2.mono s_11.gr
        have r_2 := r_2.mono s_11.gr
        show ZS _ _ [some (.ref a_st), some v_saw, some v_many_2, some v_most, some (.ref p_asks), some v_need_3, some v, none, none] H_9 _
        have hfb : asks_and_rodL_L1 saw need_2 ask = asks_and_rodL_6 need_3 := by subst hx_need_3; exact hfb
        refine zs_nil ?_
        exact ⟨_, _, sb, by (try rw [hfb]); exact ⟨v_need_3, some v, rfl, rfl, r_need_3, trivial⟩⟩
      · skip
        obtain ⟨b_2, hb_2⟩ : ∃ z : (Int), z = List.foldl (asks_and_rodL_L1 saw) need asks := ⟨_, rfl⟩
        try rw [← hb_2] at rel_2
        obtain ⟨need_4, rfl⟩ : ∃ z, z = b_2 := ⟨_, rfl⟩
        obtain ⟨v_need_4, z_ask_2, rfl, rfl, r_need_4, hinv_3⟩ := rel_2
        have r_need_4 : R K _ v_need_4 (eI need_4) := r_need_4
        have st := st.trans s_12
        have r_saw := r_saw.mono s_12.gr
        have r_st := r_st.mono s_12.gr
        have r_many_2 := r_many_2.mono s_12.gr
        have r_most := r_most.mono s_12.gr
        have r_asks_2 := r_asks_2.mono s_12.gr
        have hf : asks_and_rodL cs s saw = (asks_and_rodL_7 cs saw asks s_8) need_4 := by rw [hb_2]; exact hf
        show ZS _ _ [some (.ref a_st), some v_saw, some v_many_2, some v_most, some (.ref p_asks), some v_need_4, z_ask_2, none, none] H_10 _
        refine zs_set (n := 7) st.ok (ze_max2 rfl T.b_max ze_int (ze_add (ze_var 5 rfl r_need_4) (ze_callS 0 0 (ok_pick T) (hr.mono (by decide)) rfl r_st (za_cons (zn_ze (zn_lstt (enc := eI) (xs := ([(0 : Int), (0 : Int), (-(1 : Int)), (1 : Int), (-(2 : Int)), saw, (saw + (1 : Int)), (saw + (2 : Int))] : List Int)) (za_cons ze_int (za_cons ze_int (za_cons (ze_neg ze_int) (za_cons ze_int (za_cons (ze_neg ze_int) (za_cons (ze_var 1 rfl r_saw) (za_cons (ze_add (ze_var 1 rfl r_saw) ze_int) (za_cons (ze_add (ze_var 1 rfl r_saw) ze_int) za_nil)))))))))) za_nil) rfl (A_pick_of eI (by /-6-/ first | (first | (simp only [List.length_append, List.length_cons, List.length_nil, List.length_map, rangeI_length]; omega) | omega) | (first | omega | (rw [← szL]; omega) | (simp only [List.length_append, List.length_cons, List.length_nil, List.length_map, rangeI_length, ← szL]; omega))))))) sc.nd rfl (by first | exact Or.inl rfl | exact Or.inr rfl) fun v_rod F_13 H_11 s_13 r_rod => ?_
        obtain ⟨rod, hx_rod⟩ : ∃ z : Int, z = (if (need_4 + (pickT cs s_8 ([(0 : Int), (0 : Int), (-(1 : Int)), (1 : Int), (-(2 : Int)), saw, (saw + (1 : Int)), (saw + (2 : Int))] : List Int)).1) > (1 : Int) then (need_4 + (pickT cs s_8 ([(0 : Int), (0 : Int), (-(1 : Int)), (1 : Int), (-(2 : Int)), saw, (saw + (1 : Int)), (saw + (2 : Int))] : List Int)).1) else (1 : Int)) := ⟨_, rfl⟩
        obtain ⟨s_14, hx_s_14⟩ : ∃ z : Sto, z = (pickT cs s_8 ([(0 : Int), (0 : Int), (-(1 : Int)), (1 : Int), (-(2 : Int)), saw, (saw + (1 : Int)), (saw + (2 : Int))] : List Int)).2 := ⟨_, rfl⟩
        have s_13 : Stp F_12 [stoO a_st c_st s_8] H_10 F_13 [stoO a_st c_st s_14] H_11 := by subst hx_s_14; exact s_13
        have r_rod : R K F_13 v_rod (eI rod) := by subst hx_rod; exact r_rod
        have st := st.trans s_13
        have r_saw := r_saw.mono s_13.gr
        have r_st := r_st.mono s_13.gr
        have r_many_2 := r_many_2.mono s_13.gr
        have r_most := r_most.mono s_13.gr
        have r_asks_2 := r_asks_2.mono s_13.gr
        have r_need_4 := r_need_4.mono s_13.gr
        show ZS _ _ [some (.ref a_st), some v_saw, some v_many_2, some v_most, some (.ref p_asks), some v_need_4, z_ask_2, some v_rod, none] H_11 _
        have hf : asks_and_rodL cs s saw = asks_and_rodL_8 cs asks rod s_14 := by subst hx_rod; subst hx_s_14; exact hf
        refine zs_ifJ st.ok (zt_val (ze_callS 0 0 (ok_odds T) (hr.mono (by decide)) rfl r_st (za_cons ze_int za_nil) rfl ⟨(6 : Int), rfl, (by /-7-/ first | (first | omega | (simp only [List.length_append, List.length_cons, List.length_nil, List.length_map, rangeI_length]; omega)) | (first | omega | (rw [← szL]; omega) | (simp only [List.length_append, List.length_cons, List.length_nil, List.length_map, rangeI_length, ← szL]; omega))), rfl, rfl⟩)) (fun σ H' => ∃ (j_rod : Int) (j_s_2 : Sto) (F : Hp) (O : Own), asks_and_rodL cs s saw = asks_and_rodL_9 asks j_rod j_s_2 ∧ Stp F_13 [stoO a_st c_st s_14] H_11 F O H' ∧ ∃ (w1 : V), σ = [some (.ref a_st), some v_saw, some v_many_2, some v_most, some (.ref p_asks), some v_need_4, z_ask_2, some w1, none] ∧ O = [stoO a_st c_st j_s_2] ∧ R K F w1 (eI j_rod) ∧ True) (fun hb_3 F_14 H_12 s_15 => ?_) (fun hb_3 F_14 H_12 s_15 => ?_) (fun σ_4 H_13 hJ_2 => ?_)
        · obtain ⟨s_18, hx_s_18⟩ : ∃ z : Sto, z = (odds cs s_14 (6 : Int)).2 := ⟨_, rfl⟩
          have s_15 : Stp F_13 [stoO a_st c_st s_14] H_11 F_14 [stoO a_st c_st s_18] H_12 := by subst hx_s_18; exact s_15
          have sj_2 := s_15
          have st := st.trans s_15
          have r_saw := r_saw.mono s_15.gr
          have r_st := r_st.mono s_15.gr
          have r_many_2 := r_many_2.mono s_15.gr
          have r_most := r_most.mono s_15.gr
          have r_asks_2 := r_asks_2.mono s_15.gr
          have r_need_4 := r_need_4.mono s_15.gr
          have r_rod := r_rod.mono s_15.gr
          have hf := hf.trans (cond_t hb_3)
          have hf : asks_and_rodL cs s saw = asks_and_rodL_10 cs asks s_18 := by subst hx_s_18; exact hf
          refine zs_set (n := 7) st.ok (ze_callS 0 0 (ok_number T) (hr.mono (by decide)) rfl r_st (za_cons ze_int (za_cons (ze_to (d' := eI 1000000) (ze_pow ze_int ze_int (by exact ⟨by decide, by decide, by decide⟩)) (congrArg eI (by decide)) rfl) za_nil)) rfl ⟨(1 : Int), (1000000 : Int), rfl, (by /-8-/ first | (first | omega | (simp only [List.length_append, List.length_cons, List.length_nil, List.length_map, rangeI_length]; omega)) | (first | omega | (rw [← szL]; omega) | (simp only [List.length_append, List.length_cons, List.length_nil, List.length_map, rangeI_length, ← szL]; omega))), rfl, rfl⟩) sc.nd rfl (by first | exact Or.inl rfl | exact Or.inr rfl) fun v_rod_3 F_17 H_15 s_19 r_rod_3 => ?_
          obtain ⟨rod_2, hx_rod_2⟩ : ∃ z : Int, z = (number cs s_18 (1 : Int) (1000000 : Int)).1 := ⟨_, rfl⟩
          obtain ⟨s_20, hx_s_20⟩ : ∃ z : Sto, z = (number cs s_18 (1 : Int) (1000000 : Int)).2 := ⟨_, rfl⟩
          have s_19 : Stp F_14 [stoO a_st c_st s_18] H_12 F_17 [stoO a_st c_st s_20] H_15 := by subst hx_s_20; exact s_19
          have r_rod_3 : R K F_17 v_rod_3 (eI rod_2) := by subst hx_rod_2; exact r_rod_3
          have st := st.trans s_19
          have sj_2 := sj_2.trans s_19
          have r_saw := r_saw.mono s_19.gr
          have r_st := r_st.mono s_19.gr
          have r_many_2 := r_many_2.mono s_19.gr
          have r_most := r_most.mono s_19.gr
          have r_asks_2 := r_asks_2.mono s_19.gr
          have r_need_4 := r_need_4.mono s_19.gr
          show ZS _ _ [some (.ref a_st), some v_saw, some v_many_2, some v_most, some (.ref p_asks), some v_need_4, z_ask_2, some v_rod_3, none] H_15 _
          have hf : asks_and_rodL cs s saw = asks_and_rodL_11 asks rod_2 s_20 := by subst hx_rod_2; subst hx_s_20; exact hf
          refine zs_nil ?_
          exact ⟨rod_2, s_20, _, _, hf, sj_2, v_rod_3, rfl, rfl, r_rod_3, trivial⟩
        · obtain ⟨s_21, hx_s_21⟩ : ∃ z : Sto, z = (odds cs s_14 (6 : Int)).2 := ⟨_, rfl⟩
          have s_15 : Stp F_13 [stoO a_st c_st s_14] H_11 F_14 [stoO a_st c_st s_21] H_12 := by subst hx_s_21; exact s_15
          have sj_2 := s_15
          have st := st.trans s_15
          have r_saw := r_saw.mono s_15.gr
          have r_st := r_st.mono s_15.gr
          have r_many_2 := r_many_2.mono s_15.gr
          have r_most := r_most.mono s_15.gr
          have r_asks_2 := r_asks_2.mono s_15.gr
          have r_need_4 := r_need_4.mono s_15.gr
          have r_rod := r_rod.mono s_15.gr
          have hf := hf.trans (cond_f hb_3)
          have hf : asks_and_rodL cs s saw = asks_and_rodL_12 asks rod s_21 := by subst hx_s_21; exact hf
          refine zs_nil ?_
          exact ⟨rod, s_21, _, _, hf, sj_2, v_rod, rfl, rfl, r_rod, trivial⟩
        · obtain ⟨j_rod, j_s_2, F_15, O_5, hf, s_16, hJ_2⟩ := hJ_2
          obtain ⟨v_rod_2, rfl, rfl, r_rod_2, hinv_4⟩ := hJ_2
          have r_rod_2 : R K _ v_rod_2 (eI j_rod) := r_rod_2
          have st := st.trans s_16
          have r_saw := r_saw.mono s_16.gr
          have r_st := r_st.mono s_16.gr
          have r_many_2 := r_many_2.mono s_16.gr
          have r_most := r_most.mono s_16.gr
          have r_asks_2 := r_asks_2.mono s_16.gr
          have r_need_4 := r_need_4.mono s_16.gr
          show ZS _ _ [some (.ref a_st), some v_saw, some v_many_2, some v_most, some (.ref p_asks), some v_need_4, z_ask_2, some v_rod_2, none] H_13 _
          refine zs_ret st.ok (ze_tup (za_cons (ze_var 4 rfl r_asks_2) (za_cons (ze_var 7 rfl r_rod_2) za_nil))) fun v_2 F_16 H_14 s_17 r_3 => ?_
          exact q v_2 F_16 H_14 (by rw [hf]; exact (st.trans s_17)) (by rw [hf]; exact r_3)
/-! _law_lay_two -/
abbrev s_lay_twoL : Stmt := topS 25
theorem sc_lay_twoL : FnScope ["saw", "rods", "asks", "one", "two", "loads", "places", "k", "rod"] ["saw", "rods", "asks"] (defScope s_lay_twoL) := ⟨rfl, rfl, rfl, by decide +kernel, rfl, by decide +kernel, by decide +kernel⟩
def lay_twoL_3 (loads_3 : (List Int)) : ((List Int)) :=
  loads_3
def lay_twoL_L3b (saw : Int) (asks : (List Int)) (places : (List Int)) (loads_2 : (List Int)) (k : Int) : ((List Int)) :=
  lay_twoL_3 (setL loads_2 (ixL places k) (((ixL loads_2 (ixL places k)) + (ixL asks k)) + saw))
def lay_twoL_L3 (saw : Int) (asks : (List Int)) (places : (List Int)) (b : ((List Int))) (a : Int) : ((List Int)) :=
  lay_twoL_L3b saw asks places b a
def lay_twoL_4 (saw : Int) (rods : (List Int)) (b : ((List Int))) : Turn Unit Bool :=
  (cond (((rangeI 0 (rods.length : Int)).map (fun a_k : Int => decide ((ixL b a_k) ≤ ((ixL rods a_k) + saw)))).all id) (.rt true) (.nx ()))
def lay_twoL_2 (saw : Int) (rods : (List Int)) (asks : (List Int)) (loads : (List Int)) (places : (List Int)) : Turn Unit Bool :=
  (lay_twoL_4 saw rods) (List.foldl (lay_twoL_L3 saw asks places) loads (rangeI 0 (asks.length : Int)))
def lay_twoL_1 (saw : Int) (rods : (List Int)) (asks : (List Int)) (one : Int) (two : Int) (loads : (List Int)) : Turn Unit Bool :=
  lay_twoL_2 saw rods asks loads ([one, two] : List Int)
def lay_twoL_L2b (saw : Int) (rods : (List Int)) (asks : (List Int)) (one : Int) (two : Int) : Turn Unit Bool :=
  lay_twoL_1 saw rods asks one two (rods.map (fun a_rod : Int => (0 : Int)))
def lay_twoL_L2 (saw : Int) (rods : (List Int)) (asks : (List Int)) (one : Int) (b : Unit) (a : Int) : Turn Unit Bool :=
  lay_twoL_L2b saw rods asks one a
def lay_twoL_5 (b : Unit) : Turn Unit Bool :=
  .nx ()
def lay_twoL_L1b (saw : Int) (rods : (List Int)) (asks : (List Int)) (one : Int) : Turn Unit Bool :=
  outE (loopT (lay_twoL_L2 saw rods asks one) () (rangeI 0 (rods.length : Int))) lay_twoL_5 (fun r => .rt r)
def lay_twoL_L1 (saw : Int) (rods : (List Int)) (asks : (List Int)) (b : Unit) (a : Int) : Turn Unit Bool :=
  lay_twoL_L1b saw rods asks a
def lay_twoL_6 (b : Unit) : Bool :=
  false
def lay_twoL (saw : Int) (rods : (List Int)) (asks : (List Int)) : Bool :=
  outE (loopT (lay_twoL_L1 saw rods asks) () (rangeI 0 (rods.length : Int))) lay_twoL_6 (fun r => r)
def A_lay_twoL : List PyData → PyData → Prop := fun ds r => ∃ (saw : Int) (rods : (List Int)) (asks : (List Int)), ds = [eI saw, (eL eI) rods, (eL eI) asks] ∧ (rods.length ≤ 2 ∧ asks.length ≤ 2) ∧ r = eB (lay_twoL saw rods asks)
set_option maxHeartbeats 4000000 in
theorem ok_lay_twoL {P : Program} {w : World} {K : PySem.W.Frag} {mg : Str → Option Value} {base : Heap} (T : Top K mg) : Fn P w K mg base 1 "_law_lay_two" ["saw", "rods", "asks"] (spD K A_lay_twoL) := by
  obtain ⟨f, fd, F, gm⟩ := T.f_lay_twoL
  have sc := sc_lay_twoL
  refine ⟨f, fd, F.ok sc (fun vs H Q E h => ?_) (fun cdv A outer s0 H vs Q E hr h => ⟨_, PSs.nox pss_w, ?_⟩), gm, F.kp, F.bindsN (fun _ _ _ _ _ _ us hl => match us, hl with | [_, _, _], _ => rfl)⟩
  · obtain ⟨F, ds, r, w, ra, ⟨saw, rods, asks, rfl, hpre, rfl⟩, q⟩ := h
    exact ra.len
  · obtain ⟨F, ds, r, w, ra, ⟨saw, rods, asks, rfl, hpre, rfl⟩, q⟩ := h
    obtain ⟨v_saw, ws, rfl, r_saw, ra⟩ := ra.cons_inv
    obtain ⟨v_rods, ws, rfl, r_rods, ra⟩ := ra.cons_inv
    obtain ⟨v_asks, ws, rfl, r_asks, ra⟩ := ra.cons_inv
    obtain rfl := ra.nil_inv
    have st := Stp.refl w
    have hf : lay_twoL saw rods asks = lay_twoL saw rods asks := rfl
    show ZS _ _ [some v_saw, some v_rods, some v_asks, none, none, none, none, none, none] H _
    refine zs_forT (f := (lay_twoL_L1 saw rods asks)) (b0 := ()) st.ok PassesOwn.never rfl (zi_range1 T.b_range (ze_lenLt T.b_len (ze_var 1 rfl r_rods)) (by /-1-/ first | (first | omega | (simp only [List.length_append, List.length_cons, List.length_nil, List.length_map, rangeI_length]; omega)) | (first | omega | (rw [← szL]; omega) | (simp only [List.length_append, List.length_cons, List.length_nil, List.length_map, rangeI_length, ← szL]; omega)))) (fun iq b σ F O => ∃ (z1 : Option V) (z2 : Option V) (z3 : Option V) (z4 : Option V) (z5 : Option V), σ = [some v_saw, some v_rods, some v_asks, z1, z2, z3, z4, z5, none] ∧ O = [] ∧ True) (fun F_20 H_16 s_16 => ⟨none, none, none, none, none, rfl, rfl, trivial⟩) (fun i b one v σ F_2 F_3 O_2 H_2 ha hbe hz rel g s_2 r_2 => ?_) (fun j_3 b_6 σ_6 F_18 O_7 H_14 hb_4 s_14 rel_6 => ?_)
    · skip
      obtain ⟨z_one, z_two, z_loads, z_places, z_k, rfl, rfl, hinv⟩ := rel
      have st := st.trans s_2
      have r_saw := r_saw.mono s_2.gr
      have r_rods := r_rods.mono s_2.gr
      have r_asks := r_asks.mono s_2.gr
      have hlt_i := (List.getElem?_eq_some_iff.mp ha).1
      rw [rangeI_length] at hlt_i
      have hat_i := rangeI_at ha
      have sb : Stp F_3 [] H_2 F_3 [] H_2 := Stp.refl st.ok
      have hfb : lay_twoL_L1 saw rods asks () one = lay_twoL_L1b saw rods asks one := rfl
      refine zg_name (n := 3) sc.nd rfl (by first | exact Or.inl rfl | exact Or.inr rfl) ?_
      show ZS _ _ [some v_saw, some v_rods, some v_asks, some v, z_two, z_loads, z_places, z_k, none] H_2 _
      refine zs_forT (f := (lay_twoL_L2 saw rods asks one)) (b0 := ()) st.ok PassesOwn.never rfl (zi_range1 T.b_range (ze_lenLt T.b_len (ze_var 1 rfl r_rods)) (by /-2-/ first | (first | omega | (simp only [List.length_append, List.length_cons, List.length_nil, List.length_map, rangeI_length]; omega)) | (first | omega | (rw [← szL]; omega) | (simp only [List.length_append, List.length_cons, List.length_nil, List.length_map, rangeI_length, ← szL]; omega)))) (fun iq b σ F O => ∃ (z1 : Option V) (z2 : Option V) (z3 : Option V) (z4 : Option V), σ = [some v_saw, some v_rods, some v_asks, some v, z1, z2, z3, z4, none] ∧ O = [] ∧ True) (fun F_17 H_13 s_13 => ⟨z_two, z_loads, z_places, z_k, rfl, rfl, trivial⟩) (fun i_2 b_2 two v_2 σ_2 F_4 F_5 O_3 H_3 ha_2 hbe_2 hz_2 rel_2 g_2 s_3 r_3 => ?_) (fun j_2 b_5 σ_5 F_16 O_6 H_12 hb_3 s_12 rel_5 => ?_)
      · skip
        obtain ⟨z_two_2, z_loads_2, z_places_2, z_k_2, rfl, rfl, hinv_2⟩ := rel_2
        have st := st.trans s_3
        have sb := sb.trans s_3
        have r_saw := r_saw.mono s_3.gr
        have r_rods := r_rods.mono s_3.gr
        have r_asks := r_asks.mono s_3.gr
        have r_2 := r_2.mono s_3.gr
        have hlt_i_2 := (List.getElem?_eq_some_iff.mp ha_2).1
        rw [rangeI_length] at hlt_i_2
        have hat_i_2 := rangeI_at ha_2
        have sb_2 : Stp F_5 [] H_3 F_5 [] H_3 := Stp.refl st.ok
        have hfb_2 : lay_twoL_L2 saw rods asks one () two = lay_twoL_L2b saw rods asks one two := rfl
        refine zg_name (n := 4) sc.nd rfl (by first | exact Or.inl rfl | exact Or.inr rfl) ?_
        show ZS _ _ [some v_saw, some v_rods, some v_asks, some v, some v_2, z_loads_2, z_places_2, z_k_2, none] H_3 _
        refine zs_setN (n := 5) st.ok (zn_lcM (n := 8) (f0 := (fun a_rod : Int => (0 : Int))) (encR := eI) rfl sc.nd (zi_list (ze_var 1 rfl r_rods)) (fun _ _ _ _ _ a_rod v_a_rod _ h_a_rod g_c r_a_rod => ze_int) (blkOk_by (N := ["saw", "rods", "asks", "one", "two", "loads", "places", "k", "rod"]) (sc := defScope (topS 25)) (by decide +kernel)) (fun _ _ _ _ _ => pg_name (i := 8) sc.nd rfl (Or.inl rfl))) sc.nd rfl (by first | exact Or.inl rfl | exact Or.inr rfl) fun p_loads us_loads F_6 H_4 hp_2 s_4 r_loads => ?_
        obtain ⟨loads, hx_loads⟩ : ∃ z : (List Int), z = (rods.map (fun a_rod : Int => (0 : Int))) := ⟨_, rfl⟩
        have hn := st.newAt hp_2
        have hn_2 := sb.newAt hp_2
        have hn_3 := sb_2.newAt hp_2
        have s_4 : Stp F_5 [] H_3 F_6 [(p_loads, .lst us_loads)] H_4 := by exact s_4
        have r_loads : RA K F_6 us_loads (loads.map eI) := by subst hx_loads; exact r_loads
        have st := st.trans s_4
        have sb := sb.trans s_4
        have sb_2 := sb_2.trans s_4
        have r_saw := r_saw.mono s_4.gr
        have r_rods := r_rods.mono s_4.gr
        have r_asks := r_asks.mono s_4.gr
        have r_2 := r_2.mono s_4.gr
        have r_3 := r_3.mono s_4.gr
        show ZS _ _ [some v_saw, some v_rods, some v_asks, some v, some v_2, some (.ref p_loads), z_places_2, z_k_2, none] H_4 _
        have hfb_2 : lay_twoL_L2 saw rods asks one () two = lay_twoL_1 saw rods asks one two loads := by subst hx_loads; exact hfb_2
        refine zs_setN (n := 6) st.ok (zn_lstt (enc := eI) (xs := ([one, two] : List Int)) (za_cons (ze_var 3 rfl r_2) (za_cons (ze_var 4 rfl r_3) za_nil))) sc.nd rfl (by first | exact Or.inl rfl | exact Or.inr rfl) fun p_places us_places F_7 H_5 hp_3 s_5 r_places => ?_
        obtain ⟨places, hx_places⟩ : ∃ z : (List Int), z = ([one, two] : List Int) := ⟨_, rfl⟩
        have hn_4 := st.newAt hp_3
        have hn_5 := sb.newAt hp_3
        have hn_6 := sb_2.newAt hp_3
        have s_5 : Stp F_6 [(p_loads, .lst us_loads)] H_4 F_7 [(p_places, .lst us_places), (p_loads, .lst us_loads)] H_5 := by exact s_5
        have r_places : RA K F_7 us_places (places.map eI) := by subst hx_places; exact r_places
        have st := st.trans s_5
        have sb := sb.trans s_5
        have sb_2 := sb_2.trans s_5
        have r_saw := r_saw.mono s_5.gr
        have r_rods := r_rods.mono s_5.gr
        have r_asks := r_asks.mono s_5.gr
        have r_2 := r_2.mono s_5.gr
        have r_3 := r_3.mono s_5.gr
        have r_loads := r_loads.mono s_5.gr
        have gz : Gr F_7 (upd F_7 p_places (.lst us_places)) := Gr.upd (st.ok.at_ (k := 0) rfl).2
        have r_places_2 : R K (upd F_7 p_places (.lst us_places)) (.ref p_places) (eL eI places) := (r_places.mono gz).lst upd_same
        have st : Stp _ _ _ (upd F_7 p_places (.lst us_places)) [(p_loads, .lst us_loads)] H_5 := st.freezeAt 0 rfl hn_4
        have sb : Stp _ _ _ (upd F_7 p_places (.lst us_places)) [(p_loads, .lst us_loads)] H_5 := sb.freezeAt 0 rfl hn_5
        have sb_2 : Stp _ _ _ (upd F_7 p_places (.lst us_places)) [(p_loads, .lst us_loads)] H_5 := sb_2.freezeAt 0 rfl hn_6
        have r_saw := r_saw.mono gz
        have r_rods := r_rods.mono gz
        have r_asks := r_asks.mono gz
        have r_2 := r_2.mono gz
        have r_3 := r_3.mono gz
        have r_loads := r_loads.mono gz
        show ZS _ _ [some v_saw, some v_rods, some v_asks, some v, some v_2, some (.ref p_loads), some (.ref p_places), z_k_2, none] H_5 _
        have hfb_2 : lay_twoL_L2 saw rods asks one () two = lay_twoL_2 saw rods asks loads places := by subst hx_places; exact hfb_2
        refine zs_forF (f := (lay_twoL_L3 saw asks places)) (b0 := loads) st.ok PassesOwn.never rfl (zi_range1 T.b_range (ze_lenLt T.b_len (ze_var 2 rfl r_asks)) (by /-3-/ first | (first | omega | (simp only [List.length_append, List.length_cons, List.length_nil, List.length_map, rangeI_length]; omega)) | (first | omega | (rw [← szL]; omega) | (simp only [List.length_append, List.length_cons, List.length_nil, List.length_map, rangeI_length, ← szL]; omega)))) (fun iq b σ F O => ∃ (z1 : Option V) (w2 : List V), σ = [some v_saw, some v_rods, some v_asks, some v, some v_2, some (.ref p_loads), some (.ref p_places), z1, none] ∧ O = [(p_loads, .lst w2)] ∧ RA K F w2 (b.map eI) ∧ (b.length = rods.length)) (fun F_15 H_11 s_11 => ⟨z_k_2, us_loads, rfl, rfl, r_loads.mono s_11.gr, by rw [hx_loads, List.length_map]⟩) (fun i_3 b_3 k v_3 σ_3 F_9 F_10 O_4 H_6 ha_3 hbe_3 hz_3 rel_3 g_3 s_6 r_4 => ?_) (fun σ_4 F_12 O_5 H_8 s_8 rel_4 => ?_)
        · skip
          obtain ⟨loads_2, rfl⟩ : ∃ z, z = b_3 := ⟨_, rfl⟩
          obtain ⟨z_k_3, us_loads_2, rfl, rfl, r_loads_2, hinv_3⟩ := rel_3
          have r_loads_2 : RA K _ us_loads_2 (loads_2.map eI) := r_loads_2
          have st := st.trans s_6
          have sb := sb.trans s_6
          have sb_2 := sb_2.trans s_6
          have r_saw := r_saw.mono s_6.gr
          have r_rods := r_rods.mono s_6.gr
          have r_asks := r_asks.mono s_6.gr
          have r_2 := r_2.mono s_6.gr
          have r_3 := r_3.mono s_6.gr
          have r_places_2 := r_places_2.mono s_6.gr
          have r_loads_2 := r_loads_2.mono g_3
          have hinv_3 : loads_2.length = rods.length := hinv_3
          have hlt_i_3 := (List.getElem?_eq_some_iff.mp ha_3).1
          rw [rangeI_length] at hlt_i_3
          have hat_i_3 := rangeI_at ha_3
          have sb_3 : Stp F_10 [(p_loads, .lst us_loads_2)] H_6 F_10 [(p_loads, .lst us_loads_2)] H_6 := Stp.refl st.ok
          have hfb_3 : lay_twoL_L3 saw asks places loads_2 k = lay_twoL_L3b saw asks places loads_2 k := rfl
          refine zg_name (n := 7) sc.nd rfl (by first | exact Or.inl rfl | exact Or.inr rfl) ?_
          show ZS _ _ [some v_saw, some v_rods, some v_asks, some v, some v_2, some (.ref p_loads), some (.ref p_places), some v_3, none] H_6 _
          have hpl : 0 ≤ ixL places k ∧ ixL places k < rods.length := by
                      have hk : k = 0 ∨ k = 1 := by omega
                      rcases hk with e | e <;> (rw [hx_places, e])
                      · show 0 ≤ one ∧ one < (rods.length : Int); omega
                      · show 0 ≤ two ∧ two < (rods.length : Int); omega
          have hpk : (places.length : Int) = 2 := by rw [hx_places]; rfl
          obtain ⟨q_2, hq, q_2_lt⟩ : ∃ q, ixN loads_2.length (ixL places k) = some q ∧ q < loads_2.length := ixN_in (by /-8-/ first | (first | omega | (simp only [List.length_append, List.length_cons, List.length_nil, List.length_map, rangeI_length]; omega)) | (first | omega | (rw [← szL]; omega) | (simp only [List.length_append, List.length_cons, List.length_nil, List.length_map, rangeI_length, ← szL]; omega)))
          have hl : (us_loads_2).length = loads_2.length := by have h := r_loads_2.len; exact h.trans (by rw [List.length_map])
          refine zs_setItem (q := q_2) st.ok 5 0 rfl (ze_add (ze_add (ze_ixOt (enc := eI) 5 0 rfl (ze_ixLt (enc := eI) (ze_var 6 rfl r_places_2) (ze_var 7 rfl r_4) (by /-4-/ first | (first | omega | (simp only [List.length_append, List.length_cons, List.length_nil, List.length_map, rangeI_length]; omega)) | (first | omega | (rw [← szL]; omega) | (simp only [List.length_append, List.length_cons, List.length_nil, List.length_map, rangeI_length, ← szL]; omega)))) rfl r_loads_2 (by /-5-/ first | (first | omega | (simp only [List.length_append, List.length_cons, List.length_nil, List.length_map, rangeI_length]; omega)) | (first | omega | (rw [← szL]; omega) | (simp only [List.length_append, List.length_cons, List.length_nil, List.length_map, rangeI_length, ← szL]; omega)))) (ze_ixLt (enc := eI) (ze_var 2 rfl r_asks) (ze_var 7 rfl r_4) (by /-6-/ first | (first | omega | (simp only [List.length_append, List.length_cons, List.length_nil, List.length_map, rangeI_length]; omega)) | (first | omega | (rw [← szL]; omega) | (simp only [List.length_append, List.length_cons, List.length_nil, List.length_map, rangeI_length, ← szL]; omega))))) (ze_var 0 rfl r_saw)) (ze_ixLt (enc := eI) (ze_var 6 rfl r_places_2) (ze_var 7 rfl r_4) (by /-7-/ first | (first | omega | (simp only [List.length_append, List.length_cons, List.length_nil, List.length_map, rangeI_length]; omega)) | (first | omega | (rw [← szL]; omega) | (simp only [List.length_append, List.length_cons, List.length_nil, List.length_map, rangeI_length, ← szL]; omega)))) rfl (by rw [hl]; exact hq) fun v_4 F_11 H_7 s_7 r_5 => ?_
          obtain ⟨loads_3, hx_loads_3⟩ : ∃ z : (List Int), z = setL loads_2 (ixL places k) (((ixL loads_2 (ixL places k)) + (ixL asks k)) + saw) := ⟨_, rfl⟩
          obtain ⟨us_loads_3, hus_loads_3⟩ : ∃ z, z = us_loads_2.set q_2 v_4 := ⟨_, rfl⟩
          have s_7 : Stp F_10 [(p_loads, .lst us_loads_2)] H_6 F_11 [(p_loads, .lst us_loads_3)] H_7 := by subst hus_loads_3; exact s_7
          have r_loads_3 : RA K F_11 us_loads_3 (loads_3.map eI) := by rw [hus_loads_3, hx_loads_3, setL_eq hq, List.map_set]; exact (r_loads_2.mono s_7.gr).set r_5
          have st := st.trans s_7
          have sb := sb.trans s_7
          have sb_2 := sb_2.trans s_7
          have sb_3 := sb_3.trans s_7
          have r_saw := r_saw.mono s_7.gr
          have r_rods := r_rods.mono s_7.gr
          have r_asks := r_asks.mono s_7.gr
          have r_2 := r_2.mono s_7.gr
          have r_3 := r_3.mono s_7.gr
          have r_places_2 := r_places_2.mono s_7.gr
          have r_4 := r_4.mono s_7.gr
          show ZS _ _ [some v_saw, some v_rods, some v_asks, some v, some v_2, some (.ref p_loads), some (.ref p_places), some v_3, none] H_7 _
          have hfb_3 : lay_twoL_L3 saw asks places loads_2 k = lay_twoL_3 loads_3 := by subst hx_loads_3; exact hfb_3
          refine zs_nil ?_
          exact ⟨_, _, sb_3, by (try rw [hfb_3]); exact ⟨some v_3, us_loads_3, rfl, rfl, r_loads_3, (show loads_3.length = rods.length from by rw [hx_loads_3, setL_length]; exact hinv_3)⟩⟩
        · skip
          obtain ⟨b_4, hb⟩ : ∃ z : ((List Int)), z = List.foldl (lay_twoL_L3 saw asks places) loads (rangeI 0 (asks.length : Int)) := ⟨_, rfl⟩
          try rw [← hb] at rel_4
          obtain ⟨loads_4, rfl⟩ : ∃ z, z = b_4 := ⟨_, rfl⟩
          obtain ⟨z_k_4, us_loads_4, rfl, rfl, r_loads_4, hinv_4⟩ := rel_4
          have r_loads_4 : RA K _ us_loads_4 (loads_4.map eI) := r_loads_4
          have st := st.trans s_8
          have sb := sb.trans s_8
          have sb_2 := sb_2.trans s_8
          have r_saw := r_saw.mono s_8.gr
          have r_rods := r_rods.mono s_8.gr
          have r_asks := r_asks.mono s_8.gr
          have r_2 := r_2.mono s_8.gr
          have r_3 := r_3.mono s_8.gr
          have r_places_2 := r_places_2.mono s_8.gr
          have hinv_4 : loads_4.length = rods.length := hinv_4
          have hfb_2 : lay_twoL_L2 saw rods asks one () two = (lay_twoL_4 saw rods) loads_4 := by rw [hb]; exact hfb_2
          have hlen := hinv_4
          show ZS _ _ [some v_saw, some v_rods, some v_asks, some v, some v_2, some (.ref p_loads), some (.ref p_places), z_k_4, none] H_8 _
          refine zs_if st.ok (zt_val (ze_all rfl T.b_all (zn_ze (zn_lcM (n := 7) (f0 := (fun a_k : Int => decide ((ixL loads_4 a_k) ≤ ((ixL rods a_k) + saw)))) (encR := eB) rfl sc.nd (zi_range1 T.b_range (ze_lenLt T.b_len (ze_var 1 rfl r_rods)) (by /-9-/ first | (first | omega | (simp only [List.length_append, List.length_cons, List.length_nil, List.length_map, rangeI_length]; omega)) | (first | omega | (rw [← szL]; omega) | (simp only [List.length_append, List.length_cons, List.length_nil, List.length_map, rangeI_length, ← szL]; omega)))) (fun _ _ _ _ _ a_k v_a_k _ h_a_k g_c_2 r_a_k => (ze_cm cm_le (ze_ixOt (enc := eI) 5 0 rfl (ze_var 7 rfl r_a_k) rfl (r_loads_4.mono g_c_2) (by /-10-/ have h8 := rangeI_mem.mp h_a_k; first | omega | (rw [hlen]; omega))) (ze_add (ze_ixLt (enc := eI) (ze_var 1 rfl (r_rods.mono g_c_2)) (ze_var 7 rfl r_a_k) (by /-11-/ have h8 := rangeI_mem.mp h_a_k; first | omega | (rw [hlen]; omega))) (ze_var 0 rfl (r_saw.mono g_c_2))))) (blkOk_by (N := ["saw", "rods", "asks", "one", "two", "loads", "places", "k", "rod"]) (sc := defScope (topS 25)) (by decide +kernel)) (fun _ _ _ _ _ => pg_name (i := 7) sc.nd rfl (Or.inl rfl)))))) (fun hb_2 F_13 H_9 s_9 => ?_) (fun hb_2 F_13 H_9 s_9 => ?_)
          · have s_9 : Stp F_12 [(p_loads, .lst us_loads_4)] H_8 F_13 [(p_loads, .lst us_loads_4)] H_9 := by exact s_9
            have st := st.trans s_9
            have sb := sb.trans s_9
            have sb_2 := sb_2.trans s_9
            have r_saw := r_saw.mono s_9.gr
            have r_rods := r_rods.mono s_9.gr
            have r_asks := r_asks.mono s_9.gr
            have r_2 := r_2.mono s_9.gr
            have r_3 := r_3.mono s_9.gr
            have r_loads_4 := r_loads_4.mono s_9.gr
            have r_places_2 := r_places_2.mono s_9.gr
            have hfb_2 := hfb_2.trans (cond_t hb_2)
            refine zs_ret st.ok ze_bl fun v_5 F_14 H_10 s_10 r_6 => ?_
            have hret := hfb.trans (outE_rt (hbe_2.trans (loopT_rt hfb_2)))
            have hret_2 := hf.trans (outE_rt (hbe.trans (loopT_rt hret)))
            have hret_3 : lay_twoL saw rods asks = true := hret_2
            exact q v_5 F_14 H_10 ((st.trans s_10).dropAt 0) (by rw [hret_3]; exact r_6)
          · have s_9 : Stp F_12 [(p_loads, .lst us_loads_4)] H_8 F_13 [(p_loads, .lst us_loads_4)] H_9 := by exact s_9
            have st := st.trans s_9
            have sb := sb.trans s_9
            have sb_2 := sb_2.trans s_9
            have r_saw := r_saw.mono s_9.gr
            have r_rods := r_rods.mono s_9.gr
            have r_asks := r_asks.mono s_9.gr
            have r_2 := r_2.mono s_9.gr
            have r_3 := r_3.mono s_9.gr
            have r_loads_4 := r_loads_4.mono s_9.gr
            have r_places_2 := r_places_2.mono s_9.gr
            have hfb_2 := hfb_2.trans (cond_f hb_2)
            refine zs_nil ?_
            show ZS _ _ [some v_saw, some v_rods, some v_asks, some v, some v_2, some (.ref p_loads), some (.ref p_places), z_k_4, none] H_9 _
            refine zs_nil ?_
            have st := st.dropAt 0
            have sb := sb.dropAt 0
            have sb_2 := sb_2.dropAt 0
            exact ⟨(), _, _, hfb_2, sb_2, some v_2, some (.ref p_loads), some (.ref p_places), z_k_4, rfl, rfl, trivial⟩
      · skip
        obtain ⟨z_two_3, z_loads_3, z_places_3, z_k_5, rfl, rfl, hinv_5⟩ := rel_5
        have st := st.trans s_12
        have sb := sb.trans s_12
        have r_saw := r_saw.mono s_12.gr
        have r_rods := r_rods.mono s_12.gr
        have r_asks := r_asks.mono s_12.gr
        have r_2 := r_2.mono s_12.gr
        have hfb : lay_twoL_L1 saw rods asks () one = lay_twoL_5 () := hfb.trans (outE_nx hb_3)
        show ZS _ _ [some v_saw, some v_rods, some v_asks, some v, z_two_3, z_loads_3, z_places_3, z_k_5, none] H_12 _
        refine zs_nil ?_
        exact ⟨(), _, _, hfb, sb, some v, z_two_3, z_loads_3, z_places_3, z_k_5, rfl, rfl, trivial⟩
    · skip
      obtain ⟨z_one_2, z_two_4, z_loads_4, z_places_4, z_k_6, rfl, rfl, hinv_6⟩ := rel_6
      have st := st.trans s_14
      have r_saw := r_saw.mono s_14.gr
      have r_rods := r_rods.mono s_14.gr
      have r_asks := r_asks.mono s_14.gr
      have hf : lay_twoL saw rods asks = lay_twoL_6 () := hf.trans (outE_nx hb_4)
      show ZS _ _ [some v_saw, some v_rods, some v_asks, z_one_2, z_two_4, z_loads_4, z_places_4, z_k_6, none] H_14 _
      refine zs_ret st.ok ze_bl fun v_6 F_19 H_15 s_15 r_7 => ?_
      exact q v_6 F_19 H_15 (st.trans s_15) (by rw [hf]; exact r_7)
/-! ### what the rods' cutting answers -/
theorem cond_if {α : Type} {p : Prop} [Decidable p] {a b : α} : cond (decide p) a b = if p then a else b := by
  by_cases h : p <;> simp [h]
theorem rest_eq (saw r a : Int) : rod_restP saw r a = max 0 (r - a - saw) := by
  unfold rod_restP rod_restP_1
  rw [cond_if]
  split <;> omega
theorem stay_eq (saw r a : Int) : stayL saw r a = if r < a then none else some (max 0 (r - a - saw)) := by
  unfold stayL
  rw [cond_if]
  split
  · rfl
  · congr 1
    split <;> omega
theorem stay_some {saw r a : Int} (h : a ≤ r) : stayL saw r a = some (max 0 (r - a - saw)) := by
  rw [stay_eq, if_neg (by omega)]
theorem stay_get {saw r a : Int} (h : a ≤ r) : (stayL saw r a).getD default = max 0 (r - a - saw) := by rw [stay_some h]; rfl
def cutF (saw : Int) : Int → List Int → Option Int
  | r, [] => some r
  | r, a :: as => if r < a then none else cutF saw (max 0 (r - a - saw)) as
theorem cut_rod_loop (saw : Int) : ∀ (xs : List Int) (r : Int), outE (loopT (cut_rodP_L1 saw) r xs) cut_rodP_3 (fun r => r) = cutF saw r xs
  | [], r => rfl
  | a :: as, r => by
    unfold cutF
    by_cases h : r < a
    · rw [if_pos h, loopT_rt (r := none) (by show cut_rodP_L1b saw r a = _; unfold cut_rodP_L1b; rw [cond_if, if_pos h])]; rfl
    · rw [if_neg h, loopT_nx (b' := rod_restP saw r a) (by show cut_rodP_L1b saw r a = _; unfold cut_rodP_L1b; rw [cond_if, if_neg h]; rfl), cut_rod_loop saw as, rest_eq]
theorem cut_rod_F (saw r : Int) (xs : List Int) : cut_rodP saw r xs = cutF saw r xs := cut_rod_loop saw xs r
theorem cut_all_none (saw : Int) : ∀ xs : List Int, xs.foldl (cut_allL_L1 saw) none = none
  | [] => rfl
  | a :: as => by rw [List.foldl_cons]; exact cut_all_none saw as
theorem cut_all_loop (saw : Int) : ∀ (xs : List Int) (r : Int), xs.foldl (cut_allL_L1 saw) (some r) = cutF saw r xs
  | [], r => rfl
  | a :: as, r => by
    rw [List.foldl_cons]
    have e : cut_allL_L1 saw (some r) a = stayL saw r a := rfl
    rw [e, stay_eq]
    unfold cutF
    split
    · exact cut_all_none saw as
    · exact cut_all_loop saw as _
theorem cut_all_F (saw r : Int) (xs : List Int) : cut_allL saw r xs = cutF saw r xs := cut_all_loop saw xs r
theorem load_nil (saw : Int) : loadP saw [] = 0 := rfl
theorem load_cons (saw a : Int) (as : List Int) : loadP saw (a :: as) = a + saw + loadP saw as := by
  unfold loadP; rw [List.map_cons, List.sum_cons]
theorem load_perm {saw : Int} {xs ys : List Int} (h : xs.Perm ys) : loadP saw xs = loadP saw ys := by
  induction h with
  | nil => rfl
  | cons x _ ih => rw [load_cons, load_cons, ih]
  | swap x y l => simp only [load_cons]; omega
  | trans _ _ h1 h2 => exact h1.trans h2
theorem fold_load {saw : Int} {f : Int → Int → Int} (hf : ∀ b a, f b a = b + a + saw) : ∀ (xs : List Int) (b : Int), xs.foldl f b = b + loadP saw xs
  | [], b => by rw [load_nil]; simp
  | a :: as, b => by rw [List.foldl_cons, fold_load hf as, hf, load_cons]; omega
theorem load_nonneg {saw : Int} (hs : 0 ≤ saw) : ∀ {xs : List Int}, (∀ x ∈ xs, 1 ≤ x) → 0 ≤ loadP saw xs
  | [], _ => Int.le_refl _
  | a :: as, h => by
    have := load_nonneg hs (xs := as) fun x hx => h x (List.mem_cons_of_mem _ hx)
    have := h a List.mem_cons_self
    rw [load_cons]; omega
theorem cutF_eq {saw : Int} (hs : 0 ≤ saw) : ∀ {xs : List Int} {r : Int}, 0 ≤ r → (∀ x ∈ xs, 1 ≤ x) → xs ≠ [] → cutF saw r xs = if loadP saw xs ≤ r + saw then some (max 0 (r - loadP saw xs)) else none
  | [], _, _, _, h => absurd rfl h
  | [a], r, hr, hx, _ => by
    have := hx a List.mem_cons_self
    unfold cutF; unfold cutF
    rw [load_cons, load_nil]
    by_cases h : r < a
    · rw [if_pos h, if_neg (by omega)]
    · rw [if_neg h, if_pos (by omega)]; congr 2; omega
  | a :: b :: as, r, hr, hx, _ => by
    have h1 := hx a List.mem_cons_self
    have h2 : ∀ x ∈ b :: as, 1 ≤ x := fun x h => hx x (List.mem_cons_of_mem _ h)
    have h3 := load_nonneg hs (xs := as) fun x h => h2 x (List.mem_cons_of_mem _ h)
    have h4 := h2 b List.mem_cons_self
    have ih := cutF_eq hs (xs := b :: as) (r := max 0 (r - a - saw)) (by omega) h2 (by simp)
    have e : loadP saw (a :: b :: as) = a + saw + loadP saw (b :: as) := load_cons _ _ _
    have e2 : loadP saw (b :: as) = b + saw + loadP saw as := load_cons _ _ _
    rw [show cutF saw r (a :: b :: as) = if r < a then none else cutF saw (max 0 (r - a - saw)) (b :: as) from rfl, ih, e, e2]
    by_cases h : r < a
    · rw [if_pos h, if_neg (by omega)]
    · rw [if_neg h]
      by_cases h5 : b + saw + loadP saw as ≤ max 0 (r - a - saw) + saw
      · rw [if_pos h5, if_pos (by omega)]; congr 1; omega
      · rw [if_neg h5, if_neg (by omega)]
theorem cutF_perm {saw r : Int} (hs : 0 ≤ saw) (hr : 0 ≤ r) {xs ys : List Int} (hx : ∀ x ∈ xs, 1 ≤ x) (h : ys.Perm xs) : cutF saw r ys = cutF saw r xs := by
  cases xs with
  | nil => rw [List.perm_nil.mp h]
  | cons a as =>
    have n1 : ys ≠ [] := fun e => by rw [e] at h; have := h.length_eq; simp at this
    rw [cutF_eq hs hr (fun x hm => hx x (h.mem_iff.mp hm)) n1, cutF_eq hs hr hx (by simp), load_perm h]
theorem bears_due {saw r : Int} (hs : 0 ≤ saw) (hr : 0 ≤ r) {xs ys : List Int} (hx : ∀ x ∈ xs, 1 ≤ x) (h : ys.Perm xs) : ((!isNon ((eO eI) (cutF saw r xs))) || xs.isEmpty) = bearsP saw r ys := by
  unfold bearsP
  rw [load_perm h, isNon_eO (fun _ => rfl)]
  cases xs with
  | nil => rw [load_nil, decide_eq_true (by omega)]; rfl
  | cons a as =>
    rw [cutF_eq hs hr hx (by simp)]
    by_cases g : loadP saw (a :: as) ≤ r + saw
    · rw [if_pos g, decide_eq_true g]; rfl
    · rw [if_neg g, decide_eq_false g]; rfl
theorem orders_perm {cs : List Int} {s : Sto} {asks row : List Int} (hl : asks.length ≤ 40) (h : row ∈ ([asks, asks.reverse, (sortI asks), (shufT cs s asks).1] : List (List Int))) : row.Perm asks := by
  simp only [List.mem_cons, List.not_mem_nil, or_false] at h
  rcases h with rfl | rfl | rfl | rfl
  · exact List.Perm.refl _
  · exact List.reverse_perm _
  · exact sortI_perm _
  · exact shufT_perm
/-! ### two asks on two rods -/
def fits2 (saw : Int) (rods asks : List Int) (one two : Int) : Bool := ((rangeI 0 (rods.length : Int)).map (fun a_k : Int => decide ((ixL (List.foldl (lay_twoL_L3 saw asks [one, two]) (rods.map (fun a_rod : Int => (0 : Int))) (rangeI 0 (asks.length : Int))) a_k) ≤ ((ixL rods a_k) + saw)))).all id
theorem loop_any {f : Unit → Int → Turn Unit Bool} {c : Int → Bool} (h : ∀ x, f () x = cond (c x) (.rt true) (.nx ())) : ∀ xs : List Int, loopT f () xs = cond (xs.any c) (.rt true) (.nx ())
  | [] => rfl
  | x :: xs => by
    rw [List.any_cons]
    cases e : c x with
    | true => rw [loopT_rt (r := true) (by rw [h, e]; rfl)]; rfl
    | false => rw [loopT_nx (b' := ()) (by rw [h, e]; rfl), loop_any h xs]; rfl
theorem lay_two_any (saw : Int) (rods asks : List Int) : lay_twoL saw rods asks = (rangeI 0 (rods.length : Int)).any fun one => (rangeI 0 (rods.length : Int)).any fun two => fits2 saw rods asks one two := by
  unfold lay_twoL
  rw [loop_any (c := fun one => (rangeI 0 (rods.length : Int)).any fun two => fits2 saw rods asks one two)]
  · cases (rangeI 0 (rods.length : Int)).any fun one => (rangeI 0 (rods.length : Int)).any fun two => fits2 saw rods asks one two <;> rfl
  · intro one
    show lay_twoL_L1b saw rods asks one = _
    unfold lay_twoL_L1b
    rw [loop_any (c := fun two => fits2 saw rods asks one two) (fun two => rfl)]
    cases (rangeI 0 (rods.length : Int)).any fun two => fits2 saw rods asks one two <;> rfl
theorem lay_11 (saw r p : Int) : lay_twoL saw [r] [p] = decide (p ≤ r) := by
  rw [lay_two_any]
  show (([0] : List Int).any fun one => ([0] : List Int).any fun two => fits2 saw [r] [p] one two) = _
  have e : fits2 saw [r] [p] 0 0 = ([decide (0 + p + saw ≤ r + saw)].all id) := rfl
  simp only [List.any_cons, List.any_nil, e, List.all_cons, List.all_nil, id, Bool.or_false, Bool.and_true]
  exact decide_eq_decide.mpr (by omega)
theorem lay_12 (saw r p a : Int) : lay_twoL saw [r] [p, a] = decide (p + saw + a ≤ r) := by
  rw [lay_two_any]
  show (([0] : List Int).any fun one => ([0] : List Int).any fun two => fits2 saw [r] [p, a] one two) = _
  have e : fits2 saw [r] [p, a] 0 0 = ([decide (0 + p + saw + a + saw ≤ r + saw)].all id) := rfl
  simp only [List.any_cons, List.any_nil, e, List.all_cons, List.all_nil, id, Bool.or_false, Bool.and_true]
  exact decide_eq_decide.mpr (by omega)
theorem lay_21 {saw r t p : Int} (hs : 0 ≤ saw) (hr : 0 ≤ r) (ht : 0 ≤ t) : lay_twoL saw [r, t] [p] = decide (p ≤ r ∨ p ≤ t) := by
  rw [lay_two_any]
  show (([0, 1] : List Int).any fun one => ([0, 1] : List Int).any fun two => fits2 saw [r, t] [p] one two) = _
  have e0 : fits2 saw [r, t] [p] 0 0 = ([decide (0 + p + saw ≤ r + saw), decide (0 ≤ t + saw)].all id) := rfl
  have e1 : fits2 saw [r, t] [p] 0 1 = ([decide (0 + p + saw ≤ r + saw), decide (0 ≤ t + saw)].all id) := rfl
  have e2 : fits2 saw [r, t] [p] 1 0 = ([decide (0 ≤ r + saw), decide (0 + p + saw ≤ t + saw)].all id) := rfl
  have e3 : fits2 saw [r, t] [p] 1 1 = ([decide (0 ≤ r + saw), decide (0 + p + saw ≤ t + saw)].all id) := rfl
  simp only [List.any_cons, List.any_nil, e0, e1, e2, e3, List.all_cons, List.all_nil, id, Bool.or_false, Bool.and_true, ← Bool.decide_and, ← Bool.decide_or]
  exact decide_eq_decide.mpr (by omega)
theorem lay_22 {saw r t p a : Int} (hs : 0 ≤ saw) (hr : 0 ≤ r) (ht : 0 ≤ t) : lay_twoL saw [r, t] [p, a] = decide (p + saw + a ≤ r ∨ (p ≤ r ∧ a ≤ t) ∨ (a ≤ r ∧ p ≤ t) ∨ p + saw + a ≤ t) := by
  rw [lay_two_any]
  show (([0, 1] : List Int).any fun one => ([0, 1] : List Int).any fun two => fits2 saw [r, t] [p, a] one two) = _
  have e0 : fits2 saw [r, t] [p, a] 0 0 = ([decide (0 + p + saw + a + saw ≤ r + saw), decide (0 ≤ t + saw)].all id) := rfl
  have e1 : fits2 saw [r, t] [p, a] 0 1 = ([decide (0 + p + saw ≤ r + saw), decide (0 + a + saw ≤ t + saw)].all id) := rfl
  have e2 : fits2 saw [r, t] [p, a] 1 0 = ([decide (0 + a + saw ≤ r + saw), decide (0 + p + saw ≤ t + saw)].all id) := rfl
  have e3 : fits2 saw [r, t] [p, a] 1 1 = ([decide (0 ≤ r + saw), decide (0 + p + saw + a + saw ≤ t + saw)].all id) := rfl
  simp only [List.any_cons, List.any_nil, e0, e1, e2, e3, List.all_cons, List.all_nil, id, Bool.or_false, Bool.and_true, ← Bool.decide_and, ← Bool.decide_or]
  exact decide_eq_decide.mpr (by omega)
def posL (x y : Int) : List Int := (([x, y] : List Int).filter (fun a : Int => decide ((0 : Int) < a))).map (fun a : Int => a)
theorem posL_eq {x y : Int} (hx : 0 < x) : posL x y = if 0 < y then [x, y] else [x] := by
  unfold posL
  rw [List.map_id', List.filter_cons, if_pos (by simpa using hx), List.filter_cons, List.filter_nil]
  by_cases h : 0 < y <;> simp [h]
theorem beats_eq {saw ask pick other : Int} (hs : 0 ≤ saw) (ha : 1 ≤ ask) (hp : ask ≤ pick) (ho : ask ≤ other) :
    (decide (pick = other) || lay_twoL saw (posL other ((stayL saw pick ask).getD default)) (posL pick ((stayL saw other ask).getD default))) = rod_beatsP saw ask pick other := by
  rw [stay_get hp, stay_get ho, posL_eq (by omega), posL_eq (by omega)]
  unfold rod_beatsP
  by_cases e : pick = other
  · rw [decide_eq_true e]; rfl
  · rw [decide_eq_false e, Bool.false_or, cond_f rfl, ← Bool.decide_or, ← Bool.decide_and]
    by_cases h1 : 0 < max 0 (pick - ask - saw)
    · rw [if_pos h1]
      by_cases h2 : 0 < max 0 (other - ask - saw)
      · rw [if_pos h2, lay_22 hs (by omega) (by omega)]
        exact decide_eq_decide.mpr (by omega)
      · rw [if_neg h2, lay_21 hs (by omega) (by omega)]
        exact decide_eq_decide.mpr (by omega)
    · rw [if_neg h1]
      by_cases h2 : 0 < max 0 (other - ask - saw)
      · rw [if_pos h2, lay_12]
        exact decide_eq_decide.mpr (by omega)
      · rw [if_neg h2, lay_11]
        exact decide_eq_decide.mpr (by omega)
theorem reason_1 {saw ask pick other : Int} (h : decide (pick = other) = true) : Str.ofString "same" = rod_reasonP saw ask pick other := by
  unfold rod_reasonP; rw [cond_t h]
theorem reason_2 {saw ask pick other : Int} (h : decide (pick = other) = false) (hb : rod_beatsP saw ask pick other = true) : ixL ([(Str.ofString "right"), (Str.ofString "exact")] : List Str) (if (decide (pick = ask)) then (1 : Int) else 0) = rod_reasonP saw ask pick other := by
  have g : decide (other < pick) = false := by
    unfold rod_beatsP at hb
    rw [cond_f h] at hb
    have := of_decide_eq_true (Bool.and_eq_true_iff.mp hb).1
    exact decide_eq_false (by omega)
  unfold rod_reasonP
  rw [cond_f h, cond_f g, hb, cond_f (by rfl)]
  cases decide (pick = ask) <;> rfl
theorem reason_3 {saw ask pick other : Int} (h : decide (pick = other) = false) (g : decide (other < pick) = true) : Str.ofString "longer" = rod_reasonP saw ask pick other := by
  unfold rod_reasonP; rw [cond_f h, cond_t g]
theorem reason_4 {saw ask pick other : Int} (h : decide (pick = other) = false) (hb : rod_beatsP saw ask pick other = false) (g : decide (other < pick) = false) : Str.ofString "rest" = rod_reasonP saw ask pick other := by
  unfold rod_reasonP; rw [cond_f h, cond_f g, hb, cond_t (by rfl)]
theorem good_eq (saw one two : Int) : (decide (one = (1 : Int)) || (decide (two = (1 : Int)) || (decide ((if two > one then two else one) ≤ (saw + (1 : Int))) || (decide (one = (saw + (2 : Int))) && decide (two = (saw + (2 : Int))))))) = good_rodsP saw one two := by
  unfold good_rodsP
  by_cases h1 : one = 1
  · rw [decide_eq_true h1]; rfl
  · rw [decide_eq_false h1]
    by_cases h2 : two = 1
    · rw [decide_eq_true h2]; rfl
    · rw [decide_eq_false h2, Bool.false_or, Bool.false_or, Bool.false_or, cond_f rfl]
      by_cases h3 : one ≤ 1 + saw ∧ two ≤ 1 + saw
      · rw [decide_eq_true h3.1, decide_eq_true h3.2, decide_eq_true (by split <;> omega)]; rfl
      · rw [decide_eq_false (by split <;> omega), cond_f (by rw [← Bool.decide_and]; exact decide_eq_false h3)]; rfl
/-! ### picks and what is left -/
theorem picks_len (stock : List Int) (ask : Int) : (rod_picksP stock ask).length ≤ stock.length := by
  unfold rod_picksP usI
  rw [(sortI_perm _).length_eq]
  exact Nat.le_trans (ddI_le _) (len_filter_map _ _ _)
theorem picks_mem {stock : List Int} {ask x : Int} (h : x ∈ rod_picksP stock ask) : x ∈ stock ∧ ask ≤ x := by
  unfold rod_picksP at h
  rw [usI_mem, List.map_id'] at h
  have := List.mem_filter.mp h
  exact ⟨this.1, of_decide_eq_true this.2⟩
theorem cutD_sub {α : Type} {xs : List α} {lo hi : Option Int} {x : α} (h : x ∈ Z.cutD xs lo hi) : x ∈ xs := by
  unfold Z.cutD at h
  exact List.mem_of_mem_drop (List.mem_of_mem_take h)
theorem leave_eq {saw : Int} {stock : List Int} {ask pick : Int} (hm : pick ∈ stock) (hp : ask ≤ pick) :
    sortI ((lessL stock ([pick] : List Int)) ++ ((([((stayL saw pick ask).getD default)] : List Int).filter (fun a_rod_2 : Int => decide ((0 : Int) < a_rod_2))).map (fun a_rod_2 : Int => a_rod_2))) = rod_leaveP saw stock ask pick := by
  have e1 : lessL stock [pick] = (sortI stock).erase pick := by
    show cond (decide (pick ∈ sortI stock)) ((sortI stock).erase pick) (sortI stock) = _
    rw [cond_t (decide_eq_true ((sortI_perm stock).mem_iff.mpr hm))]
  have p1 : ((sortI stock).erase pick).Perm (stock.erase pick) := (sortI_perm stock).erase pick
  have srt : ∀ {xs ys : List Int}, xs.Perm ys → sortI xs = sortI ys := fun {xs ys} h => sorted_unique (((sortI_perm xs).trans h).trans (sortI_perm ys).symm) (sortI_sorted _) (sortI_sorted _)
  rw [e1, stay_get hp, List.map_id']
  show _ = rod_leaveP_3 (stock.erase pick) (rod_restP saw pick ask)
  unfold rod_leaveP_3
  rw [rest_eq, List.filter_cons, List.filter_nil]
  by_cases h : 0 < max 0 (pick - ask - saw)
  · rw [if_pos (by simpa using h), cond_t (decide_eq_true (by omega))]
    exact srt (p1.append (List.Perm.refl _))
  · rw [if_neg (by simpa using h), cond_f (decide_eq_false (by omega)), List.append_nil]
    exact srt p1
theorem leave_len (saw : Int) (stock : List Int) (ask pick : Int) : (rod_leaveP saw stock ask pick).length ≤ stock.length + 1 := by
  show (rod_leaveP_3 (stock.erase pick) (rod_restP saw pick ask)).length ≤ _
  have h := List.length_erase_le (l := stock) (a := pick)
  unfold rod_leaveP_3
  cases decide ((1 : Int) ≤ rod_restP saw pick ask) with
  | true => show (sortI _).length ≤ _; rw [(sortI_perm _).length_eq, List.length_append]; exact Nat.succ_le_succ h
  | false => show (sortI _).length ≤ _; rw [(sortI_perm _).length_eq]; omega
theorem less_len (stock : List Int) (pick : Int) : (lessL stock ([pick] : List Int)).length ≤ stock.length := by
  show (cond (decide (pick ∈ sortI stock)) ((sortI stock).erase pick) (sortI stock)).length ≤ _
  have h := List.length_erase_le (l := sortI stock) (a := pick)
  rw [(sortI_perm _).length_eq] at h
  cases decide (pick ∈ sortI stock) with
  | true => exact h
  | false => exact Nat.le_of_eq (sortI_perm _).length_eq

/-! _law_borne -/
abbrev s_borneL : Stmt := topS 24
theorem sc_borneL : FnScope ["store", "saw", "rod", "asks", "total", "ask", "orders", "due", "row", "handed", "told"] ["store", "saw", "rod", "asks"] (defScope s_borneL) := ⟨rfl, rfl, rfl, by decide +kernel, rfl, by decide +kernel, by decide +kernel⟩
def borneL_2 (total_3 : Int) : (Int) :=
  total_3
def borneL_L1b (saw : Int) (total_2 : Int) (ask : Int) : (Int) :=
  borneL_2 ((total_2 + ask) + saw)
def borneL_L1 (saw : Int) (b : (Int)) (a : Int) : (Int) :=
  borneL_L1b saw b a
def borneL_7 : Unit :=
  ()
def borneL_6 : Unit :=
  borneL_7
def borneL_L2b : Unit :=
  borneL_6
def borneL_L2 (b : Unit) (a : (List Int)) : Unit :=
  borneL_L2b
def borneL_8 (s_7 : Sto) (b : Unit) : Bool × Sto :=
  (true, s_7)
def borneL_5 (orders : (List (List Int))) (s_7 : Sto) : Bool × Sto :=
  (borneL_8 s_7) (List.foldl borneL_L2 () orders)
def borneL_4 (orders : (List (List Int))) (s_7 : Sto) : Bool × Sto :=
  borneL_5 orders s_7
def borneL_3 (cs : List Int) (asks : (List Int)) (s : Sto) (b : (Int)) : Bool × Sto :=
  borneL_4 ([asks, asks.reverse, (sortI asks), (shufT cs s asks).1] : List (List Int)) ((shufT cs s asks).2)
def borneL_1 (cs : List Int) (saw : Int) (asks : (List Int)) (total : Int) (s : Sto) : Bool × Sto :=
  (borneL_3 cs asks s) (List.foldl (borneL_L1 saw) total asks)
def borneL (cs : List Int) (s : Sto) (saw : Int) (rod : Int) (asks : (List Int)) : Bool × Sto :=
  borneL_1 cs saw asks (0 : Int) s
def A_borneL : List Int → Sto → List PyData → PyData → Sto → Prop := fun cs s ds r s' => ∃ (saw : Int) (rod : Int) (asks : (List Int)), ds = [eI saw, eI rod, (eL eI) asks] ∧ (0 ≤ saw ∧ saw ≤ 99 ∧ 1 ≤ rod ∧ asks.length ≤ 40 ∧ ∀ x ∈ asks, 1 ≤ x) ∧ r = eB true ∧ s' = (borneL cs s saw rod asks).2
set_option maxHeartbeats 4000000 in
theorem ok_borneL {P : Program} {w : World} {K : PySem.W.Frag} {mg : Str → Option Value} {base : Heap} (T : Top K mg) : Fn P w K mg base 4 "_law_borne" ["store", "saw", "rod", "asks"] (spS K A_borneL) := by
  obtain ⟨f, fd, F, gm⟩ := T.f_borneL
  have sc := sc_borneL
  refine ⟨f, fd, F.ok sc (fun vs H Q E h => ?_) (fun cdv A outer s0 H vs Q E hr h => ⟨_, PSs.nox pss_w, ?_⟩), gm, F.kp, F.bindsN (fun _ _ _ _ _ _ us hl => match us, hl with | [_, _, _, _], _ => rfl)⟩
  · obtain ⟨F, a_st, c_st, cs, s, ws, ds, r, s', rfl, w, rc, ra, ⟨saw, rod, asks, rfl, hpre, rfl, rfl⟩, q⟩ := h
    have h := ra.len
    show ws.length + 1 = 4
    rw [h]; rfl
  · obtain ⟨F, a_st, c_st, cs, s, ws, ds, r, s', rfl, w, r_st, ra, ⟨saw, rod, asks, rfl, hpre, rfl, rfl⟩, q⟩ := h
    obtain ⟨v_saw, ws, rfl, r_saw, ra⟩ := ra.cons_inv
    obtain ⟨v_rod, ws, rfl, r_rod, ra⟩ := ra.cons_inv
    obtain ⟨v_asks, ws, rfl, r_asks, ra⟩ := ra.cons_inv
    obtain rfl := ra.nil_inv
    have st := Stp.refl w
    obtain ⟨hs0, hs1, hr1, hal, hax⟩ := id hpre
    have hf : borneL cs s saw rod asks = borneL cs s saw rod asks := rfl
    show ZS _ _ [some (.ref a_st), some v_saw, some v_rod, some v_asks, none, none, none, none, none, none, none] H _
    refine zs_set (n := 4) st.ok ze_int sc.nd rfl (by first | exact Or.inl rfl | exact Or.inr rfl) fun v_total F_2 H_2 s_2 r_total => ?_
    obtain ⟨total, hx_total⟩ : ∃ z : Int, z = (0 : Int) := ⟨_, rfl⟩
    have s_2 : Stp F [stoO a_st c_st s] H F_2 [stoO a_st c_st s] H_2 := by exact s_2
    have r_total : R K F_2 v_total (eI total) := by subst hx_total; exact r_total
    have st := st.trans s_2
    have r_saw := r_saw.mono s_2.gr
    have r_rod := r_rod.mono s_2.gr
    have r_asks := r_asks.mono s_2.gr
    have r_st := r_st.mono s_2.gr
    show ZS _ _ [some (.ref a_st), some v_saw, some v_rod, some v_asks, some v_total, none, none, none, none, none, none] H_2 _
    have hf : borneL cs s saw rod asks = borneL_1 cs saw asks total s := by subst hx_total; exact hf
    refine zs_forF (f := (borneL_L1 saw)) (b0 := total) st.ok PassesOwn.never rfl (zi_list (ze_var 3 rfl r_asks)) (fun iq b σ F O => ∃ (w1 : V) (z2 : Option V), σ = [some (.ref a_st), some v_saw, some v_rod, some v_asks, some w1, z2, none, none, none, none, none] ∧ O = [stoO a_st c_st s] ∧ R K F w1 (eI b) ∧ True) (fun F_21 H_16 s_17 => ⟨v_total, none, rfl, rfl, r_total.mono s_17.gr, trivial⟩) (fun i b ask v σ F_3 F_4 O_2 H_3 ha hbe hz rel g s_3 r_2 => ?_) (fun σ_2 F_6 O_3 H_5 s_5 rel_2 => ?_)
    · skip
      obtain ⟨total_2, rfl⟩ : ∃ z, z = b := ⟨_, rfl⟩
      obtain ⟨v_total_2, z_ask, rfl, rfl, r_total_2, hinv⟩ := rel
      have r_total_2 : R K _ v_total_2 (eI total_2) := r_total_2
      have st := st.trans s_3
      have r_saw := r_saw.mono s_3.gr
      have r_rod := r_rod.mono s_3.gr
      have r_asks := r_asks.mono s_3.gr
      have r_st := r_st.mono s_3.gr
      have r_total_2 := r_total_2.mono g
      have hlt_i := (List.getElem?_eq_some_iff.mp ha).1
      have sb : Stp F_4 [stoO a_st c_st s] H_3 F_4 [stoO a_st c_st s] H_3 := Stp.refl st.ok
      have hfb : borneL_L1 saw total_2 ask = borneL_L1b saw total_2 ask := rfl
      refine zg_name (n := 5) sc.nd rfl (by first | exact Or.inl rfl | exact Or.inr rfl) ?_
      show ZS _ _ [some (.ref a_st), some v_saw, some v_rod, some v_asks, some v_total_2, some v, none, none, none, none, none] H_3 _
      refine zs_set (n := 4) st.ok (ze_add (ze_add (ze_var 4 rfl r_total_2) (ze_var 5 rfl r_2)) (ze_var 1 rfl r_saw)) sc.nd rfl (by first | exact Or.inl rfl | exact Or.inr rfl) fun v_total_3 F_5 H_4 s_4 r_total_3 => ?_
      obtain ⟨total_3, hx_total_3⟩ : ∃ z : Int, z = ((total_2 + ask) + saw) := ⟨_, rfl⟩
      have s_4 : Stp F_4 [stoO a_st c_st s] H_3 F_5 [stoO a_st c_st s] H_4 := by exact s_4
      have r_total_3 : R K F_5 v_total_3 (eI total_3) := by subst hx_total_3; exact r_total_3
      have st := st.trans s_4
      have sb := sb.trans s_4
      have r_saw := r_saw.mono s_4.gr
      have r_rod := r_rod.mono s_4.gr
      have r_asks := r_asks.mono s_4.gr
      have r_st := r_st.mono s_4.gr
      have r_2 := r_2.mono s_4.gr
      show ZS _ _ [some (.ref a_st), some v_saw, some v_rod, some v_asks, some v_total_3, some v, none, none, none, none, none] H_4 _
      have hfb : borneL_L1 saw total_2 ask = borneL_2 total_3 := by subst hx_total_3; exact hfb
      refine zs_nil ?_
      exact ⟨_, _, sb, by (try rw [hfb]); exact ⟨v_total_3, some v, rfl, rfl, r_total_3, trivial⟩⟩
    · skip
      obtain ⟨b_2, hb⟩ : ∃ z : (Int), z = List.foldl (borneL_L1 saw) total asks := ⟨_, rfl⟩
      try rw [← hb] at rel_2
      obtain ⟨total_4, rfl⟩ : ∃ z, z = b_2 := ⟨_, rfl⟩
      obtain ⟨v_total_4, z_ask_2, rfl, rfl, r_total_4, hinv_2⟩ := rel_2
      have r_total_4 : R K _ v_total_4 (eI total_4) := r_total_4
      have st := st.trans s_5
      have r_saw := r_saw.mono s_5.gr
      have r_rod := r_rod.mono s_5.gr
      have r_asks := r_asks.mono s_5.gr
      have r_st := r_st.mono s_5.gr
      have hf : borneL cs s saw rod asks = (borneL_3 cs asks s) total_4 := by rw [hb]; exact hf
      have htot0 : total_4 = loadP saw asks := by rw [hb, hx_total]; exact (fold_load (saw := saw) (f := borneL_L1 saw) (fun _ _ => rfl) asks 0).trans (Int.zero_add _)
      show ZS _ _ [some (.ref a_st), some v_saw, some v_rod, some v_asks, some v_total_4, z_ask_2, none, none, none, none, none] H_5 _
      refine zs_setN (n := 6) st.ok (zn_lstt (enc := (eL eI)) (xs := ([asks, asks.reverse, (sortI asks), (shufT cs s asks).1] : List (List Int))) (za_cons (ze_var 3 rfl r_asks) (za_cons (zn_ze (zn_eq (zn_lstRev rfl T.b_list T.b_reversed (ze_var 3 rfl r_asks)) List.map_reverse.symm)) (za_cons (zn_ze (zn_sortI T.b_sorted (ze_var 3 rfl r_asks))) (za_cons (ze_callS 0 0 (ok_shuffleL T) (hr.mono (by decide)) rfl r_st (za_cons (ze_var 3 rfl r_asks) za_nil) rfl (A_shuf_of eI (by /-1-/ first | ((rw [← szL]; first | omega | (simp only [List.length_append, List.length_cons, List.length_nil, List.length_map, rangeI_length]; omega))) | (first | omega | (rw [← szL]; omega) | (simp only [List.length_append, List.length_cons, List.length_nil, List.length_map, rangeI_length, ← szL]; omega))))) za_nil))))) sc.nd rfl (by first | exact Or.inl rfl | exact Or.inr rfl) fun p_orders us_orders F_7 H_6 hp_2 s_6 r_orders => ?_
      obtain ⟨orders, hx_orders⟩ : ∃ z : (List (List Int)), z = ([asks, asks.reverse, (sortI asks), (shufT cs s asks).1] : List (List Int)) := ⟨_, rfl⟩
      obtain ⟨s_7, hx_s_7⟩ : ∃ z : Sto, z = (shufT cs s asks).2 := ⟨_, rfl⟩
      have hn := st.newAt hp_2
      have s_6 : Stp F_6 [stoO a_st c_st s] H_5 F_7 [(p_orders, .lst us_orders), stoO a_st c_st s_7] H_6 := by subst hx_s_7; exact s_6
      have r_orders : RA K F_7 us_orders (orders.map (eL eI)) := by subst hx_orders; exact r_orders
      have st := st.trans s_6
      have r_saw := r_saw.mono s_6.gr
      have r_rod := r_rod.mono s_6.gr
      have r_asks := r_asks.mono s_6.gr
      have r_st := r_st.mono s_6.gr
      have r_total_4 := r_total_4.mono s_6.gr
      have gz : Gr F_7 (upd F_7 p_orders (.lst us_orders)) := Gr.upd (st.ok.at_ (k := 0) rfl).2
      have r_orders_2 : R K (upd F_7 p_orders (.lst us_orders)) (.ref p_orders) (eL (eL eI) orders) := (r_orders.mono gz).lst upd_same
      have st : Stp _ _ _ (upd F_7 p_orders (.lst us_orders)) [stoO a_st c_st s_7] H_6 := st.freezeAt 0 rfl hn
      have r_saw := r_saw.mono gz
      have r_rod := r_rod.mono gz
      have r_asks := r_asks.mono gz
      have r_st := r_st.mono gz
      have r_total_4 := r_total_4.mono gz
      show ZS _ _ [some (.ref a_st), some v_saw, some v_rod, some v_asks, some v_total_4, z_ask_2, some (.ref p_orders), none, none, none, none] H_6 _
      have hf : borneL cs s saw rod asks = borneL_4 orders s_7 := by subst hx_orders; subst hx_s_7; exact hf
      refine zs_set (n := 7) st.ok (ze_callD (ok_cut_allL T) (hr.mono (by decide)) (za_cons (ze_var 1 rfl r_saw) (za_cons (ze_var 2 rfl r_rod) (za_cons (ze_var 3 rfl r_asks) za_nil))) ⟨saw, rod, asks, rfl, (by /-2-/ first | (first | omega | (simp only [List.length_append, List.length_cons, List.length_nil, List.length_map, rangeI_length]; omega)) | (first | omega | (rw [← szL]; omega) | (simp only [List.length_append, List.length_cons, List.length_nil, List.length_map, rangeI_length, ← szL]; omega))), rfl⟩) sc.nd rfl (by first | exact Or.inl rfl | exact Or.inr rfl) fun v_due F_9 H_7 s_8 r_due => ?_
      obtain ⟨due, hx_due⟩ : ∃ z : (Option Int), z = (cut_allL saw rod asks) := ⟨_, rfl⟩
      have s_8 : Stp (upd F_7 p_orders (.lst us_orders)) [stoO a_st c_st s_7] H_6 F_9 [stoO a_st c_st s_7] H_7 := by exact s_8
      have r_due : R K F_9 v_due ((eO eI) due) := by subst hx_due; exact r_due
      have st := st.trans s_8
      have r_saw := r_saw.mono s_8.gr
      have r_rod := r_rod.mono s_8.gr
      have r_asks := r_asks.mono s_8.gr
      have r_st := r_st.mono s_8.gr
      have r_total_4 := r_total_4.mono s_8.gr
      have r_orders_2 := r_orders_2.mono s_8.gr
      show ZS _ _ [some (.ref a_st), some v_saw, some v_rod, some v_asks, some v_total_4, z_ask_2, some (.ref p_orders), some v_due, none, none, none] H_7 _
      have hf : borneL cs s saw rod asks = borneL_5 orders s_7 := by subst hx_due; exact hf
      refine zs_forF (f := borneL_L2) (b0 := ()) st.ok PassesOwn.never rfl (zi_list (ze_var 6 rfl r_orders_2)) (fun iq b σ F O => ∃ (z1 : Option V) (z2 : Option V) (z3 : Option V), σ = [some (.ref a_st), some v_saw, some v_rod, some v_asks, some v_total_4, z_ask_2, some (.ref p_orders), some v_due, z1, z2, z3] ∧ O = [stoO a_st c_st s_7] ∧ True) (fun F_20 H_15 s_16 => ⟨none, none, none, rfl, rfl, trivial⟩) (fun i_2 b_3 row v_2 σ_3 F_10 F_11 O_4 H_8 ha_2 hbe_2 hz_2 rel_3 g_2 s_9 r_3 => ?_) (fun σ_4 F_18 O_5 H_13 s_14 rel_4 => ?_)
      · skip
        obtain ⟨z_row, z_handed, z_told, rfl, rfl, hinv_3⟩ := rel_3
        have st := st.trans s_9
        have r_saw := r_saw.mono s_9.gr
        have r_rod := r_rod.mono s_9.gr
        have r_asks := r_asks.mono s_9.gr
        have r_st := r_st.mono s_9.gr
        have r_total_4 := r_total_4.mono s_9.gr
        have r_orders_2 := r_orders_2.mono s_9.gr
        have r_due := r_due.mono s_9.gr
        have hlt_i_2 := (List.getElem?_eq_some_iff.mp ha_2).1
        have sb_2 : Stp F_11 [stoO a_st c_st s_7] H_8 F_11 [stoO a_st c_st s_7] H_8 := Stp.refl st.ok
        have hfb_2 : borneL_L2 () row = borneL_L2b := rfl
        refine zg_name (n := 8) sc.nd rfl (by first | exact Or.inl rfl | exact Or.inr rfl) ?_
        have hm := List.mem_of_getElem? ha_2
        rw [hx_orders] at hm
        have hrow : row.Perm asks := orders_perm (by omega) hm
        have hrl := hrow.length_eq
        have hcut : cut_allL saw rod row = cut_rodP saw rod row := by rw [cut_all_F, cut_rod_F]
        have hdue : due = cut_rodP saw rod row := by rw [hx_due, cut_all_F, cut_rod_F]; exact (cutF_perm hs0 (by omega) hax hrow).symm
        have hbear : ((!isNon ((eO eI) due)) || asks.isEmpty) = bearsP saw rod row := by rw [hx_due, cut_all_F]; exact bears_due hs0 (by omega) hax hrow
        have htot : total_4 = loadP saw row := by rw [htot0]; exact (load_perm hrow).symm
        show ZS _ _ [some (.ref a_st), some v_saw, some v_rod, some v_asks, some v_total_4, z_ask_2, some (.ref p_orders), some v_due, some v_2, z_handed, z_told] H_8 _
        refine zs_setN (n := 9) st.ok (zn_list T.b_list (ze_var 8 rfl r_3)) sc.nd rfl (by first | exact Or.inl rfl | exact Or.inr rfl) fun p_handed us_handed F_12 H_9 hp_3 s_10 r_handed => ?_
        obtain ⟨handed, hx_handed⟩ : ∃ z : (List Int), z = row := ⟨_, rfl⟩
        have hn_2 := st.newAt hp_3
        have hn_3 := sb_2.newAt hp_3
        have s_10 : Stp F_11 [stoO a_st c_st s_7] H_8 F_12 [(p_handed, .lst us_handed), stoO a_st c_st s_7] H_9 := by exact s_10
        have r_handed : RA K F_12 us_handed (handed.map eI) := by subst hx_handed; exact r_handed
        have st := st.trans s_10
        have sb_2 := sb_2.trans s_10
        have r_saw := r_saw.mono s_10.gr
        have r_rod := r_rod.mono s_10.gr
        have r_asks := r_asks.mono s_10.gr
        have r_st := r_st.mono s_10.gr
        have r_total_4 := r_total_4.mono s_10.gr
        have r_orders_2 := r_orders_2.mono s_10.gr
        have r_due := r_due.mono s_10.gr
        have r_3 := r_3.mono s_10.gr
        have gz_2 : Gr F_12 (upd F_12 p_handed (.lst us_handed)) := Gr.upd (st.ok.at_ (k := 0) rfl).2
        have r_handed_2 : R K (upd F_12 p_handed (.lst us_handed)) (.ref p_handed) (eL eI handed) := (r_handed.mono gz_2).lst upd_same
        have st : Stp _ _ _ (upd F_12 p_handed (.lst us_handed)) [stoO a_st c_st s_7] H_9 := st.freezeAt 0 rfl hn_2
        have sb_2 : Stp _ _ _ (upd F_12 p_handed (.lst us_handed)) [stoO a_st c_st s_7] H_9 := sb_2.freezeAt 0 rfl hn_3
        have r_saw := r_saw.mono gz_2
        have r_rod := r_rod.mono gz_2
        have r_asks := r_asks.mono gz_2
        have r_st := r_st.mono gz_2
        have r_total_4 := r_total_4.mono gz_2
        have r_orders_2 := r_orders_2.mono gz_2
        have r_due := r_due.mono gz_2
        have r_3 := r_3.mono gz_2
        show ZS _ _ [some (.ref a_st), some v_saw, some v_rod, some v_asks, some v_total_4, z_ask_2, some (.ref p_orders), some v_due, some v_2, some (.ref p_handed), z_told] H_9 _
        have hfb_2 : borneL_L2 () row = borneL_6 := by subst hx_handed; exact hfb_2
        have hh : handed = row := hx_handed
        have hhl : handed.length = asks.length := by rw [hh]; exact hrl
        refine zs_setN (n := 10) st.ok (zn_lstt (enc := (fun d : PyData => d)) (xs := ([(eI (loadP saw handed)), (eB (bearsP saw rod handed)), ((eO eI) (cut_rodP saw rod handed))] : List PyData)) (za_cons (ze_callD (ok_loadP T) (hr.mono (by decide)) (za_cons (ze_var 1 rfl r_saw) (za_cons (ze_var 9 rfl r_handed_2) za_nil)) ⟨saw, handed, rfl, (by /-3-/ first | (first | omega | (simp only [List.length_append, List.length_cons, List.length_nil, List.length_map, rangeI_length]; omega)) | (first | omega | (rw [← szL]; omega) | (simp only [List.length_append, List.length_cons, List.length_nil, List.length_map, rangeI_length, ← szL]; omega))), rfl⟩) (za_cons (ze_callD (ok_bearsP T) (hr.mono (by decide)) (za_cons (ze_var 1 rfl r_saw) (za_cons (ze_var 2 rfl r_rod) (za_cons (ze_var 9 rfl r_handed_2) za_nil))) ⟨saw, rod, handed, rfl, (by /-4-/ first | (first | omega | (simp only [List.length_append, List.length_cons, List.length_nil, List.length_map, rangeI_length]; omega)) | (first | omega | (rw [← szL]; omega) | (simp only [List.length_append, List.length_cons, List.length_nil, List.length_map, rangeI_length, ← szL]; omega))), rfl⟩) (za_cons (ze_callD (ok_cut_rodP T) (hr.mono (by decide)) (za_cons (ze_var 1 rfl r_saw) (za_cons (ze_var 2 rfl r_rod) (za_cons (ze_var 9 rfl r_handed_2) za_nil))) ⟨saw, rod, handed, rfl, (by /-5-/ first | (first | omega | (simp only [List.length_append, List.length_cons, List.length_nil, List.length_map, rangeI_length]; omega)) | (first | omega | (rw [← szL]; omega) | (simp only [List.length_append, List.length_cons, List.length_nil, List.length_map, rangeI_length, ← szL]; omega))), rfl⟩) za_nil)))) sc.nd rfl (by first | exact Or.inl rfl | exact Or.inr rfl) fun p_told us_told F_14 H_10 hp_4 s_11 r_told => ?_
        obtain ⟨told, hx_told⟩ : ∃ z : (List PyData), z = ([(eI (loadP saw handed)), (eB (bearsP saw rod handed)), ((eO eI) (cut_rodP saw rod handed))] : List PyData) := ⟨_, rfl⟩
        have hn_4 := st.newAt hp_4
        have hn_5 := sb_2.newAt hp_4
        have s_11 : Stp (upd F_12 p_handed (.lst us_handed)) [stoO a_st c_st s_7] H_9 F_14 [(p_told, .lst us_told), stoO a_st c_st s_7] H_10 := by exact s_11
        have r_told : RA K F_14 us_told (told.map (fun d : PyData => d)) := by subst hx_told; exact r_told
        have st := st.trans s_11
        have sb_2 := sb_2.trans s_11
        have r_saw := r_saw.mono s_11.gr
        have r_rod := r_rod.mono s_11.gr
        have r_asks := r_asks.mono s_11.gr
        have r_st := r_st.mono s_11.gr
        have r_total_4 := r_total_4.mono s_11.gr
        have r_orders_2 := r_orders_2.mono s_11.gr
        have r_due := r_due.mono s_11.gr
        have r_3 := r_3.mono s_11.gr
        have r_handed_2 := r_handed_2.mono s_11.gr
        have gz_3 : Gr F_14 (upd F_14 p_told (.lst us_told)) := Gr.upd (st.ok.at_ (k := 0) rfl).2
        have r_told_2 : R K (upd F_14 p_told (.lst us_told)) (.ref p_told) (eL (fun d : PyData => d) told) := (r_told.mono gz_3).lst upd_same
        have st : Stp _ _ _ (upd F_14 p_told (.lst us_told)) [stoO a_st c_st s_7] H_10 := st.freezeAt 0 rfl hn_4
        have sb_2 : Stp _ _ _ (upd F_14 p_told (.lst us_told)) [stoO a_st c_st s_7] H_10 := sb_2.freezeAt 0 rfl hn_5
        have r_saw := r_saw.mono gz_3
        have r_rod := r_rod.mono gz_3
        have r_asks := r_asks.mono gz_3
        have r_st := r_st.mono gz_3
        have r_total_4 := r_total_4.mono gz_3
        have r_orders_2 := r_orders_2.mono gz_3
        have r_due := r_due.mono gz_3
        have r_3 := r_3.mono gz_3
        have r_handed_2 := r_handed_2.mono gz_3
        show ZS _ _ [some (.ref a_st), some v_saw, some v_rod, some v_asks, some v_total_4, z_ask_2, some (.ref p_orders), some v_due, some v_2, some (.ref p_handed), some (.ref p_told)] H_10 _
        have hfb_2 : borneL_L2 () row = borneL_7 := by subst hx_told; exact hfb_2
        refine zs_ifF st.ok (zt_eq (zt_not (zt_val (ze_callD (ok_same T) (hr.mono (by decide)) (za_cons (ze_var 10 rfl r_told_2) (za_cons (zn_ze (zn_lstt (enc := (fun d : PyData => d)) (xs := ([(eI total_4), (eB ((!isNon ((eO eI) due)) || asks.isEmpty)), ((eO eI) (cut_allL saw rod row))] : List PyData)) (za_cons (ze_var 4 rfl r_total_4) (za_cons (ze_or (ze_cm cm_isnot (ze_var 7 rfl r_due) ze_non) fun hb => (ze_one (ze_notLt (ze_var 3 rfl r_asks)))) (za_cons (ze_callD (ok_cut_allL T) (hr.mono (by decide)) (za_cons (ze_var 1 rfl r_saw) (za_cons (ze_var 2 rfl r_rod) (za_cons (ze_var 8 rfl r_3) za_nil))) ⟨saw, rod, row, rfl, (by /-6-/ first | (first | omega | (simp only [List.length_append, List.length_cons, List.length_nil, List.length_map, rangeI_length]; omega)) | (first | omega | (rw [← szL]; omega) | (simp only [List.length_append, List.length_cons, List.length_nil, List.length_map, rangeI_length, ← szL]; omega))), rfl⟩) za_nil))))) za_nil)) (A_same_of (a := ((eL (fun d : PyData => d)) told)) (b := ((eL (fun d : PyData => d)) ([(eI total_4), (eB ((!isNon ((eO eI) due)) || asks.isEmpty)), ((eO eI) (cut_allL saw rod row))] : List PyData))) (congrArg (eL (fun d : PyData => d)) (show ([(eI total_4), (eB ((!isNon ((eO eI) due)) || asks.isEmpty)), ((eO eI) (cut_allL saw rod row))] : List PyData) = told from (by /-7-/ rw [hx_told, hh, htot, hbear, hcut]))) (by /-8-/ rw [hx_told]; simp only [szI, szB, szS, szLn, szLI, szLS, szLB, szOI, szOS, szT2, szD, szC, szN, List.map_cons, List.map_nil, List.length_append, List.length_cons, List.length_nil, List.length_map, rangeI_length]; omega))))) (by simp)) fun F_16 H_11 s_12 => ?_
        have s_12 : Stp (upd F_14 p_told (.lst us_told)) [stoO a_st c_st s_7] H_10 F_16 [stoO a_st c_st s_7] H_11 := by exact s_12
        have st := st.trans s_12
        have sb_2 := sb_2.trans s_12
        have r_saw := r_saw.mono s_12.gr
        have r_rod := r_rod.mono s_12.gr
        have r_asks := r_asks.mono s_12.gr
        have r_st := r_st.mono s_12.gr
        have r_total_4 := r_total_4.mono s_12.gr
        have r_orders_2 := r_orders_2.mono s_12.gr
        have r_due := r_due.mono s_12.gr
        have r_3 := r_3.mono s_12.gr
        have r_handed_2 := r_handed_2.mono s_12.gr
        have r_told_2 := r_told_2.mono s_12.gr
        refine zs_nil ?_
        show ZS _ _ [some (.ref a_st), some v_saw, some v_rod, some v_asks, some v_total_4, z_ask_2, some (.ref p_orders), some v_due, some v_2, some (.ref p_handed), some (.ref p_told)] H_11 _
        refine zs_ifF st.ok (zt_eq (zt_w (zw_or (zt_not (zt_val (ze_callD (ok_same T) (hr.mono (by decide)) (za_cons (ze_ixLt (enc := (fun d : PyData => d)) (ze_var 10 rfl r_told_2) ze_int (by /-9-/ rw [hx_told]; simp)) (za_cons (ze_var 7 rfl r_due) za_nil)) (A_same_of (a := ((fun d : PyData => d) (ixL told (2 : Int)))) (b := ((eO eI) due)) (congrArg (fun d : PyData => d) (show ((eO eI) due) = (ixL told (2 : Int)) from (by /-10-/ rw [hx_told]; show _ = eO eI (cut_rodP saw rod handed); rw [hh, ← hdue]))) (by /-11-/ rw [hx_told]; show dsz (eO eI (cut_rodP saw rod handed)) ≤ _; rw [szOI]; decide))))) fun hb => (zw_or1 (zt_not (zt_val (ze_callD (ok_same T) (hr.mono (by decide)) (za_cons (ze_var 9 rfl r_handed_2) (za_cons (ze_var 8 rfl r_3) za_nil)) (A_same_of (a := ((eL eI) handed)) (b := ((eL eI) row)) (congrArg (eL eI) (show row = handed from (by /-12-/ exact hh.symm))) (by /-13-/ first | ((simp only [szI, szB, szS, szLn, szLI, szLS, szLB, szOI, szOS, szT2, szD, szC, szN, List.map_cons, List.map_nil, List.length_append, List.length_cons, List.length_nil, List.length_map, rangeI_length]; omega)) | (first | omega | (rw [← szL]; omega) | (simp only [List.length_append, List.length_cons, List.length_nil, List.length_map, rangeI_length, ← szL]; omega)))))))))) (by simp)) fun F_17 H_12 s_13 => ?_
        have s_13 : Stp F_16 [stoO a_st c_st s_7] H_11 F_17 [stoO a_st c_st s_7] H_12 := by exact s_13
        have st := st.trans s_13
        have sb_2 := sb_2.trans s_13
        have r_saw := r_saw.mono s_13.gr
        have r_rod := r_rod.mono s_13.gr
        have r_asks := r_asks.mono s_13.gr
        have r_st := r_st.mono s_13.gr
        have r_total_4 := r_total_4.mono s_13.gr
        have r_orders_2 := r_orders_2.mono s_13.gr
        have r_due := r_due.mono s_13.gr
        have r_3 := r_3.mono s_13.gr
        have r_handed_2 := r_handed_2.mono s_13.gr
        have r_told_2 := r_told_2.mono s_13.gr
        refine zs_nil ?_
        show ZS _ _ [some (.ref a_st), some v_saw, some v_rod, some v_asks, some v_total_4, z_ask_2, some (.ref p_orders), some v_due, some v_2, some (.ref p_handed), some (.ref p_told)] H_12 _
        refine zs_nil ?_
        exact ⟨_, _, sb_2, by (try rw [hfb_2]); exact ⟨some v_2, some (.ref p_handed), some (.ref p_told), rfl, rfl, trivial⟩⟩
      · skip
        obtain ⟨b_4, hb_2⟩ : ∃ z : Unit, z = List.foldl borneL_L2 () orders := ⟨_, rfl⟩
        try rw [← hb_2] at rel_4
        obtain ⟨z_row_2, z_handed_2, z_told_2, rfl, rfl, hinv_4⟩ := rel_4
        have st := st.trans s_14
        have r_saw := r_saw.mono s_14.gr
        have r_rod := r_rod.mono s_14.gr
        have r_asks := r_asks.mono s_14.gr
        have r_st := r_st.mono s_14.gr
        have r_total_4 := r_total_4.mono s_14.gr
        have r_orders_2 := r_orders_2.mono s_14.gr
        have r_due := r_due.mono s_14.gr
        have hf : borneL cs s saw rod asks = (borneL_8 s_7) () := hf
        show ZS _ _ [some (.ref a_st), some v_saw, some v_rod, some v_asks, some v_total_4, z_ask_2, some (.ref p_orders), some v_due, z_row_2, z_handed_2, z_told_2] H_13 _
        refine zs_ret st.ok (ze_eqB (k1 := (true && true)) (k := true) (ze_and (ze_callD (ok_same T) (hr.mono (by decide)) (za_cons (ze_callD (ok_cut_rodP T) (hr.mono (by decide)) (za_cons (ze_var 1 rfl r_saw) (za_cons (ze_var 2 rfl r_rod) (za_cons (zn_ze (zn_lstt (enc := eI) (xs := ([] : List Int)) za_nil)) za_nil))) ⟨saw, rod, ([] : List Int), rfl, (by /-14-/ first | (first | omega | (simp only [List.length_append, List.length_cons, List.length_nil, List.length_map, rangeI_length]; omega)) | (first | omega | (rw [← szL]; omega) | (simp only [List.length_append, List.length_cons, List.length_nil, List.length_map, rangeI_length, ← szL]; omega))), rfl⟩) (za_cons (ze_var 2 rfl r_rod) za_nil)) (A_same_of (a := ((eO eI) (cut_rodP saw rod ([] : List Int)))) (b := (eI rod)) (congrArg (eO eI) (show (some rod) = (cut_rodP saw rod ([] : List Int)) from (by /-15-/ rfl))) (by /-16-/ first | ((simp only [szI, szB, szS, szLn, szLI, szLS, szLB, szOI, szOS, szT2, szD, szC, szN, List.map_cons, List.map_nil, List.length_append, List.length_cons, List.length_nil, List.length_map, rangeI_length]; omega)) | (first | omega | (rw [← szL]; omega) | (simp only [List.length_append, List.length_cons, List.length_nil, List.length_map, rangeI_length, ← szL]; omega))))) fun hb => (ze_one (ze_callD (ok_same T) (hr.mono (by decide)) (za_cons (zn_ze (zn_lstt (enc := (fun d : PyData => d)) (xs := ([(eB (bearsP saw rod ([] : List Int))), (eI (loadP saw ([] : List Int)))] : List PyData)) (za_cons (ze_callD (ok_bearsP T) (hr.mono (by decide)) (za_cons (ze_var 1 rfl r_saw) (za_cons (ze_var 2 rfl r_rod) (za_cons (zn_ze (zn_lstt (enc := eI) (xs := ([] : List Int)) za_nil)) za_nil))) ⟨saw, rod, ([] : List Int), rfl, (by /-17-/ first | (first | omega | (simp only [List.length_append, List.length_cons, List.length_nil, List.length_map, rangeI_length]; omega)) | (first | omega | (rw [← szL]; omega) | (simp only [List.length_append, List.length_cons, List.length_nil, List.length_map, rangeI_length, ← szL]; omega))), rfl⟩) (za_cons (ze_callD (ok_loadP T) (hr.mono (by decide)) (za_cons (ze_var 1 rfl r_saw) (za_cons (zn_ze (zn_lstt (enc := eI) (xs := ([] : List Int)) za_nil)) za_nil)) ⟨saw, ([] : List Int), rfl, (by /-18-/ first | (first | omega | (simp only [List.length_append, List.length_cons, List.length_nil, List.length_map, rangeI_length]; omega)) | (first | omega | (rw [← szL]; omega) | (simp only [List.length_append, List.length_cons, List.length_nil, List.length_map, rangeI_length, ← szL]; omega))), rfl⟩) za_nil)))) (za_cons (zn_ze (zn_lstt (enc := (fun d : PyData => d)) (xs := ([(eB true), (eI (0 : Int))] : List PyData)) (za_cons ze_bl (za_cons ze_int za_nil)))) za_nil)) (A_same_of (a := ((eL (fun d : PyData => d)) ([(eB (bearsP saw rod ([] : List Int))), (eI (loadP saw ([] : List Int)))] : List PyData))) (b := ((eL (fun d : PyData => d)) ([(eB true), (eI (0 : Int))] : List PyData))) (congrArg (eL (fun d : PyData => d)) (show ([(eB true), (eI (0 : Int))] : List PyData) = ([(eB (bearsP saw rod ([] : List Int))), (eI (loadP saw ([] : List Int)))] : List PyData) from (by /-19-/ rw [show bearsP saw rod [] = true from decide_eq_true (by rw [load_nil]; omega)]; rfl))) (by /-20-/ first | ((simp only [szI, szB, szS, szLn, szLI, szLS, szLB, szOI, szOS, szT2, szD, szC, szN, List.map_cons, List.map_nil, List.length_append, List.length_cons, List.length_nil, List.length_map, rangeI_length]; omega)) | (first | omega | (rw [← szL]; omega) | (simp only [List.length_append, List.length_cons, List.length_nil, List.length_map, rangeI_length, ← szL]; omega))))))) (by simp)) fun v_3 F_19 H_14 s_15 r_4 => ?_
        exact q v_3 F_19 H_14 (by rw [hf]; exact (st.trans s_15)) r_4
/-! _law_look -/
abbrev s_lookL : Stmt := topS 26
theorem sc_lookL : FnScope ["saw", "ask", "pick", "other", "rods", "asks", "right", "word", "told", "rod"] ["saw", "ask", "pick", "other"] (defScope s_lookL) := ⟨rfl, rfl, rfl, by decide +kernel, rfl, by decide +kernel, by decide +kernel⟩
def lookL_6 : Bool :=
  true
def lookL_5 : Bool :=
  lookL_6
def lookL_7 : Bool :=
  lookL_5
def lookL_8 : Bool :=
  lookL_5
def lookL_9 : Bool :=
  lookL_5
def lookL_10 : Bool :=
  lookL_9
def lookL_4 (pick : Int) (other : Int) (right : Bool) : Bool :=
  (cond (decide (pick = other)) lookL_7 (cond right lookL_8 (cond (decide (other < pick)) lookL_10 lookL_9)))
def lookL_3 (pick : Int) (other : Int) (right : Bool) : Bool :=
  lookL_4 pick other right
def lookL_2 (saw : Int) (pick : Int) (other : Int) (rods : (List Int)) (asks : (List Int)) : Bool :=
  lookL_3 pick other (decide (pick = other) || (lay_twoL saw rods asks))
def lookL_1 (saw : Int) (ask : Int) (pick : Int) (other : Int) (rods : (List Int)) : Bool :=
  lookL_2 saw pick other rods ((([pick, ((stayL saw other ask).getD default)] : List Int).filter (fun a_rod_2 : Int => decide ((0 : Int) < a_rod_2))).map (fun a_rod_2 : Int => a_rod_2))
def lookL (saw : Int) (ask : Int) (pick : Int) (other : Int) : Bool :=
  lookL_1 saw ask pick other ((([other, ((stayL saw pick ask).getD default)] : List Int).filter (fun a_rod : Int => decide ((0 : Int) < a_rod))).map (fun a_rod : Int => a_rod))
def A_lookL : List PyData → PyData → Prop := fun ds r => ∃ (saw : Int) (ask : Int) (pick : Int) (other : Int), ds = [eI saw, eI ask, eI pick, eI other] ∧ (0 ≤ saw ∧ saw ≤ 99 ∧ 1 ≤ ask ∧ ask ≤ pick ∧ ask ≤ other) ∧ r = eB true
set_option maxHeartbeats 4000000 in
theorem ok_lookL {P : Program} {w : World} {K : PySem.W.Frag} {mg : Str → Option Value} {base : Heap} (T : Top K mg) : Fn P w K mg base 3 "_law_look" ["saw", "ask", "pick", "other"] (spD K A_lookL) := by
  obtain ⟨f, fd, F, gm⟩ := T.f_lookL
  have sc := sc_lookL
  refine ⟨f, fd, F.ok sc (fun vs H Q E h => ?_) (fun cdv A outer s0 H vs Q E hr h => ⟨_, PSs.nox pss_w, ?_⟩), gm, F.kp, F.bindsN (fun _ _ _ _ _ _ us hl => match us, hl with | [_, _, _, _], _ => rfl)⟩
  · obtain ⟨F, ds, r, w, ra, ⟨saw, ask, pick, other, rfl, hpre, rfl⟩, q⟩ := h
    exact ra.len
  · obtain ⟨F, ds, r, w, ra, ⟨saw, ask, pick, other, rfl, hpre, rfl⟩, q⟩ := h
    obtain ⟨v_saw, ws, rfl, r_saw, ra⟩ := ra.cons_inv
    obtain ⟨v_ask, ws, rfl, r_ask, ra⟩ := ra.cons_inv
    obtain ⟨v_pick, ws, rfl, r_pick, ra⟩ := ra.cons_inv
    obtain ⟨v_other, ws, rfl, r_other, ra⟩ := ra.cons_inv
    obtain rfl := ra.nil_inv
    have st := Stp.refl w
    obtain ⟨hs0, hs1, ha1, hap, hao⟩ := id hpre
    have hf : lookL saw ask pick other = lookL saw ask pick other := rfl
    show ZS _ _ [some v_saw, some v_ask, some v_pick, some v_other, none, none, none, none, none, none] H _
    refine zs_setLcF (i0 := 4) (w := st.ok) (n := 9) (f0 := (fun a_rod : Int => a_rod)) (pr := (fun a_rod : Int => decide ((0 : Int) < a_rod))) (encR := eI) rfl sc.nd (zi_list (zn_ze (zn_lstt (enc := eI) (xs := ([other, ((stayL saw pick ask).getD default)] : List Int)) (za_cons (ze_var 3 rfl r_other) (za_cons (ze_some (ze_callD (ok_stayL T) (hr.mono (by decide)) (za_cons (ze_var 0 rfl r_saw) (za_cons (ze_var 2 rfl r_pick) (za_cons (ze_var 1 rfl r_ask) za_nil))) ⟨saw, pick, ask, rfl, rfl⟩) (by /-1-/ rw [stay_some (by omega)]; rfl)) za_nil))))) (fun _ _ _ _ _ a_rod v_a_rod _ h_a_rod g_c r_a_rod => (zt_cm cm_gt (ze_var 9 rfl r_a_rod) ze_int)) (fun _ _ _ _ _ a_rod v_a_rod _ h_a_rod hp_c g_c r_a_rod => (ze_var 9 rfl r_a_rod)) (blkOk_by (N := ["saw", "ask", "pick", "other", "rods", "asks", "right", "word", "told", "rod"]) (sc := defScope (topS 26)) (by decide +kernel)) (fun _ _ _ _ _ => pg_name (i := 9) sc.nd rfl (Or.inl rfl)) rfl rfl (sw_true rfl rfl rfl (by decide +kernel)) fun p_rods us_rods F_2 H_2 hp_2 s_2 r_rods => ?_
    obtain ⟨rods, hx_rods⟩ : ∃ z : (List Int), z = ((([other, ((stayL saw pick ask).getD default)] : List Int).filter (fun a_rod : Int => decide ((0 : Int) < a_rod))).map (fun a_rod : Int => a_rod)) := ⟨_, rfl⟩
    have hn := st.newAt hp_2
    have s_2 : Stp F [] H F_2 [(p_rods, .lst us_rods)] H_2 := by exact s_2
    have r_rods : RA K F_2 us_rods (rods.map eI) := by subst hx_rods; exact r_rods
    have st := st.trans s_2
    have r_saw := r_saw.mono s_2.gr
    have r_ask := r_ask.mono s_2.gr
    have r_pick := r_pick.mono s_2.gr
    have r_other := r_other.mono s_2.gr
    have gz : Gr F_2 (upd F_2 p_rods (.lst us_rods)) := Gr.upd (st.ok.at_ (k := 0) rfl).2
    have r_rods_2 : R K (upd F_2 p_rods (.lst us_rods)) (.ref p_rods) (eL eI rods) := (r_rods.mono gz).lst upd_same
    have st : Stp _ _ _ (upd F_2 p_rods (.lst us_rods)) [] H_2 := st.freezeAt 0 rfl hn
    have r_saw := r_saw.mono gz
    have r_ask := r_ask.mono gz
    have r_pick := r_pick.mono gz
    have r_other := r_other.mono gz
    show ZS _ _ [some v_saw, some v_ask, some v_pick, some v_other, some (.ref p_rods), none, none, none, none, none] H_2 _
    have hf : lookL saw ask pick other = lookL_1 saw ask pick other rods := by subst hx_rods; exact hf
    refine zs_setLcF (i0 := 5) (w := st.ok) (n := 9) (f0 := (fun a_rod_2 : Int => a_rod_2)) (pr := (fun a_rod_2 : Int => decide ((0 : Int) < a_rod_2))) (encR := eI) rfl sc.nd (zi_list (zn_ze (zn_lstt (enc := eI) (xs := ([pick, ((stayL saw other ask).getD default)] : List Int)) (za_cons (ze_var 2 rfl r_pick) (za_cons (ze_some (ze_callD (ok_stayL T) (hr.mono (by decide)) (za_cons (ze_var 0 rfl r_saw) (za_cons (ze_var 3 rfl r_other) (za_cons (ze_var 1 rfl r_ask) za_nil))) ⟨saw, other, ask, rfl, rfl⟩) (by /-2-/ rw [stay_some (by omega)]; rfl)) za_nil))))) (fun _ _ _ _ _ a_rod_2 v_a_rod_2 _ h_a_rod_2 g_c_2 r_a_rod_2 => (zt_cm cm_gt (ze_var 9 rfl r_a_rod_2) ze_int)) (fun _ _ _ _ _ a_rod_2 v_a_rod_2 _ h_a_rod_2 hp_c_2 g_c_2 r_a_rod_2 => (ze_var 9 rfl r_a_rod_2)) (blkOk_by (N := ["saw", "ask", "pick", "other", "rods", "asks", "right", "word", "told", "rod"]) (sc := defScope (topS 26)) (by decide +kernel)) (fun _ _ _ _ _ => pg_name (i := 9) sc.nd rfl (Or.inl rfl)) rfl rfl (sw_true rfl rfl rfl (by decide +kernel)) fun p_asks us_asks F_4 H_3 hp_3 s_3 r_asks => ?_
    obtain ⟨asks, hx_asks⟩ : ∃ z : (List Int), z = ((([pick, ((stayL saw other ask).getD default)] : List Int).filter (fun a_rod_2 : Int => decide ((0 : Int) < a_rod_2))).map (fun a_rod_2 : Int => a_rod_2)) := ⟨_, rfl⟩
    have hn_2 := st.newAt hp_3
    have s_3 : Stp (upd F_2 p_rods (.lst us_rods)) [] H_2 F_4 [(p_asks, .lst us_asks)] H_3 := by exact s_3
    have r_asks : RA K F_4 us_asks (asks.map eI) := by subst hx_asks; exact r_asks
    have st := st.trans s_3
    have r_saw := r_saw.mono s_3.gr
    have r_ask := r_ask.mono s_3.gr
    have r_pick := r_pick.mono s_3.gr
    have r_other := r_other.mono s_3.gr
    have r_rods_2 := r_rods_2.mono s_3.gr
    have gz_2 : Gr F_4 (upd F_4 p_asks (.lst us_asks)) := Gr.upd (st.ok.at_ (k := 0) rfl).2
    have r_asks_2 : R K (upd F_4 p_asks (.lst us_asks)) (.ref p_asks) (eL eI asks) := (r_asks.mono gz_2).lst upd_same
    have st : Stp _ _ _ (upd F_4 p_asks (.lst us_asks)) [] H_3 := st.freezeAt 0 rfl hn_2
    have r_saw := r_saw.mono gz_2
    have r_ask := r_ask.mono gz_2
    have r_pick := r_pick.mono gz_2
    have r_other := r_other.mono gz_2
    have r_rods_2 := r_rods_2.mono gz_2
    show ZS _ _ [some v_saw, some v_ask, some v_pick, some v_other, some (.ref p_rods), some (.ref p_asks), none, none, none, none] H_3 _
    have hf : lookL saw ask pick other = lookL_2 saw pick other rods asks := by subst hx_asks; exact hf
    refine zs_set (n := 6) st.ok (ze_or (ze_cm cm_eqI (ze_var 2 rfl r_pick) (ze_var 3 rfl r_other)) fun hb => (ze_one (ze_callD (ok_lay_twoL T) (hr.mono (by decide)) (za_cons (ze_var 0 rfl r_saw) (za_cons (ze_var 4 rfl r_rods_2) (za_cons (ze_var 5 rfl r_asks_2) za_nil))) ⟨saw, rods, asks, rfl, (by /-3-/ refine ⟨?_, ?_⟩; (rw [hx_rods]; exact Nat.le_trans (len_filter_map _ _ _) (Nat.le_refl 2)); (rw [hx_asks]; exact Nat.le_trans (len_filter_map _ _ _) (Nat.le_refl 2))), rfl⟩))) sc.nd rfl (by first | exact Or.inl rfl | exact Or.inr rfl) fun v_right F_6 H_4 s_4 r_right => ?_
    obtain ⟨right, hx_right⟩ : ∃ z : Bool, z = (decide (pick = other) || (lay_twoL saw rods asks)) := ⟨_, rfl⟩
    have s_4 : Stp (upd F_4 p_asks (.lst us_asks)) [] H_3 F_6 [] H_4 := by exact s_4
    have r_right : R K F_6 v_right (eB right) := by subst hx_right; exact r_right
    have st := st.trans s_4
    have r_saw := r_saw.mono s_4.gr
    have r_ask := r_ask.mono s_4.gr
    have r_pick := r_pick.mono s_4.gr
    have r_other := r_other.mono s_4.gr
    have r_rods_2 := r_rods_2.mono s_4.gr
    have r_asks_2 := r_asks_2.mono s_4.gr
    show ZS _ _ [some v_saw, some v_ask, some v_pick, some v_other, some (.ref p_rods), some (.ref p_asks), some v_right, none, none, none] H_4 _
    have hf : lookL saw ask pick other = lookL_3 pick other right := by subst hx_right; exact hf
    have hright : right = rod_beatsP saw ask pick other := by rw [hx_right, hx_rods, hx_asks]; exact beats_eq hs0 ha1 hap hao
    refine zs_set (n := 7) st.ok ze_str sc.nd rfl (by first | exact Or.inl rfl | exact Or.inr rfl) fun v_word F_7 H_5 s_5 r_word => ?_
    obtain ⟨word, hx_word⟩ : ∃ z : Str, z = (Str.ofString "rest") := ⟨_, rfl⟩
    have s_5 : Stp F_6 [] H_4 F_7 [] H_5 := by exact s_5
    have r_word : R K F_7 v_word (eS word) := by subst hx_word; exact r_word
    have st := st.trans s_5
    have r_saw := r_saw.mono s_5.gr
    have r_ask := r_ask.mono s_5.gr
    have r_pick := r_pick.mono s_5.gr
    have r_other := r_other.mono s_5.gr
    have r_rods_2 := r_rods_2.mono s_5.gr
    have r_asks_2 := r_asks_2.mono s_5.gr
    have r_right := r_right.mono s_5.gr
    show ZS _ _ [some v_saw, some v_ask, some v_pick, some v_other, some (.ref p_rods), some (.ref p_asks), some v_right, some v_word, none, none] H_5 _
    have hf : lookL saw ask pick other = lookL_4 pick other right := by subst hx_word; exact hf
    refine zs_ifJ st.ok (zt_cm cm_eqI (ze_var 2 rfl r_pick) (ze_var 3 rfl r_other)) (fun σ H' => ∃ (j_word : Str) (F : Hp) (O : Own), lookL saw ask pick other = lookL_5 ∧ Stp F_7 [] H_5 F O H' ∧ ∃ (w1 : V), σ = [some v_saw, some v_ask, some v_pick, some v_other, some (.ref p_rods), some (.ref p_asks), some v_right, some w1, none, none] ∧ O = [] ∧ R K F w1 (eS j_word) ∧ (j_word = rod_reasonP saw ask pick other)) (fun hb F_8 H_6 s_6 => ?_) (fun hb F_8 H_6 s_6 => ?_) (fun σ H_7 hJ => ?_)
    · have s_6 : Stp F_7 [] H_5 F_8 [] H_6 := by exact s_6
      have sj := s_6
      have st := st.trans s_6
      have r_saw := r_saw.mono s_6.gr
      have r_ask := r_ask.mono s_6.gr
      have r_pick := r_pick.mono s_6.gr
      have r_other := r_other.mono s_6.gr
      have r_rods_2 := r_rods_2.mono s_6.gr
      have r_asks_2 := r_asks_2.mono s_6.gr
      have r_right := r_right.mono s_6.gr
      have r_word := r_word.mono s_6.gr
      have hf := hf.trans (cond_t hb)
      refine zs_set (n := 7) st.ok ze_str sc.nd rfl (by first | exact Or.inl rfl | exact Or.inr rfl) fun v_word_3 F_13 H_10 s_10 r_word_3 => ?_
      obtain ⟨word_2, hx_word_2⟩ : ∃ z : Str, z = (Str.ofString "same") := ⟨_, rfl⟩
      have s_10 : Stp F_8 [] H_6 F_13 [] H_10 := by exact s_10
      have r_word_3 : R K F_13 v_word_3 (eS word_2) := by subst hx_word_2; exact r_word_3
      have st := st.trans s_10
      have sj := sj.trans s_10
      have r_saw := r_saw.mono s_10.gr
      have r_ask := r_ask.mono s_10.gr
      have r_pick := r_pick.mono s_10.gr
      have r_other := r_other.mono s_10.gr
      have r_rods_2 := r_rods_2.mono s_10.gr
      have r_asks_2 := r_asks_2.mono s_10.gr
      have r_right := r_right.mono s_10.gr
      show ZS _ _ [some v_saw, some v_ask, some v_pick, some v_other, some (.ref p_rods), some (.ref p_asks), some v_right, some v_word_3, none, none] H_10 _
      have hf : lookL saw ask pick other = lookL_7 := by subst hx_word_2; exact hf
      refine zs_nil ?_
      exact ⟨word_2, _, _, hf, sj, v_word_3, rfl, rfl, r_word_3, by rw [hx_word_2]; exact reason_1 (by assumption)⟩
    · have s_6 : Stp F_7 [] H_5 F_8 [] H_6 := by exact s_6
      have sj := s_6
      have st := st.trans s_6
      have r_saw := r_saw.mono s_6.gr
      have r_ask := r_ask.mono s_6.gr
      have r_pick := r_pick.mono s_6.gr
      have r_other := r_other.mono s_6.gr
      have r_rods_2 := r_rods_2.mono s_6.gr
      have r_asks_2 := r_asks_2.mono s_6.gr
      have r_right := r_right.mono s_6.gr
      have r_word := r_word.mono s_6.gr
      have hf := hf.trans (cond_f hb)
      refine zs_if st.ok (zt_val (ze_var 6 rfl r_right)) (fun hb_2 F_14 H_11 s_11 => ?_) (fun hb_2 F_14 H_11 s_11 => ?_)
      · have s_11 : Stp F_8 [] H_6 F_14 [] H_11 := by exact s_11
        have st := st.trans s_11
        have sj := sj.trans s_11
        have r_saw := r_saw.mono s_11.gr
        have r_ask := r_ask.mono s_11.gr
        have r_pick := r_pick.mono s_11.gr
        have r_other := r_other.mono s_11.gr
        have r_rods_2 := r_rods_2.mono s_11.gr
        have r_asks_2 := r_asks_2.mono s_11.gr
        have r_right := r_right.mono s_11.gr
        have r_word := r_word.mono s_11.gr
        have hf := hf.trans (cond_t hb_2)
        refine zs_set (n := 7) st.ok (ze_ixLt (enc := eS) (zn_ze (zn_lstt (enc := eS) (xs := ([(Str.ofString "right"), (Str.ofString "exact")] : List Str)) (za_cons ze_str (za_cons ze_str za_nil)))) (ze_intB T.b_int (ze_cm cm_eqI (ze_var 2 rfl r_pick) (ze_var 1 rfl r_ask))) (by /-9-/ first | (first | omega | (simp only [List.length_append, List.length_cons, List.length_nil, List.length_map, rangeI_length]; omega)) | (first | omega | (rw [← szL]; omega) | (simp only [List.length_append, List.length_cons, List.length_nil, List.length_map, rangeI_length, ← szL]; omega)))) sc.nd rfl (by first | exact Or.inl rfl | exact Or.inr rfl) fun v_word_4 F_15 H_12 s_12 r_word_4 => ?_
        obtain ⟨word_3, hx_word_3⟩ : ∃ z : Str, z = (ixL ([(Str.ofString "right"), (Str.ofString "exact")] : List Str) (if decide (pick = ask) then (1 : Int) else 0)) := ⟨_, rfl⟩
        have s_12 : Stp F_14 [] H_11 F_15 [] H_12 := by exact s_12
        have r_word_4 : R K F_15 v_word_4 (eS word_3) := by subst hx_word_3; exact r_word_4
        have st := st.trans s_12
        have sj := sj.trans s_12
        have r_saw := r_saw.mono s_12.gr
        have r_ask := r_ask.mono s_12.gr
        have r_pick := r_pick.mono s_12.gr
        have r_other := r_other.mono s_12.gr
        have r_rods_2 := r_rods_2.mono s_12.gr
        have r_asks_2 := r_asks_2.mono s_12.gr
        have r_right := r_right.mono s_12.gr
        show ZS _ _ [some v_saw, some v_ask, some v_pick, some v_other, some (.ref p_rods), some (.ref p_asks), some v_right, some v_word_4, none, none] H_12 _
        have hf : lookL saw ask pick other = lookL_8 := by subst hx_word_3; exact hf
        refine zs_nil ?_
        show ZS _ _ [some v_saw, some v_ask, some v_pick, some v_other, some (.ref p_rods), some (.ref p_asks), some v_right, some v_word_4, none, none] H_12 _
        refine zs_nil ?_
        exact ⟨word_3, _, _, hf, sj, v_word_4, rfl, rfl, r_word_4, by first | exact hw9 | (rw [hx_word_3]; exact reason_2 (by assumption) (by rw [← hright]; assumption))⟩
      · have s_11 : Stp F_8 [] H_6 F_14 [] H_11 := by exact s_11
        have st := st.trans s_11
        have sj := sj.trans s_11
        have r_saw := r_saw.mono s_11.gr
        have r_ask := r_ask.mono s_11.gr
        have r_pick := r_pick.mono s_11.gr
        have r_other := r_other.mono s_11.gr
        have r_rods_2 := r_rods_2.mono s_11.gr
        have r_asks_2 := r_asks_2.mono s_11.gr
        have r_right := r_right.mono s_11.gr
        have r_word := r_word.mono s_11.gr
        have hf := hf.trans (cond_f hb_2)
        refine zs_ifJ st.ok (zt_cm cm_gt (ze_var 2 rfl r_pick) (ze_var 3 rfl r_other)) (fun σ H' => ∃ (j_word_2 : Str) (F : Hp) (O : Own), lookL saw ask pick other = lookL_9 ∧ Stp F_14 [] H_11 F O H' ∧ ∃ (w1 : V), σ = [some v_saw, some v_ask, some v_pick, some v_other, some (.ref p_rods), some (.ref p_asks), some v_right, some w1, none, none] ∧ O = [] ∧ R K F w1 (eS j_word_2) ∧ (j_word_2 = rod_reasonP saw ask pick other)) (fun hb_3 F_16 H_13 s_13 => ?_) (fun hb_3 F_16 H_13 s_13 => ?_) (fun σ_2 H_14 hJ_2 => ?_)
        · have s_13 : Stp F_14 [] H_11 F_16 [] H_13 := by exact s_13
          have sj_2 := s_13
          have st := st.trans s_13
          have sj := sj.trans s_13
          have r_saw := r_saw.mono s_13.gr
          have r_ask := r_ask.mono s_13.gr
          have r_pick := r_pick.mono s_13.gr
          have r_other := r_other.mono s_13.gr
          have r_rods_2 := r_rods_2.mono s_13.gr
          have r_asks_2 := r_asks_2.mono s_13.gr
          have r_right := r_right.mono s_13.gr
          have r_word := r_word.mono s_13.gr
          have hf := hf.trans (cond_t hb_3)
          refine zs_set (n := 7) st.ok ze_str sc.nd rfl (by first | exact Or.inl rfl | exact Or.inr rfl) fun v_word_6 F_18 H_15 s_15 r_word_6 => ?_
          obtain ⟨word_4, hx_word_4⟩ : ∃ z : Str, z = (Str.ofString "longer") := ⟨_, rfl⟩
          have s_15 : Stp F_16 [] H_13 F_18 [] H_15 := by exact s_15
          have r_word_6 : R K F_18 v_word_6 (eS word_4) := by subst hx_word_4; exact r_word_6
          have st := st.trans s_15
          have sj := sj.trans s_15
          have sj_2 := sj_2.trans s_15
          have r_saw := r_saw.mono s_15.gr
          have r_ask := r_ask.mono s_15.gr
          have r_pick := r_pick.mono s_15.gr
          have r_other := r_other.mono s_15.gr
          have r_rods_2 := r_rods_2.mono s_15.gr
          have r_asks_2 := r_asks_2.mono s_15.gr
          have r_right := r_right.mono s_15.gr
          show ZS _ _ [some v_saw, some v_ask, some v_pick, some v_other, some (.ref p_rods), some (.ref p_asks), some v_right, some v_word_6, none, none] H_15 _
          have hf : lookL saw ask pick other = lookL_10 := by subst hx_word_4; exact hf
          refine zs_nil ?_
          exact ⟨word_4, _, _, hf, sj_2, v_word_6, rfl, rfl, r_word_6, by rw [hx_word_4]; exact reason_3 (by assumption) (by assumption)⟩
        · have s_13 : Stp F_14 [] H_11 F_16 [] H_13 := by exact s_13
          have sj_2 := s_13
          have st := st.trans s_13
          have sj := sj.trans s_13
          have r_saw := r_saw.mono s_13.gr
          have r_ask := r_ask.mono s_13.gr
          have r_pick := r_pick.mono s_13.gr
          have r_other := r_other.mono s_13.gr
          have r_rods_2 := r_rods_2.mono s_13.gr
          have r_asks_2 := r_asks_2.mono s_13.gr
          have r_right := r_right.mono s_13.gr
          have r_word := r_word.mono s_13.gr
          have hf := hf.trans (cond_f hb_3)
          refine zs_nil ?_
          exact ⟨word, _, _, hf, sj_2, v_word, rfl, rfl, r_word, by rw [hx_word]; exact reason_4 (by assumption) (by rw [← hright]; assumption) (by assumption)⟩
        · obtain ⟨j_word_2, F_17, O_3, hf, s_14, hJ_2⟩ := hJ_2
          obtain ⟨v_word_5, rfl, rfl, r_word_5, hinv_2⟩ := hJ_2
          have r_word_5 : R K _ v_word_5 (eS j_word_2) := r_word_5
          have st := st.trans s_14
          have sj := sj.trans s_14
          have r_saw := r_saw.mono s_14.gr
          have r_ask := r_ask.mono s_14.gr
          have r_pick := r_pick.mono s_14.gr
          have r_other := r_other.mono s_14.gr
          have r_rods_2 := r_rods_2.mono s_14.gr
          have r_asks_2 := r_asks_2.mono s_14.gr
          have r_right := r_right.mono s_14.gr
          have hw9 := hinv_2
          show ZS _ _ [some v_saw, some v_ask, some v_pick, some v_other, some (.ref p_rods), some (.ref p_asks), some v_right, some v_word_5, none, none] H_14 _
          refine zs_nil ?_
          show ZS _ _ [some v_saw, some v_ask, some v_pick, some v_other, some (.ref p_rods), some (.ref p_asks), some v_right, some v_word_5, none, none] H_14 _
          refine zs_nil ?_
          exact ⟨j_word_2, _, _, hf, sj, v_word_5, rfl, rfl, r_word_5, by first | exact hw9 | (rw [hx_j_word_2]; exact reason_2 (by assumption) (by rw [← hright]; assumption))⟩
    · obtain ⟨j_word, F_9, O_2, hf, s_7, hJ⟩ := hJ
      obtain ⟨v_word_2, rfl, rfl, r_word_2, hinv⟩ := hJ
      have r_word_2 : R K _ v_word_2 (eS j_word) := r_word_2
      have st := st.trans s_7
      have r_saw := r_saw.mono s_7.gr
      have r_ask := r_ask.mono s_7.gr
      have r_pick := r_pick.mono s_7.gr
      have r_other := r_other.mono s_7.gr
      have r_rods_2 := r_rods_2.mono s_7.gr
      have r_asks_2 := r_asks_2.mono s_7.gr
      have r_right := r_right.mono s_7.gr
      have hw5 := hinv
      show ZS _ _ [some v_saw, some v_ask, some v_pick, some v_other, some (.ref p_rods), some (.ref p_asks), some v_right, some v_word_2, none, none] H_7 _
      refine zs_setN (n := 8) st.ok (zn_lstt (enc := (fun d : PyData => d)) (xs := ([(eB (rod_beatsP saw ask pick other)), (eS (rod_reasonP saw ask pick other))] : List PyData)) (za_cons (ze_callD (ok_rod_beatsP T) (hr.mono (by decide)) (za_cons (ze_var 0 rfl r_saw) (za_cons (ze_var 1 rfl r_ask) (za_cons (ze_var 2 rfl r_pick) (za_cons (ze_var 3 rfl r_other) za_nil)))) ⟨saw, ask, pick, other, rfl, rfl⟩) (za_cons (ze_callD (ok_rod_reasonP T) (hr.mono (by decide)) (za_cons (ze_var 0 rfl r_saw) (za_cons (ze_var 1 rfl r_ask) (za_cons (ze_var 2 rfl r_pick) (za_cons (ze_var 3 rfl r_other) za_nil)))) ⟨saw, ask, pick, other, rfl, rfl⟩) za_nil))) sc.nd rfl (by first | exact Or.inl rfl | exact Or.inr rfl) fun p_told us_told F_10 H_8 hp_4 s_8 r_told => ?_
      obtain ⟨told, hx_told⟩ : ∃ z : (List PyData), z = ([(eB (rod_beatsP saw ask pick other)), (eS (rod_reasonP saw ask pick other))] : List PyData) := ⟨_, rfl⟩
      have hn_3 := st.newAt hp_4
      have s_8 : Stp F_9 [] H_7 F_10 [(p_told, .lst us_told)] H_8 := by exact s_8
      have r_told : RA K F_10 us_told (told.map (fun d : PyData => d)) := by subst hx_told; exact r_told
      have st := st.trans s_8
      have r_saw := r_saw.mono s_8.gr
      have r_ask := r_ask.mono s_8.gr
      have r_pick := r_pick.mono s_8.gr
      have r_other := r_other.mono s_8.gr
      have r_rods_2 := r_rods_2.mono s_8.gr
      have r_asks_2 := r_asks_2.mono s_8.gr
      have r_right := r_right.mono s_8.gr
      have r_word_2 := r_word_2.mono s_8.gr
      have gz_3 : Gr F_10 (upd F_10 p_told (.lst us_told)) := Gr.upd (st.ok.at_ (k := 0) rfl).2
      have r_told_2 : R K (upd F_10 p_told (.lst us_told)) (.ref p_told) (eL (fun d : PyData => d) told) := (r_told.mono gz_3).lst upd_same
      have st : Stp _ _ _ (upd F_10 p_told (.lst us_told)) [] H_8 := st.freezeAt 0 rfl hn_3
      have r_saw := r_saw.mono gz_3
      have r_ask := r_ask.mono gz_3
      have r_pick := r_pick.mono gz_3
      have r_other := r_other.mono gz_3
      have r_rods_2 := r_rods_2.mono gz_3
      have r_asks_2 := r_asks_2.mono gz_3
      have r_right := r_right.mono gz_3
      have r_word_2 := r_word_2.mono gz_3
      show ZS _ _ [some v_saw, some v_ask, some v_pick, some v_other, some (.ref p_rods), some (.ref p_asks), some v_right, some v_word_2, some (.ref p_told), none] H_8 _
      have hf : lookL saw ask pick other = lookL_6 := by subst hx_told; exact hf
      refine zs_ret st.ok (ze_eqB (k1 := (true && true)) (k := true) (ze_and (ze_callD (ok_same T) (hr.mono (by decide)) (za_cons (ze_var 8 rfl r_told_2) (za_cons (zn_ze (zn_lstt (enc := (fun d : PyData => d)) (xs := ([(eB right), (eS j_word)] : List PyData)) (za_cons (ze_var 6 rfl r_right) (za_cons (ze_var 7 rfl r_word_2) za_nil)))) za_nil)) (A_same_of (a := ((eL (fun d : PyData => d)) told)) (b := ((eL (fun d : PyData => d)) ([(eB right), (eS j_word)] : List PyData))) (congrArg (eL (fun d : PyData => d)) (show ([(eB right), (eS j_word)] : List PyData) = told from (by /-4-/ rw [hx_told, hright, hw5]))) (by /-5-/ rw [hx_told]; simp only [szI, szB, szS, szLn, szLI, szLS, szLB, szOI, szOS, szT2, szD, szC, szN, List.map_cons, List.map_nil, List.length_append, List.length_cons, List.length_nil, List.length_map, rangeI_length]; omega))) fun hb => (ze_one (ze_callD (ok_same T) (hr.mono (by decide)) (za_cons (ze_callD (ok_rod_restP T) (hr.mono (by decide)) (za_cons (ze_var 0 rfl r_saw) (za_cons (ze_var 2 rfl r_pick) (za_cons (ze_var 1 rfl r_ask) za_nil))) ⟨saw, pick, ask, rfl, rfl⟩) (za_cons (ze_some (ze_callD (ok_stayL T) (hr.mono (by decide)) (za_cons (ze_var 0 rfl r_saw) (za_cons (ze_var 2 rfl r_pick) (za_cons (ze_var 1 rfl r_ask) za_nil))) ⟨saw, pick, ask, rfl, rfl⟩) (by /-6-/ rw [stay_some (by omega)]; rfl)) za_nil)) (A_same_of (a := (eI (rod_restP saw pick ask))) (b := (eI ((stayL saw pick ask).getD default))) (congrArg eI (show ((stayL saw pick ask).getD default) = (rod_restP saw pick ask) from (by /-7-/ rw [stay_get (by omega), rest_eq]))) (by /-8-/ first | ((simp only [szI, szB, szS, szLn, szLI, szLS, szLB, szOI, szOS, szT2, szD, szC, szN, List.map_cons, List.map_nil, List.length_append, List.length_cons, List.length_nil, List.length_map, rangeI_length]; omega)) | (first | omega | (rw [← szL]; omega) | (simp only [List.length_append, List.length_cons, List.length_nil, List.length_map, rangeI_length, ← szL]; omega))))))) (by simp)) fun v F_12 H_9 s_9 r_2 => ?_
      exact q v F_12 H_9 (st.trans s_9) r_2
/-! _law_asked -/
abbrev s_askedL : Stmt := topS 27
theorem sc_askedL : FnScope ["store", "saw", "stock", "ask", "picks", "turn", "some", "pick", "handed", "told", "left", "other", "rod"] ["store", "saw", "stock", "ask"] (defScope s_askedL) := ⟨rfl, rfl, rfl, by decide +kernel, rfl, by decide +kernel, by decide +kernel⟩
def askedL_5 : Unit :=
  ()
def askedL_4 : Unit :=
  askedL_5
def askedL_3 : Unit :=
  askedL_4
def askedL_2 : Unit :=
  askedL_3
def askedL_L1b : Unit :=
  askedL_2
def askedL_L1 (b : Unit) (a : Int) : Unit :=
  askedL_L1b
def askedL_L3b : Unit :=
  ()
def askedL_L3 (b : Unit) (a : Int) : Unit :=
  askedL_L3b
def askedL_12 (b : Unit) : Unit :=
  ()
def askedL_11 (some_ : (List Int)) : Unit :=
  askedL_12 (List.foldl askedL_L3 () some_)
def askedL_10 (some_ : (List Int)) : Unit :=
  askedL_11 some_
def askedL_9 (some_ : (List Int)) : Unit :=
  askedL_10 some_
def askedL_8 (some_ : (List Int)) : Unit :=
  askedL_9 some_
def askedL_L2b (some_ : (List Int)) : Unit :=
  askedL_8 some_
def askedL_L2 (some_ : (List Int)) (b : Unit) (a : Int) : Unit :=
  askedL_L2b some_
def askedL_13 (s_12 : Sto) (b : Unit) : Bool × Sto :=
  (true, s_12)
def askedL_7 (some_ : (List Int)) (s_12 : Sto) : Bool × Sto :=
  (askedL_13 s_12) (List.foldl (askedL_L2 some_) () some_)
def askedL_6 (cs : List Int) (picks : (List Int)) (s : Sto) (b : Unit) : Bool × Sto :=
  askedL_7 (Z.cutD ((shufT cs s picks).1) none (some (5 : Int))) ((shufT cs s picks).2)
def askedL_1 (cs : List Int) (picks : (List Int)) (s : Sto) : Bool × Sto :=
  (askedL_6 cs picks s) (List.foldl askedL_L1 () (rangeI 0 (2 : Int)))
def askedL (cs : List Int) (s : Sto) (saw : Int) (stock : (List Int)) (ask : Int) : Bool × Sto :=
  askedL_1 cs (usI ((stock.filter (fun a_rod : Int => decide (ask ≤ a_rod))).map (fun a_rod : Int => a_rod))) s
def A_askedL : List Int → Sto → List PyData → PyData → Sto → Prop := fun cs s ds r s' => ∃ (saw : Int) (stock : (List Int)) (ask : Int), ds = [eI saw, (eL eI) stock, eI ask] ∧ (0 ≤ saw ∧ saw ≤ 99 ∧ 1 ≤ ask ∧ stock.length ≤ 40) ∧ r = eB true ∧ s' = (askedL cs s saw stock ask).2
set_option maxHeartbeats 4000000 in
theorem ok_askedL {P : Program} {w : World} {K : PySem.W.Frag} {mg : Str → Option Value} {base : Heap} (T : Top K mg) : Fn P w K mg base 4 "_law_asked" ["store", "saw", "stock", "ask"] (spS K A_askedL) := by
  obtain ⟨f, fd, F, gm⟩ := T.f_askedL
  have sc := sc_askedL
  refine ⟨f, fd, F.ok sc (fun vs H Q E h => ?_) (fun cdv A outer s0 H vs Q E hr h => ⟨_, PSs.nox pss_w, ?_⟩), gm, F.kp, F.bindsN (fun _ _ _ _ _ _ us hl => match us, hl with | [_, _, _, _], _ => rfl)⟩
  · obtain ⟨F, a_st, c_st, cs, s, ws, ds, r, s', rfl, w, rc, ra, ⟨saw, stock, ask, rfl, hpre, rfl, rfl⟩, q⟩ := h
    have h := ra.len
    show ws.length + 1 = 4
    rw [h]; rfl
  · obtain ⟨F, a_st, c_st, cs, s, ws, ds, r, s', rfl, w, r_st, ra, ⟨saw, stock, ask, rfl, hpre, rfl, rfl⟩, q⟩ := h
    obtain ⟨v_saw, ws, rfl, r_saw, ra⟩ := ra.cons_inv
    obtain ⟨v_stock, ws, rfl, r_stock, ra⟩ := ra.cons_inv
    obtain ⟨v_ask, ws, rfl, r_ask, ra⟩ := ra.cons_inv
    obtain rfl := ra.nil_inv
    have st := Stp.refl w
    obtain ⟨hs0, hs1, ha1, hsl⟩ := id hpre
    have hf : askedL cs s saw stock ask = askedL cs s saw stock ask := rfl
    show ZS _ _ [some (.ref a_st), some v_saw, some v_stock, some v_ask, none, none, none, none, none, none, none, none, none] H _
    refine zs_setN (n := 4) st.ok (zn_sortV rfl T.b_sorted (zv_set rfl T.b_set (zn_ze (zn_lcF (n := 12) (f0 := (fun a_rod : Int => a_rod)) (pr := (fun a_rod : Int => decide (ask ≤ a_rod))) (encR := eI) rfl sc.nd (zi_list (ze_var 2 rfl r_stock)) (fun _ _ _ _ _ a_rod v_a_rod _ h_a_rod g_c r_a_rod => (zt_cm cm_ge (ze_var 12 rfl r_a_rod) (ze_var 3 rfl (r_ask.mono g_c)))) (fun _ _ _ _ _ a_rod v_a_rod _ h_a_rod hp_c g_c r_a_rod => (ze_var 12 rfl r_a_rod)) (blkOk_by (N := ["store", "saw", "stock", "ask", "picks", "turn", "some", "pick", "handed", "told", "left", "other", "rod"]) (sc := defScope (topS 27)) (by decide +kernel)) (fun _ _ _ _ _ => pg_name (i := 12) sc.nd rfl (Or.inl rfl)))) (by /-1-/ first | exact Nat.lt_of_le_of_lt (len_filter_map _ _ _) (by omega) | omega)) (by /-2-/ exact Nat.lt_of_le_of_lt (len_filter_map _ _ _) (by omega))) sc.nd rfl (by first | exact Or.inl rfl | exact Or.inr rfl) fun p_picks us_picks F_2 H_2 hp_2 s_2 r_picks => ?_
    obtain ⟨picks, hx_picks⟩ : ∃ z : (List Int), z = (usI ((stock.filter (fun a_rod : Int => decide (ask ≤ a_rod))).map (fun a_rod : Int => a_rod))) := ⟨_, rfl⟩
    have hn := st.newAt hp_2
    have s_2 : Stp F [stoO a_st c_st s] H F_2 [(p_picks, .lst us_picks), stoO a_st c_st s] H_2 := by exact s_2
    have r_picks : RA K F_2 us_picks (picks.map eI) := by subst hx_picks; exact r_picks
    have st := st.trans s_2
    have r_saw := r_saw.mono s_2.gr
    have r_stock := r_stock.mono s_2.gr
    have r_ask := r_ask.mono s_2.gr
    have r_st := r_st.mono s_2.gr
    have gz : Gr F_2 (upd F_2 p_picks (.lst us_picks)) := Gr.upd (st.ok.at_ (k := 0) rfl).2
    have r_picks_2 : R K (upd F_2 p_picks (.lst us_picks)) (.ref p_picks) (eL eI picks) := (r_picks.mono gz).lst upd_same
    have st : Stp _ _ _ (upd F_2 p_picks (.lst us_picks)) [stoO a_st c_st s] H_2 := st.freezeAt 0 rfl hn
    have r_saw := r_saw.mono gz
    have r_stock := r_stock.mono gz
    have r_ask := r_ask.mono gz
    have r_st := r_st.mono gz
    show ZS _ _ [some (.ref a_st), some v_saw, some v_stock, some v_ask, some (.ref p_picks), none, none, none, none, none, none, none, none] H_2 _
    have hf : askedL cs s saw stock ask = askedL_1 cs picks s := by subst hx_picks; exact hf
    have hpk : picks = rod_picksP stock ask := by rw [hx_picks]; rfl
    have hpl : picks.length ≤ 40 := by rw [hpk]; exact Nat.le_trans (picks_len _ _) hsl
    refine zs_forF (f := askedL_L1) (b0 := ()) st.ok PassesOwn.never rfl (zi_range1 T.b_range ze_int (by decide)) (fun iq b σ F O => ∃ (z1 : Option V) (z2 : Option V) (z3 : Option V), σ = [some (.ref a_st), some v_saw, some v_stock, some v_ask, some (.ref p_picks), z1, none, none, z2, z3, none, none, none] ∧ O = [stoO a_st c_st s] ∧ True) (fun F_33 H_26 s_27 => ⟨none, none, none, rfl, rfl, trivial⟩) (fun i b turn v σ F_4 F_5 O_2 H_3 ha hbe hz rel g s_3 r_2 => ?_) (fun σ_2 F_12 O_3 H_10 s_10 rel_2 => ?_)
    · skip
      obtain ⟨z_turn, z_handed, z_told, rfl, rfl, hinv⟩ := rel
      have st := st.trans s_3
      have r_saw := r_saw.mono s_3.gr
      have r_stock := r_stock.mono s_3.gr
      have r_ask := r_ask.mono s_3.gr
      have r_st := r_st.mono s_3.gr
      have r_picks_2 := r_picks_2.mono s_3.gr
      have hlt_i := (List.getElem?_eq_some_iff.mp ha).1
      rw [rangeI_length] at hlt_i
      have hat_i := rangeI_at ha
      have sb : Stp F_5 [stoO a_st c_st s] H_3 F_5 [stoO a_st c_st s] H_3 := Stp.refl st.ok
      have hfb : askedL_L1 () turn = askedL_L1b := rfl
      refine zg_name (n := 5) sc.nd rfl (by first | exact Or.inl rfl | exact Or.inr rfl) ?_
      show ZS _ _ [some (.ref a_st), some v_saw, some v_stock, some v_ask, some (.ref p_picks), some v, none, none, z_handed, z_told, none, none, none] H_3 _
      refine zs_setN (n := 8) st.ok (zn_list T.b_list (ze_var 2 rfl r_stock)) sc.nd rfl (by first | exact Or.inl rfl | exact Or.inr rfl) fun p_handed us_handed F_6 H_4 hp_3 s_4 r_handed => ?_
      obtain ⟨handed, hx_handed⟩ : ∃ z : (List Int), z = stock := ⟨_, rfl⟩
      have hn_2 := st.newAt hp_3
      have hn_3 := sb.newAt hp_3
      have s_4 : Stp F_5 [stoO a_st c_st s] H_3 F_6 [(p_handed, .lst us_handed), stoO a_st c_st s] H_4 := by exact s_4
      have r_handed : RA K F_6 us_handed (handed.map eI) := by subst hx_handed; exact r_handed
      have st := st.trans s_4
      have sb := sb.trans s_4
      have r_saw := r_saw.mono s_4.gr
      have r_stock := r_stock.mono s_4.gr
      have r_ask := r_ask.mono s_4.gr
      have r_st := r_st.mono s_4.gr
      have r_picks_2 := r_picks_2.mono s_4.gr
      have r_2 := r_2.mono s_4.gr
      have gz_2 : Gr F_6 (upd F_6 p_handed (.lst us_handed)) := Gr.upd (st.ok.at_ (k := 0) rfl).2
      have r_handed_2 : R K (upd F_6 p_handed (.lst us_handed)) (.ref p_handed) (eL eI handed) := (r_handed.mono gz_2).lst upd_same
      have st : Stp _ _ _ (upd F_6 p_handed (.lst us_handed)) [stoO a_st c_st s] H_4 := st.freezeAt 0 rfl hn_2
      have sb : Stp _ _ _ (upd F_6 p_handed (.lst us_handed)) [stoO a_st c_st s] H_4 := sb.freezeAt 0 rfl hn_3
      have r_saw := r_saw.mono gz_2
      have r_stock := r_stock.mono gz_2
      have r_ask := r_ask.mono gz_2
      have r_st := r_st.mono gz_2
      have r_picks_2 := r_picks_2.mono gz_2
      have r_2 := r_2.mono gz_2
      show ZS _ _ [some (.ref a_st), some v_saw, some v_stock, some v_ask, some (.ref p_picks), some v, none, none, some (.ref p_handed), z_told, none, none, none] H_4 _
      have hfb : askedL_L1 () turn = askedL_2 := by subst hx_handed; exact hfb
      have hh : handed = stock := hx_handed
      have hhl : handed.length = stock.length := by rw [hh]
      refine zs_setN (n := 9) st.ok (zn_callN (ok_rod_picksP T) (hr.mono (by decide)) (za_cons (ze_var 8 rfl r_handed_2) (za_cons (ze_var 3 rfl r_ask) za_nil)) ⟨handed, ask, rfl, (by /-3-/ first | (first | omega | (simp only [List.length_append, List.length_cons, List.length_nil, List.length_map, rangeI_length]; omega)) | (first | omega | (rw [← szL]; omega) | (simp only [List.length_append, List.length_cons, List.length_nil, List.length_map, rangeI_length, ← szL]; omega))), rfl⟩) sc.nd rfl (by first | exact Or.inl rfl | exact Or.inr rfl) fun p_told us_told F_8 H_5 hp_4 s_5 r_told => ?_
      obtain ⟨told, hx_told⟩ : ∃ z : (List Int), z = (rod_picksP handed ask) := ⟨_, rfl⟩
      have hn_4 := st.newAt hp_4
      have hn_5 := sb.newAt hp_4
      have s_5 : Stp (upd F_6 p_handed (.lst us_handed)) [stoO a_st c_st s] H_4 F_8 [(p_told, .lst us_told), stoO a_st c_st s] H_5 := by exact s_5
      have r_told : RA K F_8 us_told (told.map eI) := by subst hx_told; exact r_told
      have st := st.trans s_5
      have sb := sb.trans s_5
      have r_saw := r_saw.mono s_5.gr
      have r_stock := r_stock.mono s_5.gr
      have r_ask := r_ask.mono s_5.gr
      have r_st := r_st.mono s_5.gr
      have r_picks_2 := r_picks_2.mono s_5.gr
      have r_2 := r_2.mono s_5.gr
      have r_handed_2 := r_handed_2.mono s_5.gr
      show ZS _ _ [some (.ref a_st), some v_saw, some v_stock, some v_ask, some (.ref p_picks), some v, none, none, some (.ref p_handed), some (.ref p_told), none, none, none] H_5 _
      have hfb : askedL_L1 () turn = askedL_3 := by subst hx_told; exact hfb
      have htl : told.length ≤ 40 := by rw [hx_told, hh]; exact Nat.le_trans (picks_len _ _) hsl
      refine zs_ifF st.ok (zt_eq (zt_w (zw_or (zt_not (zt_val (ze_callDO 9 0 (ok_same T) (hr.mono (by decide)) rfl rfl r_told (za_cons (ze_var 4 rfl r_picks_2) za_nil) (A_same_of (a := ((eL eI) told)) (b := ((eL eI) picks)) (congrArg (eL eI) (show picks = told from (by /-4-/ rw [hx_told, hh]; exact hpk))) (by /-5-/ first | ((simp only [szI, szB, szS, szLn, szLI, szLS, szLB, szOI, szOS, szT2, szD, szC, szN, List.map_cons, List.map_nil, List.length_append, List.length_cons, List.length_nil, List.length_map, rangeI_length]; omega)) | (first | omega | (rw [← szL]; omega) | (simp only [List.length_append, List.length_cons, List.length_nil, List.length_map, rangeI_length, ← szL]; omega))))))) fun hb => (zw_or1 (zt_not (zt_val (ze_callD (ok_same T) (hr.mono (by decide)) (za_cons (ze_var 8 rfl r_handed_2) (za_cons (ze_var 2 rfl r_stock) za_nil)) (A_same_of (a := ((eL eI) handed)) (b := ((eL eI) stock)) (congrArg (eL eI) (show stock = handed from (by /-6-/ exact hh.symm))) (by /-7-/ first | ((simp only [szI, szB, szS, szLn, szLI, szLS, szLB, szOI, szOS, szT2, szD, szC, szN, List.map_cons, List.map_nil, List.length_append, List.length_cons, List.length_nil, List.length_map, rangeI_length]; omega)) | (first | omega | (rw [← szL]; omega) | (simp only [List.length_append, List.length_cons, List.length_nil, List.length_map, rangeI_length, ← szL]; omega)))))))))) (by simp)) fun F_9 H_6 s_6 => ?_
      have s_6 : Stp F_8 [(p_told, .lst us_told), stoO a_st c_st s] H_5 F_9 [(p_told, .lst us_told), stoO a_st c_st s] H_6 := by exact s_6
      have st := st.trans s_6
      have sb := sb.trans s_6
      have r_saw := r_saw.mono s_6.gr
      have r_stock := r_stock.mono s_6.gr
      have r_ask := r_ask.mono s_6.gr
      have r_st := r_st.mono s_6.gr
      have r_picks_2 := r_picks_2.mono s_6.gr
      have r_2 := r_2.mono s_6.gr
      have r_handed_2 := r_handed_2.mono s_6.gr
      have r_told := r_told.mono s_6.gr
      refine zs_nil ?_
      show ZS _ _ [some (.ref a_st), some v_saw, some v_stock, some v_ask, some (.ref p_picks), some v, none, none, some (.ref p_handed), some (.ref p_told), none, none, none] H_6 _
      have hl : (us_told).length = told.length := by have h := r_told.len; exact h.trans (by rw [List.length_map])
      refine zs_append st.ok 9 0 rfl ze_int rfl (by rw [hl]; exact (by /-8-/ first | ((rw [← szL]; first | omega | (simp only [List.length_append, List.length_cons, List.length_nil, List.length_map, rangeI_length]; omega))) | (first | omega | (rw [← szL]; omega) | (simp only [List.length_append, List.length_cons, List.length_nil, List.length_map, rangeI_length, ← szL]; omega)))) fun v_2 F_10 H_7 s_7 r_3 => ?_
      obtain ⟨told_2, hx_told_2⟩ : ∃ z : (List Int), z = told ++ [(0 : Int)] := ⟨_, rfl⟩
      obtain ⟨us_told_2, hus_told_2⟩ : ∃ z, z = us_told ++ [v_2] := ⟨_, rfl⟩
      have s_7 : Stp F_9 [(p_told, .lst us_told), stoO a_st c_st s] H_6 F_10 [(p_told, .lst us_told_2), stoO a_st c_st s] H_7 := by subst hus_told_2; exact s_7
      have r_told_2 : RA K F_10 us_told_2 (told_2.map eI) := by rw [hus_told_2, hx_told_2, List.map_append]; exact (r_told.mono s_7.gr).snoc r_3
      have st := st.trans s_7
      have sb := sb.trans s_7
      have r_saw := r_saw.mono s_7.gr
      have r_stock := r_stock.mono s_7.gr
      have r_ask := r_ask.mono s_7.gr
      have r_st := r_st.mono s_7.gr
      have r_picks_2 := r_picks_2.mono s_7.gr
      have r_2 := r_2.mono s_7.gr
      have r_handed_2 := r_handed_2.mono s_7.gr
      show ZS _ _ [some (.ref a_st), some v_saw, some v_stock, some v_ask, some (.ref p_picks), some v, none, none, some (.ref p_handed), some (.ref p_told), none, none, none] H_7 _
      have hfb : askedL_L1 () turn = askedL_4 := by subst hx_told_2; exact hfb
      refine zs_reverse st.ok 9 0 rfl rfl fun H_8 s_8 => ?_
      obtain ⟨told_3, hx_told_3⟩ : ∃ z : (List Int), z = told_2.reverse := ⟨_, rfl⟩
      have s_8 : Stp _ _ _ F_10 [(p_told, .lst us_told_2.reverse), stoO a_st c_st s] H_8 := s_8
      have r_told_3 : RA K F_10 us_told_2.reverse (told_3.map eI) := by rw [hx_told_3, List.map_reverse]; exact r_told_2.rev
      have st := st.trans s_8
      have sb := sb.trans s_8
      show ZS _ _ [some (.ref a_st), some v_saw, some v_stock, some v_ask, some (.ref p_picks), some v, none, none, some (.ref p_handed), some (.ref p_told), none, none, none] H_8 _
      have hfb : askedL_L1 () turn = askedL_5 := by subst hx_told_3; exact hfb
      refine zs_ifF st.ok (zt_eq (zt_not (zt_val (ze_callD (ok_same T) (hr.mono (by decide)) (za_cons (ze_var 8 rfl r_handed_2) (za_cons (ze_var 2 rfl r_stock) za_nil)) (A_same_of (a := ((eL eI) handed)) (b := ((eL eI) stock)) (congrArg (eL eI) (show stock = handed from (by /-9-/ exact hh.symm))) (by /-10-/ first | ((simp only [szI, szB, szS, szLn, szLI, szLS, szLB, szOI, szOS, szT2, szD, szC, szN, List.map_cons, List.map_nil, List.length_append, List.length_cons, List.length_nil, List.length_map, rangeI_length]; omega)) | (first | omega | (rw [← szL]; omega) | (simp only [List.length_append, List.length_cons, List.length_nil, List.length_map, rangeI_length, ← szL]; omega))))))) (by simp)) fun F_11 H_9 s_9 => ?_
      have s_9 : Stp F_10 [(p_told, .lst us_told_2.reverse), stoO a_st c_st s] H_8 F_11 [(p_told, .lst us_told_2.reverse), stoO a_st c_st s] H_9 := by exact s_9
      have st := st.trans s_9
      have sb := sb.trans s_9
      have r_saw := r_saw.mono s_9.gr
      have r_stock := r_stock.mono s_9.gr
      have r_ask := r_ask.mono s_9.gr
      have r_st := r_st.mono s_9.gr
      have r_picks_2 := r_picks_2.mono s_9.gr
      have r_2 := r_2.mono s_9.gr
      have r_handed_2 := r_handed_2.mono s_9.gr
      have r_told_3 := r_told_3.mono s_9.gr
      refine zs_nil ?_
      show ZS _ _ [some (.ref a_st), some v_saw, some v_stock, some v_ask, some (.ref p_picks), some v, none, none, some (.ref p_handed), some (.ref p_told), none, none, none] H_9 _
      refine zs_nil ?_
      have st := st.dropAt 0
      have sb := sb.dropAt 0
      exact ⟨_, _, sb, by (try rw [hfb]); exact ⟨some v, some (.ref p_handed), some (.ref p_told), rfl, rfl, trivial⟩⟩
    · skip
      obtain ⟨b_2, hb⟩ : ∃ z : Unit, z = List.foldl askedL_L1 () (rangeI 0 (2 : Int)) := ⟨_, rfl⟩
      try rw [← hb] at rel_2
      obtain ⟨z_turn_2, z_handed_2, z_told_2, rfl, rfl, hinv_2⟩ := rel_2
      have st := st.trans s_10
      have r_saw := r_saw.mono s_10.gr
      have r_stock := r_stock.mono s_10.gr
      have r_ask := r_ask.mono s_10.gr
      have r_st := r_st.mono s_10.gr
      have r_picks_2 := r_picks_2.mono s_10.gr
      have hf : askedL cs s saw stock ask = (askedL_6 cs picks s) () := hf
      show ZS _ _ [some (.ref a_st), some v_saw, some v_stock, some v_ask, some (.ref p_picks), z_turn_2, none, none, z_handed_2, z_told_2, none, none, none] H_10 _
      refine zs_setN (n := 6) st.ok (zn_slt (ze_callS 0 0 (ok_shuffleL T) (hr.mono (by decide)) rfl r_st (za_cons (ze_var 4 rfl r_picks_2) za_nil) rfl (A_shuf_of eI (by /-11-/ first | ((rw [← szL]; first | omega | (simp only [List.length_append, List.length_cons, List.length_nil, List.length_map, rangeI_length]; omega))) | (first | omega | (rw [← szL]; omega) | (simp only [List.length_append, List.length_cons, List.length_nil, List.length_map, rangeI_length, ← szL]; omega))))) zo_none (zo_some ze_int)) sc.nd rfl (by first | exact Or.inl rfl | exact Or.inr rfl) fun p_some us_some F_13 H_11 hp_5 s_11 r_some => ?_
      obtain ⟨some_, hx_some_⟩ : ∃ z : (List Int), z = (Z.cutD ((shufT cs s picks).1) none (some (5 : Int))) := ⟨_, rfl⟩
      obtain ⟨s_12, hx_s_12⟩ : ∃ z : Sto, z = (shufT cs s picks).2 := ⟨_, rfl⟩
      have hn_6 := st.newAt hp_5
      have s_11 : Stp F_12 [stoO a_st c_st s] H_10 F_13 [(p_some, .lst us_some), stoO a_st c_st s_12] H_11 := by subst hx_s_12; exact s_11
      have r_some : RA K F_13 us_some (some_.map eI) := by subst hx_some_; exact r_some
      have st := st.trans s_11
      have r_saw := r_saw.mono s_11.gr
      have r_stock := r_stock.mono s_11.gr
      have r_ask := r_ask.mono s_11.gr
      have r_st := r_st.mono s_11.gr
      have r_picks_2 := r_picks_2.mono s_11.gr
      have gz_3 : Gr F_13 (upd F_13 p_some (.lst us_some)) := Gr.upd (st.ok.at_ (k := 0) rfl).2
      have r_some_2 : R K (upd F_13 p_some (.lst us_some)) (.ref p_some) (eL eI some_) := (r_some.mono gz_3).lst upd_same
      have st : Stp _ _ _ (upd F_13 p_some (.lst us_some)) [stoO a_st c_st s_12] H_11 := st.freezeAt 0 rfl hn_6
      have r_saw := r_saw.mono gz_3
      have r_stock := r_stock.mono gz_3
      have r_ask := r_ask.mono gz_3
      have r_st := r_st.mono gz_3
      have r_picks_2 := r_picks_2.mono gz_3
      show ZS _ _ [some (.ref a_st), some v_saw, some v_stock, some v_ask, some (.ref p_picks), z_turn_2, some (.ref p_some), none, z_handed_2, z_told_2, none, none, none] H_11 _
      have hf : askedL cs s saw stock ask = askedL_7 some_ s_12 := by subst hx_some_; subst hx_s_12; exact hf
      have hsm : ∀ x ∈ some_, x ∈ stock ∧ ask ≤ x := by rw [hx_some_]; intro x hx; have := shufT_perm.mem_iff.mp (cutD_sub hx); rw [hpk] at this; exact picks_mem this
      refine zs_forF (f := (askedL_L2 some_)) (b0 := ()) st.ok PassesOwn.never rfl (zi_list (ze_var 6 rfl r_some_2)) (fun iq b σ F O => ∃ (z1 : Option V) (z2 : Option V) (z3 : Option V) (z4 : Option V) (z5 : Option V), σ = [some (.ref a_st), some v_saw, some v_stock, some v_ask, some (.ref p_picks), z_turn_2, some (.ref p_some), z1, z2, z3, z4, z5, none] ∧ O = [stoO a_st c_st s_12] ∧ True) (fun F_32 H_25 s_26 => ⟨none, z_handed_2, z_told_2, none, none, rfl, rfl, trivial⟩) (fun i_2 b_3 pick v_3 σ_3 F_15 F_16 O_4 H_12 ha_2 hbe_2 hz_2 rel_3 g_2 s_13 r_4 => ?_) (fun σ_6 F_30 O_7 H_23 s_24 rel_6 => ?_)
      · skip
        obtain ⟨z_pick, z_handed_3, z_told_3, z_left, z_other, rfl, rfl, hinv_3⟩ := rel_3
        have st := st.trans s_13
        have r_saw := r_saw.mono s_13.gr
        have r_stock := r_stock.mono s_13.gr
        have r_ask := r_ask.mono s_13.gr
        have r_st := r_st.mono s_13.gr
        have r_picks_2 := r_picks_2.mono s_13.gr
        have r_some_2 := r_some_2.mono s_13.gr
        have hlt_i_2 := (List.getElem?_eq_some_iff.mp ha_2).1
        have sb_2 : Stp F_16 [stoO a_st c_st s_12] H_12 F_16 [stoO a_st c_st s_12] H_12 := Stp.refl st.ok
        have hfb_2 : askedL_L2 some_ () pick = askedL_L2b some_ := rfl
        refine zg_name (n := 7) sc.nd rfl (by first | exact Or.inl rfl | exact Or.inr rfl) ?_
        have hpm := hsm _ (List.mem_of_getElem? ha_2)
        show ZS _ _ [some (.ref a_st), some v_saw, some v_stock, some v_ask, some (.ref p_picks), z_turn_2, some (.ref p_some), some v_3, z_handed_3, z_told_3, z_left, z_other, none] H_12 _
        refine zs_setN (n := 8) st.ok (zn_list T.b_list (ze_var 2 rfl r_stock)) sc.nd rfl (by first | exact Or.inl rfl | exact Or.inr rfl) fun p_handed_2 us_handed_2 F_17 H_13 hp_6 s_14 r_handed_3 => ?_
        obtain ⟨handed_2, hx_handed_2⟩ : ∃ z : (List Int), z = stock := ⟨_, rfl⟩
        have hn_7 := st.newAt hp_6
        have hn_8 := sb_2.newAt hp_6
        have s_14 : Stp F_16 [stoO a_st c_st s_12] H_12 F_17 [(p_handed_2, .lst us_handed_2), stoO a_st c_st s_12] H_13 := by exact s_14
        have r_handed_3 : RA K F_17 us_handed_2 (handed_2.map eI) := by subst hx_handed_2; exact r_handed_3
        have st := st.trans s_14
        have sb_2 := sb_2.trans s_14
        have r_saw := r_saw.mono s_14.gr
        have r_stock := r_stock.mono s_14.gr
        have r_ask := r_ask.mono s_14.gr
        have r_st := r_st.mono s_14.gr
        have r_picks_2 := r_picks_2.mono s_14.gr
        have r_some_2 := r_some_2.mono s_14.gr
        have r_4 := r_4.mono s_14.gr
        have gz_4 : Gr F_17 (upd F_17 p_handed_2 (.lst us_handed_2)) := Gr.upd (st.ok.at_ (k := 0) rfl).2
        have r_handed_4 : R K (upd F_17 p_handed_2 (.lst us_handed_2)) (.ref p_handed_2) (eL eI handed_2) := (r_handed_3.mono gz_4).lst upd_same
        have st : Stp _ _ _ (upd F_17 p_handed_2 (.lst us_handed_2)) [stoO a_st c_st s_12] H_13 := st.freezeAt 0 rfl hn_7
        have sb_2 : Stp _ _ _ (upd F_17 p_handed_2 (.lst us_handed_2)) [stoO a_st c_st s_12] H_13 := sb_2.freezeAt 0 rfl hn_8
        have r_saw := r_saw.mono gz_4
        have r_stock := r_stock.mono gz_4
        have r_ask := r_ask.mono gz_4
        have r_st := r_st.mono gz_4
        have r_picks_2 := r_picks_2.mono gz_4
        have r_some_2 := r_some_2.mono gz_4
        have r_4 := r_4.mono gz_4
        show ZS _ _ [some (.ref a_st), some v_saw, some v_stock, some v_ask, some (.ref p_picks), z_turn_2, some (.ref p_some), some v_3, some (.ref p_handed_2), z_told_3, z_left, z_other, none] H_13 _
        have hfb_2 : askedL_L2 some_ () pick = askedL_8 some_ := by subst hx_handed_2; exact hfb_2
        have hh : handed_2 = stock := hx_handed_2
        have hhl : handed_2.length = stock.length := by rw [hh]
        refine zs_setN (n := 9) st.ok (zn_callN (ok_rod_leaveP T) (hr.mono (by decide)) (za_cons (ze_var 1 rfl r_saw) (za_cons (ze_var 8 rfl r_handed_4) (za_cons (ze_var 3 rfl r_ask) (za_cons (ze_var 7 rfl r_4) za_nil)))) ⟨saw, handed_2, ask, pick, rfl, (by /-12-/ rw [hh]; exact ⟨hpm.1, by omega⟩), rfl⟩) sc.nd rfl (by first | exact Or.inl rfl | exact Or.inr rfl) fun p_told_2 us_told_3 F_19 H_14 hp_7 s_15 r_told_4 => ?_
        obtain ⟨told_4, hx_told_4⟩ : ∃ z : (List Int), z = (rod_leaveP saw handed_2 ask pick) := ⟨_, rfl⟩
        have hn_9 := st.newAt hp_7
        have hn_10 := sb_2.newAt hp_7
        have s_15 : Stp (upd F_17 p_handed_2 (.lst us_handed_2)) [stoO a_st c_st s_12] H_13 F_19 [(p_told_2, .lst us_told_3), stoO a_st c_st s_12] H_14 := by exact s_15
        have r_told_4 : RA K F_19 us_told_3 (told_4.map eI) := by subst hx_told_4; exact r_told_4
        have st := st.trans s_15
        have sb_2 := sb_2.trans s_15
        have r_saw := r_saw.mono s_15.gr
        have r_stock := r_stock.mono s_15.gr
        have r_ask := r_ask.mono s_15.gr
        have r_st := r_st.mono s_15.gr
        have r_picks_2 := r_picks_2.mono s_15.gr
        have r_some_2 := r_some_2.mono s_15.gr
        have r_4 := r_4.mono s_15.gr
        have r_handed_4 := r_handed_4.mono s_15.gr
        show ZS _ _ [some (.ref a_st), some v_saw, some v_stock, some v_ask, some (.ref p_picks), z_turn_2, some (.ref p_some), some v_3, some (.ref p_handed_2), some (.ref p_told_2), z_left, z_other, none] H_14 _
        have hfb_2 : askedL_L2 some_ () pick = askedL_9 some_ := by subst hx_told_4; exact hfb_2
        have htl : told_4.length ≤ 41 := by rw [hx_told_4, hh]; exact Nat.le_trans (leave_len _ _ _ _) (by omega)
        refine zs_setLcF (i0 := 10) (w := st.ok) (n := 12) (f0 := (fun a_rod_2 : Int => a_rod_2)) (pr := (fun a_rod_2 : Int => decide ((0 : Int) < a_rod_2))) (encR := eI) rfl sc.nd (zi_list (zn_ze (zn_lstt (enc := eI) (xs := ([((stayL saw pick ask).getD default)] : List Int)) (za_cons (ze_some (ze_callD (ok_stayL T) (hr.mono (by decide)) (za_cons (ze_var 1 rfl r_saw) (za_cons (ze_var 7 rfl r_4) (za_cons (ze_var 3 rfl r_ask) za_nil))) ⟨saw, pick, ask, rfl, rfl⟩) (by /-13-/ rw [stay_some hpm.2]; rfl)) za_nil)))) (fun _ _ _ _ _ a_rod_2 v_a_rod_2 _ h_a_rod_2 g_c_2 r_a_rod_2 => (zt_cm cm_gt (ze_var 12 rfl r_a_rod_2) ze_int)) (fun _ _ _ _ _ a_rod_2 v_a_rod_2 _ h_a_rod_2 hp_c_2 g_c_2 r_a_rod_2 => (ze_var 12 rfl r_a_rod_2)) (blkOk_by (N := ["store", "saw", "stock", "ask", "picks", "turn", "some", "pick", "handed", "told", "left", "other", "rod"]) (sc := defScope (topS 27)) (by decide +kernel)) (fun _ _ _ _ _ => pg_name (i := 12) sc.nd rfl (Or.inl rfl)) rfl rfl (sw_true rfl rfl rfl (by decide +kernel)) fun p_left us_left F_20 H_15 hp_8 s_16 r_left => ?_
        obtain ⟨left, hx_left⟩ : ∃ z : (List Int), z = ((([((stayL saw pick ask).getD default)] : List Int).filter (fun a_rod_2 : Int => decide ((0 : Int) < a_rod_2))).map (fun a_rod_2 : Int => a_rod_2)) := ⟨_, rfl⟩
        have hn_11 := st.newAt hp_8
        have hn_12 := sb_2.newAt hp_8
        have s_16 : Stp F_19 [(p_told_2, .lst us_told_3), stoO a_st c_st s_12] H_14 F_20 [(p_left, .lst us_left), (p_told_2, .lst us_told_3), stoO a_st c_st s_12] H_15 := by exact s_16
        have r_left : RA K F_20 us_left (left.map eI) := by subst hx_left; exact r_left
        have st := st.trans s_16
        have sb_2 := sb_2.trans s_16
        have r_saw := r_saw.mono s_16.gr
        have r_stock := r_stock.mono s_16.gr
        have r_ask := r_ask.mono s_16.gr
        have r_st := r_st.mono s_16.gr
        have r_picks_2 := r_picks_2.mono s_16.gr
        have r_some_2 := r_some_2.mono s_16.gr
        have r_4 := r_4.mono s_16.gr
        have r_handed_4 := r_handed_4.mono s_16.gr
        have r_told_4 := r_told_4.mono s_16.gr
        have gz_5 : Gr F_20 (upd F_20 p_left (.lst us_left)) := Gr.upd (st.ok.at_ (k := 0) rfl).2
        have r_left_2 : R K (upd F_20 p_left (.lst us_left)) (.ref p_left) (eL eI left) := (r_left.mono gz_5).lst upd_same
        have st : Stp _ _ _ (upd F_20 p_left (.lst us_left)) [(p_told_2, .lst us_told_3), stoO a_st c_st s_12] H_15 := st.freezeAt 0 rfl hn_11
        have sb_2 : Stp _ _ _ (upd F_20 p_left (.lst us_left)) [(p_told_2, .lst us_told_3), stoO a_st c_st s_12] H_15 := sb_2.freezeAt 0 rfl hn_12
        have r_saw := r_saw.mono gz_5
        have r_stock := r_stock.mono gz_5
        have r_ask := r_ask.mono gz_5
        have r_st := r_st.mono gz_5
        have r_picks_2 := r_picks_2.mono gz_5
        have r_some_2 := r_some_2.mono gz_5
        have r_4 := r_4.mono gz_5
        have r_handed_4 := r_handed_4.mono gz_5
        have r_told_4 := r_told_4.mono gz_5
        show ZS _ _ [some (.ref a_st), some v_saw, some v_stock, some v_ask, some (.ref p_picks), z_turn_2, some (.ref p_some), some v_3, some (.ref p_handed_2), some (.ref p_told_2), some (.ref p_left), z_other, none] H_15 _
        have hfb_2 : askedL_L2 some_ () pick = askedL_10 some_ := by subst hx_left; exact hfb_2
        refine zs_ifF st.ok (zt_eq (zt_w (zw_or (zt_not (zt_val (ze_callDO 9 0 (ok_same T) (hr.mono (by decide)) rfl rfl r_told_4 (za_cons (zn_ze (zn_sortI T.b_sorted (zn_ze (zn_catt (zn_ze (zn_callN (ok_lessL T) (hr.mono (by decide)) (za_cons (ze_var 2 rfl r_stock) (za_cons (zn_ze (zn_lstt (enc := eI) (xs := ([pick] : List Int)) (za_cons (ze_var 7 rfl r_4) za_nil))) za_nil)) ⟨stock, ([pick] : List Int), rfl, (by /-14-/ first | (first | omega | (simp only [List.length_append, List.length_cons, List.length_nil, List.length_map, rangeI_length]; omega)) | (first | omega | (rw [← szL]; omega) | (simp only [List.length_append, List.length_cons, List.length_nil, List.length_map, rangeI_length, ← szL]; omega))), rfl⟩)) (ze_var 10 rfl r_left_2) (by /-15-/ have h8 := less_len stock pick; have h9 : left.length ≤ 1 := (by rw [hx_left]; exact len_filter_map _ _ _); rw [← szL]; first | omega | (simp only [List.length_append]; omega)))))) za_nil) (A_same_of (a := ((eL eI) told_4)) (b := ((eL eI) (sortI ((lessL stock ([pick] : List Int)) ++ left)))) (congrArg (eL eI) (show (sortI ((lessL stock ([pick] : List Int)) ++ left)) = told_4 from (by /-16-/ rw [hx_told_4, hh, hx_left]; exact leave_eq hpm.1 hpm.2))) (by /-17-/ first | ((simp only [szI, szB, szS, szLn, szLI, szLS, szLB, szOI, szOS, szT2, szD, szC, szN, List.map_cons, List.map_nil, List.length_append, List.length_cons, List.length_nil, List.length_map, rangeI_length]; omega)) | (first | omega | (rw [← szL]; omega) | (simp only [List.length_append, List.length_cons, List.length_nil, List.length_map, rangeI_length, ← szL]; omega))))))) fun hb => (zw_or1 (zt_not (zt_val (ze_callD (ok_same T) (hr.mono (by decide)) (za_cons (ze_var 8 rfl r_handed_4) (za_cons (ze_var 2 rfl r_stock) za_nil)) (A_same_of (a := ((eL eI) handed_2)) (b := ((eL eI) stock)) (congrArg (eL eI) (show stock = handed_2 from (by /-18-/ exact hh.symm))) (by /-19-/ first | ((simp only [szI, szB, szS, szLn, szLI, szLS, szLB, szOI, szOS, szT2, szD, szC, szN, List.map_cons, List.map_nil, List.length_append, List.length_cons, List.length_nil, List.length_map, rangeI_length]; omega)) | (first | omega | (rw [← szL]; omega) | (simp only [List.length_append, List.length_cons, List.length_nil, List.length_map, rangeI_length, ← szL]; omega)))))))))) (by simp)) fun F_22 H_16 s_17 => ?_
        have s_17 : Stp (upd F_20 p_left (.lst us_left)) [(p_told_2, .lst us_told_3), stoO a_st c_st s_12] H_15 F_22 [(p_told_2, .lst us_told_3), stoO a_st c_st s_12] H_16 := by exact s_17
        have st := st.trans s_17
        have sb_2 := sb_2.trans s_17
        have r_saw := r_saw.mono s_17.gr
        have r_stock := r_stock.mono s_17.gr
        have r_ask := r_ask.mono s_17.gr
        have r_st := r_st.mono s_17.gr
        have r_picks_2 := r_picks_2.mono s_17.gr
        have r_some_2 := r_some_2.mono s_17.gr
        have r_4 := r_4.mono s_17.gr
        have r_handed_4 := r_handed_4.mono s_17.gr
        have r_told_4 := r_told_4.mono s_17.gr
        have r_left_2 := r_left_2.mono s_17.gr
        refine zs_nil ?_
        show ZS _ _ [some (.ref a_st), some v_saw, some v_stock, some v_ask, some (.ref p_picks), z_turn_2, some (.ref p_some), some v_3, some (.ref p_handed_2), some (.ref p_told_2), some (.ref p_left), z_other, none] H_16 _
        have hl_2 : (us_told_3).length = told_4.length := by have h := r_told_4.len; exact h.trans (by rw [List.length_map])
        refine zs_append st.ok 9 0 rfl ze_int rfl (by rw [hl_2]; exact (by /-20-/ first | ((rw [← szL]; first | omega | (simp only [List.length_append, List.length_cons, List.length_nil, List.length_map, rangeI_length]; omega))) | (first | omega | (rw [← szL]; omega) | (simp only [List.length_append, List.length_cons, List.length_nil, List.length_map, rangeI_length, ← szL]; omega)))) fun v_4 F_23 H_17 s_18 r_5 => ?_
        obtain ⟨told_5, hx_told_5⟩ : ∃ z : (List Int), z = told_4 ++ [(0 : Int)] := ⟨_, rfl⟩
        obtain ⟨us_told_4, hus_told_4⟩ : ∃ z, z = us_told_3 ++ [v_4] := ⟨_, rfl⟩
        have s_18 : Stp F_22 [(p_told_2, .lst us_told_3), stoO a_st c_st s_12] H_16 F_23 [(p_told_2, .lst us_told_4), stoO a_st c_st s_12] H_17 := by subst hus_told_4; exact s_18
        have r_told_5 : RA K F_23 us_told_4 (told_5.map eI) := by rw [hus_told_4, hx_told_5, List.map_append]; exact (r_told_4.mono s_18.gr).snoc r_5
        have st := st.trans s_18
        have sb_2 := sb_2.trans s_18
        have r_saw := r_saw.mono s_18.gr
        have r_stock := r_stock.mono s_18.gr
        have r_ask := r_ask.mono s_18.gr
        have r_st := r_st.mono s_18.gr
        have r_picks_2 := r_picks_2.mono s_18.gr
        have r_some_2 := r_some_2.mono s_18.gr
        have r_4 := r_4.mono s_18.gr
        have r_handed_4 := r_handed_4.mono s_18.gr
        have r_left_2 := r_left_2.mono s_18.gr
        show ZS _ _ [some (.ref a_st), some v_saw, some v_stock, some v_ask, some (.ref p_picks), z_turn_2, some (.ref p_some), some v_3, some (.ref p_handed_2), some (.ref p_told_2), some (.ref p_left), z_other, none] H_17 _
        have hfb_2 : askedL_L2 some_ () pick = askedL_11 some_ := by subst hx_told_5; exact hfb_2
        refine zs_forF (f := askedL_L3) (b0 := ()) st.ok PassesOwn.never rfl (zi_list (ze_var 6 rfl r_some_2)) (fun iq b σ F O => ∃ (z1 : Option V), σ = [some (.ref a_st), some v_saw, some v_stock, some v_ask, some (.ref p_picks), z_turn_2, some (.ref p_some), some v_3, some (.ref p_handed_2), some (.ref p_told_2), some (.ref p_left), z1, none] ∧ O = [(p_told_2, .lst us_told_4), stoO a_st c_st s_12] ∧ True) (fun F_29 H_22 s_23 => ⟨z_other, rfl, rfl, trivial⟩) (fun i_3 b_4 other v_5 σ_4 F_24 F_25 O_5 H_18 ha_3 hbe_3 hz_3 rel_4 g_3 s_19 r_6 => ?_) (fun σ_5 F_27 O_6 H_20 s_21 rel_5 => ?_)
        · skip
          obtain ⟨z_other_2, rfl, rfl, hinv_4⟩ := rel_4
          have st := st.trans s_19
          have sb_2 := sb_2.trans s_19
          have r_saw := r_saw.mono s_19.gr
          have r_stock := r_stock.mono s_19.gr
          have r_ask := r_ask.mono s_19.gr
          have r_st := r_st.mono s_19.gr
          have r_picks_2 := r_picks_2.mono s_19.gr
          have r_some_2 := r_some_2.mono s_19.gr
          have r_4 := r_4.mono s_19.gr
          have r_handed_4 := r_handed_4.mono s_19.gr
          have r_told_5 := r_told_5.mono s_19.gr
          have r_left_2 := r_left_2.mono s_19.gr
          have hlt_i_3 := (List.getElem?_eq_some_iff.mp ha_3).1
          have sb_3 : Stp F_25 [(p_told_2, .lst us_told_4), stoO a_st c_st s_12] H_18 F_25 [(p_told_2, .lst us_told_4), stoO a_st c_st s_12] H_18 := Stp.refl st.ok
          have hfb_3 : askedL_L3 () other = askedL_L3b := rfl
          refine zg_name (n := 11) sc.nd rfl (by first | exact Or.inl rfl | exact Or.inr rfl) ?_
          have hom := hsm _ (List.mem_of_getElem? ha_3)
          show ZS _ _ [some (.ref a_st), some v_saw, some v_stock, some v_ask, some (.ref p_picks), z_turn_2, some (.ref p_some), some v_3, some (.ref p_handed_2), some (.ref p_told_2), some (.ref p_left), some v_5, none] H_18 _
          refine zs_ifF st.ok (zt_eq (zt_not (zt_val (ze_callD (ok_lookL T) (hr.mono (by decide)) (za_cons (ze_var 1 rfl r_saw) (za_cons (ze_var 3 rfl r_ask) (za_cons (ze_var 7 rfl r_4) (za_cons (ze_var 11 rfl r_6) za_nil)))) ⟨saw, ask, pick, other, rfl, (by /-21-/ exact ⟨hs0, hs1, ha1, hpm.2, hom.2⟩), rfl⟩))) (by simp)) fun F_26 H_19 s_20 => ?_
          have s_20 : Stp F_25 [(p_told_2, .lst us_told_4), stoO a_st c_st s_12] H_18 F_26 [(p_told_2, .lst us_told_4), stoO a_st c_st s_12] H_19 := by exact s_20
          have st := st.trans s_20
          have sb_2 := sb_2.trans s_20
          have sb_3 := sb_3.trans s_20
          have r_saw := r_saw.mono s_20.gr
          have r_stock := r_stock.mono s_20.gr
          have r_ask := r_ask.mono s_20.gr
          have r_st := r_st.mono s_20.gr
          have r_picks_2 := r_picks_2.mono s_20.gr
          have r_some_2 := r_some_2.mono s_20.gr
          have r_4 := r_4.mono s_20.gr
          have r_handed_4 := r_handed_4.mono s_20.gr
          have r_told_5 := r_told_5.mono s_20.gr
          have r_left_2 := r_left_2.mono s_20.gr
          have r_6 := r_6.mono s_20.gr
          refine zs_nil ?_
          show ZS _ _ [some (.ref a_st), some v_saw, some v_stock, some v_ask, some (.ref p_picks), z_turn_2, some (.ref p_some), some v_3, some (.ref p_handed_2), some (.ref p_told_2), some (.ref p_left), some v_5, none] H_19 _
          refine zs_nil ?_
          exact ⟨_, _, sb_3, by (try rw [hfb_3]); exact ⟨some v_5, rfl, rfl, trivial⟩⟩
        · skip
          obtain ⟨b_5, hb_2⟩ : ∃ z : Unit, z = List.foldl askedL_L3 () some_ := ⟨_, rfl⟩
          try rw [← hb_2] at rel_5
          obtain ⟨z_other_3, rfl, rfl, hinv_5⟩ := rel_5
          have st := st.trans s_21
          have sb_2 := sb_2.trans s_21
          have r_saw := r_saw.mono s_21.gr
          have r_stock := r_stock.mono s_21.gr
          have r_ask := r_ask.mono s_21.gr
          have r_st := r_st.mono s_21.gr
          have r_picks_2 := r_picks_2.mono s_21.gr
          have r_some_2 := r_some_2.mono s_21.gr
          have r_4 := r_4.mono s_21.gr
          have r_handed_4 := r_handed_4.mono s_21.gr
          have r_told_5 := r_told_5.mono s_21.gr
          have r_left_2 := r_left_2.mono s_21.gr
          have hfb_2 : askedL_L2 some_ () pick = askedL_12 () := hfb_2
          show ZS _ _ [some (.ref a_st), some v_saw, some v_stock, some v_ask, some (.ref p_picks), z_turn_2, some (.ref p_some), some v_3, some (.ref p_handed_2), some (.ref p_told_2), some (.ref p_left), z_other_3, none] H_20 _
          refine zs_ifF st.ok (zt_eq (zt_not (zt_val (ze_callD (ok_same T) (hr.mono (by decide)) (za_cons (ze_var 8 rfl r_handed_4) (za_cons (ze_var 2 rfl r_stock) za_nil)) (A_same_of (a := ((eL eI) handed_2)) (b := ((eL eI) stock)) (congrArg (eL eI) (show stock = handed_2 from (by /-22-/ exact hh.symm))) (by /-23-/ first | ((simp only [szI, szB, szS, szLn, szLI, szLS, szLB, szOI, szOS, szT2, szD, szC, szN, List.map_cons, List.map_nil, List.length_append, List.length_cons, List.length_nil, List.length_map, rangeI_length]; omega)) | (first | omega | (rw [← szL]; omega) | (simp only [List.length_append, List.length_cons, List.length_nil, List.length_map, rangeI_length, ← szL]; omega))))))) (by simp)) fun F_28 H_21 s_22 => ?_
          have s_22 : Stp F_27 [(p_told_2, .lst us_told_4), stoO a_st c_st s_12] H_20 F_28 [(p_told_2, .lst us_told_4), stoO a_st c_st s_12] H_21 := by exact s_22
          have st := st.trans s_22
          have sb_2 := sb_2.trans s_22
          have r_saw := r_saw.mono s_22.gr
          have r_stock := r_stock.mono s_22.gr
          have r_ask := r_ask.mono s_22.gr
          have r_st := r_st.mono s_22.gr
          have r_picks_2 := r_picks_2.mono s_22.gr
          have r_some_2 := r_some_2.mono s_22.gr
          have r_4 := r_4.mono s_22.gr
          have r_handed_4 := r_handed_4.mono s_22.gr
          have r_told_5 := r_told_5.mono s_22.gr
          have r_left_2 := r_left_2.mono s_22.gr
          refine zs_nil ?_
          show ZS _ _ [some (.ref a_st), some v_saw, some v_stock, some v_ask, some (.ref p_picks), z_turn_2, some (.ref p_some), some v_3, some (.ref p_handed_2), some (.ref p_told_2), some (.ref p_left), z_other_3, none] H_21 _
          refine zs_nil ?_
          have st := st.dropAt 0
          have sb_2 := sb_2.dropAt 0
          exact ⟨_, _, sb_2, by (try rw [hfb_2]); exact ⟨some v_3, some (.ref p_handed_2), some (.ref p_told_2), some (.ref p_left), z_other_3, rfl, rfl, trivial⟩⟩
      · skip
        obtain ⟨b_6, hb_3⟩ : ∃ z : Unit, z = List.foldl (askedL_L2 some_) () some_ := ⟨_, rfl⟩
        try rw [← hb_3] at rel_6
        obtain ⟨z_pick_2, z_handed_4, z_told_4, z_left_2, z_other_4, rfl, rfl, hinv_6⟩ := rel_6
        have st := st.trans s_24
        have r_saw := r_saw.mono s_24.gr
        have r_stock := r_stock.mono s_24.gr
        have r_ask := r_ask.mono s_24.gr
        have r_st := r_st.mono s_24.gr
        have r_picks_2 := r_picks_2.mono s_24.gr
        have r_some_2 := r_some_2.mono s_24.gr
        have hf : askedL cs s saw stock ask = (askedL_13 s_12) () := hf
        show ZS _ _ [some (.ref a_st), some v_saw, some v_stock, some v_ask, some (.ref p_picks), z_turn_2, some (.ref p_some), z_pick_2, z_handed_4, z_told_4, z_left_2, z_other_4, none] H_23 _
        refine zs_ret st.ok ze_bl fun v_6 F_31 H_24 s_25 r_7 => ?_
        exact q v_6 F_31 H_24 (by rw [hf]; exact (st.trans s_25)) r_7
/-! _law_good -/
abbrev s_goodL : Stmt := topS 28
theorem sc_goodL : FnScope ["saw", "lengths", "one", "two", "good"] ["saw", "lengths"] (defScope s_goodL) := ⟨rfl, rfl, rfl, by decide +kernel, rfl, by decide +kernel, by decide +kernel⟩
def goodL_1 : Unit :=
  ()
def goodL_L2b : Unit :=
  goodL_1
def goodL_L2 (b : Unit) (a : Int) : Unit :=
  goodL_L2b
def goodL_2 (b : Unit) : Unit :=
  ()
def goodL_L1b (lengths : (List Int)) : Unit :=
  goodL_2 (List.foldl goodL_L2 () lengths)
def goodL_L1 (lengths : (List Int)) (b : Unit) (a : Int) : Unit :=
  goodL_L1b lengths
def goodL_3 (b : Unit) : Bool :=
  true
def goodL (saw : Int) (lengths : (List Int)) : Bool :=
  goodL_3 (List.foldl (goodL_L1 lengths) () lengths)
def A_goodL : List PyData → PyData → Prop := fun ds r => ∃ (saw : Int) (lengths : (List Int)), ds = [eI saw, (eL eI) lengths] ∧ (lengths.length ≤ 40) ∧ r = eB true
set_option maxHeartbeats 4000000 in
theorem ok_goodL {P : Program} {w : World} {K : PySem.W.Frag} {mg : Str → Option Value} {base : Heap} (T : Top K mg) : Fn P w K mg base 2 "_law_good" ["saw", "lengths"] (spD K A_goodL) := by
  obtain ⟨f, fd, F, gm⟩ := T.f_goodL
  have sc := sc_goodL
  refine ⟨f, fd, F.ok sc (fun vs H Q E h => ?_) (fun cdv A outer s0 H vs Q E hr h => ⟨_, PSs.nox pss_w, ?_⟩), gm, F.kp, F.bindsN (fun _ _ _ _ _ _ us hl => match us, hl with | [_, _], _ => rfl)⟩
  · obtain ⟨F, ds, r, w, ra, ⟨saw, lengths, rfl, hpre, rfl⟩, q⟩ := h
    exact ra.len
  · obtain ⟨F, ds, r, w, ra, ⟨saw, lengths, rfl, hpre, rfl⟩, q⟩ := h
    obtain ⟨v_saw, ws, rfl, r_saw, ra⟩ := ra.cons_inv
    obtain ⟨v_lengths, ws, rfl, r_lengths, ra⟩ := ra.cons_inv
    obtain rfl := ra.nil_inv
    have st := Stp.refl w
    have hf : goodL saw lengths = goodL saw lengths := rfl
    show ZS _ _ [some v_saw, some v_lengths, none, none, none] H _
    refine zs_forF (f := (goodL_L1 lengths)) (b0 := ()) st.ok PassesOwn.never rfl (zi_list (ze_var 1 rfl r_lengths)) (fun iq b σ F O => ∃ (z1 : Option V) (z2 : Option V) (z3 : Option V), σ = [some v_saw, some v_lengths, z1, z2, z3] ∧ O = [] ∧ True) (fun F_12 H_10 s_10 => ⟨none, none, none, rfl, rfl, trivial⟩) (fun i b one v σ F_2 F_3 O_2 H_2 ha hbe hz rel g s_2 r_2 => ?_) (fun σ_4 F_10 O_5 H_8 s_8 rel_4 => ?_)
    · skip
      obtain ⟨z_one, z_two, z_good, rfl, rfl, hinv⟩ := rel
      have st := st.trans s_2
      have r_saw := r_saw.mono s_2.gr
      have r_lengths := r_lengths.mono s_2.gr
      have hlt_i := (List.getElem?_eq_some_iff.mp ha).1
      have sb : Stp F_3 [] H_2 F_3 [] H_2 := Stp.refl st.ok
      have hfb : goodL_L1 lengths () one = goodL_L1b lengths := rfl
      refine zg_name (n := 2) sc.nd rfl (by first | exact Or.inl rfl | exact Or.inr rfl) ?_
      show ZS _ _ [some v_saw, some v_lengths, some v, z_two, z_good] H_2 _
      refine zs_forF (f := goodL_L2) (b0 := ()) st.ok PassesOwn.never rfl (zi_list (ze_var 1 rfl r_lengths)) (fun iq b σ F O => ∃ (z1 : Option V) (z2 : Option V), σ = [some v_saw, some v_lengths, some v, z1, z2] ∧ O = [] ∧ True) (fun F_9 H_7 s_7 => ⟨z_two, z_good, rfl, rfl, trivial⟩) (fun i_2 b_2 two v_2 σ_2 F_4 F_5 O_3 H_3 ha_2 hbe_2 hz_2 rel_2 g_2 s_3 r_3 => ?_) (fun σ_3 F_8 O_4 H_6 s_6 rel_3 => ?_)
      · skip
        obtain ⟨z_two_2, z_good_2, rfl, rfl, hinv_2⟩ := rel_2
        have st := st.trans s_3
        have sb := sb.trans s_3
        have r_saw := r_saw.mono s_3.gr
        have r_lengths := r_lengths.mono s_3.gr
        have r_2 := r_2.mono s_3.gr
        have hlt_i_2 := (List.getElem?_eq_some_iff.mp ha_2).1
        have sb_2 : Stp F_5 [] H_3 F_5 [] H_3 := Stp.refl st.ok
        have hfb_2 : goodL_L2 () two = goodL_L2b := rfl
        refine zg_name (n := 3) sc.nd rfl (by first | exact Or.inl rfl | exact Or.inr rfl) ?_
        show ZS _ _ [some v_saw, some v_lengths, some v, some v_2, z_good_2] H_3 _
        refine zs_set (n := 4) st.ok (ze_or (ze_cm cm_eqI (ze_var 2 rfl r_2) ze_int) fun hb => (ze_or (ze_cm cm_eqI (ze_var 3 rfl r_3) ze_int) fun hb => (ze_or (ze_cm cm_le (ze_max2 rfl T.b_max (ze_var 2 rfl r_2) (ze_var 3 rfl r_3)) (ze_add (ze_var 0 rfl r_saw) ze_int)) fun hb => (ze_one (ze_and (ze_cm cm_eqI (ze_var 2 rfl r_2) (ze_add (ze_var 0 rfl r_saw) ze_int)) fun hb => (ze_one (ze_cm cm_eqI (ze_var 3 rfl r_3) (ze_add (ze_var 0 rfl r_saw) ze_int)))))))) sc.nd rfl (by first | exact Or.inl rfl | exact Or.inr rfl) fun v_good F_6 H_4 s_4 r_good => ?_
        obtain ⟨good, hx_good⟩ : ∃ z : Bool, z = (decide (one = (1 : Int)) || (decide (two = (1 : Int)) || (decide ((if two > one then two else one) ≤ (saw + (1 : Int))) || (decide (one = (saw + (2 : Int))) && decide (two = (saw + (2 : Int))))))) := ⟨_, rfl⟩
        have s_4 : Stp F_5 [] H_3 F_6 [] H_4 := by exact s_4
        have r_good : R K F_6 v_good (eB good) := by subst hx_good; exact r_good
        have st := st.trans s_4
        have sb := sb.trans s_4
        have sb_2 := sb_2.trans s_4
        have r_saw := r_saw.mono s_4.gr
        have r_lengths := r_lengths.mono s_4.gr
        have r_2 := r_2.mono s_4.gr
        have r_3 := r_3.mono s_4.gr
        show ZS _ _ [some v_saw, some v_lengths, some v, some v_2, some v_good] H_4 _
        have hfb_2 : goodL_L2 () two = goodL_1 := by subst hx_good; exact hfb_2
        refine zs_ifF st.ok (zt_eq (zt_not (zt_val (ze_callD (ok_same T) (hr.mono (by decide)) (za_cons (ze_callD (ok_good_rodsP T) (hr.mono (by decide)) (za_cons (ze_var 0 rfl r_saw) (za_cons (ze_var 2 rfl r_2) (za_cons (ze_var 3 rfl r_3) za_nil))) ⟨saw, one, two, rfl, rfl⟩) (za_cons (ze_var 4 rfl r_good) za_nil)) (A_same_of (a := (eB (good_rodsP saw one two))) (b := (eB good)) (congrArg eB (show good = (good_rodsP saw one two) from (by /-1-/ rw [hx_good]; exact good_eq saw one two))) (by /-2-/ first | ((simp only [szI, szB, szS, szLn, szLI, szLS, szLB, szOI, szOS, szT2, szD, szC, szN, List.map_cons, List.map_nil, List.length_append, List.length_cons, List.length_nil, List.length_map, rangeI_length]; omega)) | (first | omega | (rw [← szL]; omega) | (simp only [List.length_append, List.length_cons, List.length_nil, List.length_map, rangeI_length, ← szL]; omega))))))) (by simp)) fun F_7 H_5 s_5 => ?_
        have s_5 : Stp F_6 [] H_4 F_7 [] H_5 := by exact s_5
        have st := st.trans s_5
        have sb := sb.trans s_5
        have sb_2 := sb_2.trans s_5
        have r_saw := r_saw.mono s_5.gr
        have r_lengths := r_lengths.mono s_5.gr
        have r_2 := r_2.mono s_5.gr
        have r_3 := r_3.mono s_5.gr
        have r_good := r_good.mono s_5.gr
        refine zs_nil ?_
        show ZS _ _ [some v_saw, some v_lengths, some v, some v_2, some v_good] H_5 _
        refine zs_nil ?_
        exact ⟨_, _, sb_2, by (try rw [hfb_2]); exact ⟨some v_2, some v_good, rfl, rfl, trivial⟩⟩
      · skip
        obtain ⟨b_3, hb⟩ : ∃ z : Unit, z = List.foldl goodL_L2 () lengths := ⟨_, rfl⟩
        try rw [← hb] at rel_3
        obtain ⟨z_two_3, z_good_3, rfl, rfl, hinv_3⟩ := rel_3
        have st := st.trans s_6
        have sb := sb.trans s_6
        have r_saw := r_saw.mono s_6.gr
        have r_lengths := r_lengths.mono s_6.gr
        have r_2 := r_2.mono s_6.gr
        have hfb : goodL_L1 lengths () one = goodL_2 () := hfb
        show ZS _ _ [some v_saw, some v_lengths, some v, z_two_3, z_good_3] H_6 _
        refine zs_nil ?_
        exact ⟨_, _, sb, by (try rw [hfb]); exact ⟨some v, z_two_3, z_good_3, rfl, rfl, trivial⟩⟩
    · skip
      obtain ⟨b_4, hb_2⟩ : ∃ z : Unit, z = List.foldl (goodL_L1 lengths) () lengths := ⟨_, rfl⟩
      try rw [← hb_2] at rel_4
      obtain ⟨z_one_2, z_two_4, z_good_4, rfl, rfl, hinv_4⟩ := rel_4
      have st := st.trans s_8
      have r_saw := r_saw.mono s_8.gr
      have r_lengths := r_lengths.mono s_8.gr
      have hf : goodL saw lengths = goodL_3 () := hf
      show ZS _ _ [some v_saw, some v_lengths, z_one_2, z_two_4, z_good_4] H_8 _
      refine zs_ret st.ok ze_bl fun v_3 F_11 H_9 s_9 r_4 => ?_
      exact q v_3 F_11 H_9 (st.trans s_9) r_4
theorem mapS_mem {α β γ : Type} {f : β → α → γ × β} {y : γ} : ∀ {xs : List α} {s : β}, y ∈ (mapS f s xs).1 → ∃ s' x, x ∈ xs ∧ y = (f s' x).1
  | [], s, h => by simp [mapS] at h
  | x :: xs, s, h => by
    have h : y ∈ (f s x).1 :: (mapS f (f s x).2 xs).1 := h
    rcases List.mem_cons.mp h with rfl | h
    · exact ⟨s, x, List.mem_cons_self, rfl⟩
    · obtain ⟨s', z, hz, e⟩ := mapS_mem h
      exact ⟨s', z, List.mem_cons_of_mem _ hz, e⟩
theorem mapS_length {α β γ : Type} {f : β → α → γ × β} : ∀ {xs : List α} {s : β}, (mapS f s xs).1.length = xs.length
  | [], s => rfl
  | x :: xs, s => congrArg Nat.succ (mapS_length (xs := xs) (s := (f s x).2))
theorem pick9 {cs : List Int} {s : Sto} : (pickT cs s ([(9 : Int), (200 : Int), (1000000 : Int)] : List Int)).1 = 9 ∨ (pickT cs s ([(9 : Int), (200 : Int), (1000000 : Int)] : List Int)).1 = 200 ∨ (pickT cs s ([(9 : Int), (200 : Int), (1000000 : Int)] : List Int)).1 = 1000000 := by
  have h := pickT_mem (cs := cs) (s := s) (xs := ([(9 : Int), (200 : Int), (1000000 : Int)] : List Int)) (by simp)
  simp only [List.mem_cons, List.not_mem_nil, or_false] at h
  omega
theorem pick12 {cs : List Int} {s : Sto} : (pickT cs s ([(12 : Int), (150 : Int), (1000000 : Int)] : List Int)).1 = 12 ∨ (pickT cs s ([(12 : Int), (150 : Int), (1000000 : Int)] : List Int)).1 = 150 ∨ (pickT cs s ([(12 : Int), (150 : Int), (1000000 : Int)] : List Int)).1 = 1000000 := by
  have h := pickT_mem (cs := cs) (s := s) (xs := ([(12 : Int), (150 : Int), (1000000 : Int)] : List Int)) (by simp)
  simp only [List.mem_cons, List.not_mem_nil, or_false] at h
  omega
theorem yard_ok {cs : List Int} {s : Sto} : 0 ≤ (yardL cs s).1.2 ∧ (yardL cs s).1.2 ≤ 99 := by
  unfold yardL
  cases (odds cs s 3).1 with
  | true => exact number_range _ _ 0 99 (by decide)
  | false =>
    have h := take_lt (cs := cs) (s := (odds cs s 3).2) (many := 4) (by decide)
    show 0 ≤ (take cs (odds cs s 3).2 4).1 ∧ (take cs (odds cs s 3).2 4).1 ≤ 99
    omega
theorem asks_rod_ok {cs : List Int} {s : Sto} {saw : Int} (h : 0 ≤ saw ∧ saw ≤ 99) : 1 ≤ (asks_and_rodL cs s saw).1.2 ∧ (asks_and_rodL cs s saw).1.1.length ≤ 40 ∧ ∀ x ∈ (asks_and_rodL cs s saw).1.1, 1 ≤ x := by
  have key2 : ∀ (asks : List Int) (rod : Int) (s8 : Sto), 1 ≤ rod → asks.length ≤ 40 → (∀ x ∈ asks, 1 ≤ x) → 1 ≤ (asks_and_rodL_8 cs asks rod s8).1.2 ∧ (asks_and_rodL_8 cs asks rod s8).1.1.length ≤ 40 ∧ ∀ x ∈ (asks_and_rodL_8 cs asks rod s8).1.1, 1 ≤ x := fun asks rod s8 h1 h2 h3 => by
    unfold asks_and_rodL_8
    cases (odds cs s8 6).1 with
    | true => exact ⟨(number_range _ _ 1 1000000 (by decide)).1, h2, h3⟩
    | false => exact ⟨h1, h2, h3⟩
  have key : ∀ (many : Int) (s0 : Sto), 7 ≤ many → many ≤ 40 → 1 ≤ (asks_and_rodL_2 cs saw many s0).1.2 ∧ (asks_and_rodL_2 cs saw many s0).1.1.length ≤ 40 ∧ ∀ x ∈ (asks_and_rodL_2 cs saw many s0).1.1, 1 ≤ x := fun many s0 h1 h2 => by
    unfold asks_and_rodL_2 asks_and_rodL_3 asks_and_rodL_4 asks_and_rodL_5 asks_and_rodL_7
    refine key2 _ _ _ (by split <;> omega) ?_ fun x hx => ?_
    · rw [mapS_length, rangeI_length]
      have h8 := number_range cs (pickT cs s0 ([(3 : Int), (20 : Int), (20000 : Int)] : List Int)).2 0 many (by omega)
      omega
    · obtain ⟨s', a, _, e⟩ := mapS_mem hx
      subst e
      have h9 : 1 ≤ (pickT cs s0 ([(3 : Int), (20 : Int), (20000 : Int)] : List Int)).1 := by rcases pick3 (cs := cs) (s := s0) with h | h | h <;> (rw [h]; decide)
      exact (number_range cs s' 1 _ h9).1
  unfold asks_and_rodL asks_and_rodL_1
  cases e : (odds cs s 6).1 with
  | true =>
    rw [cond_t rfl]
    unfold asks_and_rodL_13 asks_and_rodL_14
    exact key 40 _ (by decide) (by decide)
  | false =>
    rw [cond_f rfl]
    unfold asks_and_rodL_15
    exact key 7 _ (by decide) (by decide)
theorem num_of9 {cs : List Int} {s2 : Sto} {z : Int} (h : z = 9 ∨ z = 200 ∨ z = 1000000) : 1 ≤ (number cs s2 1 z).1 ∧ (number cs s2 1 z).1 ≤ 1000000 := by
  have h2 := number_range cs s2 1 z (by omega)
  exact ⟨h2.1, Int.le_trans h2.2 (by omega)⟩
theorem single_ok {cs : List Int} {s s2 : Sto} : 1 ≤ (number cs s2 1 (pickT cs s ([(9 : Int), (200 : Int), (1000000 : Int)] : List Int)).1).1 ∧ (number cs s2 1 (pickT cs s ([(9 : Int), (200 : Int), (1000000 : Int)] : List Int)).1).1 ≤ 1000000 := num_of9 pick9
theorem snoc_ok {xs : List Int} {v : Int} {n : Nat} (h : xs.length = n ∧ ∀ x ∈ xs, 1 ≤ x) (hv : 1 ≤ v) : (xs ++ [v]).length = n + 1 ∧ ∀ x ∈ xs ++ [v], 1 ≤ x :=
  ⟨by rw [List.length_append, h.1]; rfl, fun x hx => (List.mem_append.mp hx).elim (h.2 x) fun z => by rw [List.mem_singleton.mp z]; exact hv⟩
theorem setL_memI {xs : List Int} {j v x : Int} (h : x ∈ setL xs j v) : x = v ∨ x ∈ xs := by
  unfold setL at h
  cases e : ixN xs.length j with
  | none => rw [e] at h; exact .inr h
  | some q => rw [e] at h; exact (List.mem_or_eq_of_mem_set h).symm
theorem setpick_ok {cs : List Int} {s : Sto} {xs : List Int} {j : Int} {n : Nat} (h : xs.length = n ∧ ∀ x ∈ xs, 1 ≤ x) (hn : 1 ≤ n) : (setL xs j (pickT cs s xs).1).length = n ∧ ∀ x ∈ setL xs j (pickT cs s xs).1, 1 ≤ x := by
  refine ⟨by rw [setL_length]; exact h.1, fun x hx => ?_⟩
  rcases setL_memI hx with rfl | z
  · exact h.2 _ (pickT_mem (by omega))
  · exact h.2 x z
theorem pick_ge {cs : List Int} {s : Sto} {xs : List Int} {v : Int} (h : ∀ x ∈ xs, 1 ≤ x) (hv : 1 ≤ v) : 1 ≤ (pickT cs s (xs ++ ([v] : List Int))).1 := by
  have hm := pickT_mem (cs := cs) (s := s) (xs := xs ++ ([v] : List Int)) (by rw [List.length_append]; exact Nat.le_add_left _ _)
  exact (List.mem_append.mp hm).elim (h _) fun z => by rw [List.mem_singleton.mp z]; exact hv

end ZL

end
section
namespace ZL
open PySem PySem.Spec PyProof.Rows L2 Z
/-! law -/
abbrev s_law : Stmt := topS 29
theorem sc_law : FnScope ["script", "store", "saw", "single", "most", "many", "stock", "k", "length", "base", "ask", "asks", "rod"] ["script"] (defScope s_law) := ⟨rfl, rfl, rfl, by decide +kernel, rfl, by decide +kernel, by decide +kernel⟩
def law_10 (stock_4 : (List Int)) (s_21 : Sto) : ((List Int) × Sto) :=
  (stock_4, s_21)
def law_9 (cs : List Int) (stock_3 : (List Int)) (s_19 : Sto) : ((List Int) × Sto) :=
  law_10 (setL stock_3 (-(1 : Int)) ((pickT cs s_19 stock_3).1)) ((pickT cs s_19 stock_3).2)
def law_11 (stock_3 : (List Int)) (s_22 : Sto) : ((List Int) × Sto) :=
  (stock_3, s_22)
def law_8 (cs : List Int) (stock_3 : (List Int)) (s_17 : Sto) : ((List Int) × Sto) :=
  (cond ((odds cs s_17 (4 : Int)).1) (law_9 cs stock_3 ((odds cs s_17 (4 : Int)).2)) (law_11 stock_3 ((odds cs s_17 (4 : Int)).2)))
def law_L1b (cs : List Int) (most : Int) (stock_2 : (List Int)) (s_15 : Sto) : ((List Int) × Sto) :=
  law_8 cs (stock_2 ++ [(number cs s_15 (1 : Int) most).1]) ((number cs s_15 (1 : Int) most).2)
def law_L1 (cs : List Int) (most : Int) (b : ((List Int) × Sto)) (a : Int) : ((List Int) × Sto) :=
  law_L1b cs most b.1 b.2
def law_14 (s_30 : Sto) : (Sto) :=
  s_30
def law_L2b (cs : List Int) (saw : Int) (single : Int) (s_28 : Sto) (length : Int) : (Sto) :=
  law_14 ((borneL cs s_28 saw length ([single] : List Int)).2)
def law_L2 (cs : List Int) (saw : Int) (single : Int) (b : (Sto)) (a : Int) : (Sto) :=
  law_L2b cs saw single b a
def law_17 (s_38 : Sto) : (Sto) :=
  s_38
def law_L3b (cs : List Int) (saw : Int) (stock_5 : (List Int)) (s_36 : Sto) (ask : Int) : (Sto) :=
  law_17 ((askedL cs s_36 saw stock_5 ask).2)
def law_L3 (cs : List Int) (saw : Int) (stock_5 : (List Int)) (b : (Sto)) (a : Int) : (Sto) :=
  law_L3b cs saw stock_5 b a
def law_18 (cs : List Int) (saw : Int) (asks : (List Int)) (rod : Int) (b : (Sto)) : Bool × Sto :=
  (true, (borneL cs b saw rod asks).2)
def law_16 (cs : List Int) (saw : Int) (single : Int) (stock_5 : (List Int)) (base : Int) (asks : (List Int)) (rod : Int) (s_34 : Sto) : Bool × Sto :=
  (law_18 cs saw asks rod) (List.foldl (law_L3 cs saw stock_5) s_34 ([base, (if (base - saw) > (1 : Int) then (base - saw) else (1 : Int)), (if ((base - saw) - (1 : Int)) > (1 : Int) then ((base - saw) - (1 : Int)) else (1 : Int)), (if (base / (2 : Int)) > (1 : Int) then (base / (2 : Int)) else (1 : Int)), single, (1 : Int)] : List Int))
def law_15 (cs : List Int) (saw : Int) (single : Int) (stock_5 : (List Int)) (asks : (List Int)) (rod : Int) (b : (Sto)) : Bool × Sto :=
  law_16 cs saw single stock_5 ((pickT cs b (stock_5 ++ ([single] : List Int))).1) asks rod ((pickT cs b (stock_5 ++ ([single] : List Int))).2)
def law_13 (cs : List Int) (saw : Int) (single : Int) (stock_5 : (List Int)) (asks : (List Int)) (rod : Int) (s_26 : Sto) : Bool × Sto :=
  (law_15 cs saw single stock_5 asks rod) (List.foldl (law_L2 cs saw single) s_26 ([single, (if (1000000 : Int) < (single + saw) then (1000000 : Int) else (single + saw)), (if (1000000 : Int) < ((single + saw) + (1 : Int)) then (1000000 : Int) else ((single + saw) + (1 : Int))), (if (single - (1 : Int)) > (1 : Int) then (single - (1 : Int)) else (1 : Int))] : List Int))
def law_12 (cs : List Int) (saw : Int) (single : Int) (asks : (List Int)) (rod : Int) (b : ((List Int) × Sto)) : Bool × Sto :=
  law_13 cs saw single b.1 asks rod (if (!true) = true then (borneL cs b.2 saw rod asks).2 else (borneL cs ((borneL cs b.2 saw rod asks).2) saw rod ([single] : List Int)).2)
def law_7 (cs : List Int) (saw : Int) (single : Int) (most : Int) (j_many : Int) (stock : (List Int)) (asks : (List Int)) (rod : Int) (j_s : Sto) : Bool × Sto :=
  (law_12 cs saw single asks rod) (List.foldl (law_L1 cs most) (stock, (number cs j_s (0 : Int) j_many).2) (rangeI 0 ((number cs j_s (0 : Int) j_many).1)))
def law_6 (cs : List Int) (saw : Int) (single : Int) (most : Int) (j_many : Int) (asks : (List Int)) (rod : Int) (j_s : Sto) : Bool × Sto :=
  law_7 cs saw single most j_many ([] : List Int) asks rod j_s
def law_20 (cs : List Int) (saw : Int) (single : Int) (most : Int) (many_2 : Int) (asks : (List Int)) (rod : Int) (s_46 : Sto) : Bool × Sto :=
  law_6 cs saw single most many_2 asks rod s_46
def law_19 (cs : List Int) (saw : Int) (single : Int) (most : Int) (asks : (List Int)) (rod : Int) (s_46 : Sto) : Bool × Sto :=
  law_20 cs saw single most (40 : Int) asks rod s_46
def law_21 (cs : List Int) (saw : Int) (single : Int) (most : Int) (many : Int) (asks : (List Int)) (rod : Int) (s_48 : Sto) : Bool × Sto :=
  law_6 cs saw single most many asks rod s_48
def law_5 (cs : List Int) (saw : Int) (single : Int) (most : Int) (many : Int) (asks : (List Int)) (rod : Int) (s_9 : Sto) : Bool × Sto :=
  (cond ((odds cs s_9 (6 : Int)).1) (law_19 cs saw single most asks rod ((odds cs s_9 (6 : Int)).2)) (law_21 cs saw single most many asks rod ((odds cs s_9 (6 : Int)).2)))
def law_4 (cs : List Int) (saw : Int) (single : Int) (most : Int) (asks : (List Int)) (rod : Int) (s_9 : Sto) : Bool × Sto :=
  law_5 cs saw single most (8 : Int) asks rod s_9
def law_3 (cs : List Int) (saw : Int) (single : Int) (asks : (List Int)) (rod : Int) (s_7 : Sto) : Bool × Sto :=
  law_4 cs saw single ((pickT cs s_7 ([(12 : Int), (150 : Int), (1000000 : Int)] : List Int)).1) asks rod ((pickT cs s_7 ([(12 : Int), (150 : Int), (1000000 : Int)] : List Int)).2)
def law_2 (cs : List Int) (saw : Int) (asks : (List Int)) (rod : Int) (s_5 : Sto) : Bool × Sto :=
  law_3 cs saw ((number cs ((pickT cs s_5 ([(9 : Int), (200 : Int), (1000000 : Int)] : List Int)).2) (1 : Int) ((pickT cs s_5 ([(9 : Int), (200 : Int), (1000000 : Int)] : List Int)).1)).1) asks rod ((number cs ((pickT cs s_5 ([(9 : Int), (200 : Int), (1000000 : Int)] : List Int)).2) (1 : Int) ((pickT cs s_5 ([(9 : Int), (200 : Int), (1000000 : Int)] : List Int)).1)).2)
def law_1 (cs : List Int) (saw : Int) (s_3 : Sto) : Bool × Sto :=
  law_2 cs saw ((asks_and_rodL cs s_3 saw).1.1) ((asks_and_rodL cs s_3 saw).1.2) ((asks_and_rodL cs s_3 saw).2)
def law (cs : List Int) (s : Sto) : Bool × Sto :=
  law_1 cs ((yardL cs s).1.2) ((yardL cs s).2)
set_option maxHeartbeats 16000000 in
theorem ok_law {P : Program} {w : World} {K : PySem.W.Frag} {mg : Str → Option Value} {base : Heap} (T : Top K mg) {f : Addr} {fd : FuncData} (F : FunD K "law" "law" (defArgs (topS 29)) (defBody (topS 29)) (defScope (topS 29)) [] [] f fd) : FnOk P w K mg base CX0 6 f fd ["script"] (spLaw K) := by
  have sc := sc_law
  refine F.ok sc (fun vs H Q E h => ?_) (fun cdv A outer s0 H vs Q E hr h => ⟨_, PSs.nox pss_w, ?_⟩)
  · obtain ⟨a, ns, rfl, hl, hS, q⟩ := h
    rfl
  · obtain ⟨a, cs, rfl, hl, hS, q⟩ := h
    obtain ⟨F0, w, hS⟩ := law_start (by rw [List.length_map]; exact hl) hS
    have st := Stp.refl w
    show ZS _ _ [some (.ref a), none, none, none, none, none, none, none, none, none, none, none, none] H _
    refine zs_setN (n := 1) st.ok (zn_callMk 0 (ok_mkStore T) (hr.mono (by decide)) rfl hS hl) sc.nd rfl (by first | exact Or.inl rfl | exact Or.inr rfl) fun p us F1 H1 hp s1 r1 => ?_
    obtain ⟨c, rfl, rc⟩ := sto_inv r1
    obtain ⟨s, hs0⟩ : ∃ z, z = sto0 cs := ⟨_, rfl⟩
    rw [← hs0] at s1
    have s1 : Stp F0 [] H F1 [stoO p c s] H1 := s1
    have st := st.trans s1
    have hf : law cs s = law cs s := rfl
    show ZS _ _ [some (.ref a), some (.ref p), none, none, none, none, none, none, none, none, none, none, none] H1 _
    refine zs_set (n := 2) st.ok (ze_ixT (ze_callS 1 0 (ok_yardL T) (hr.mono (by decide)) rfl rc za_nil rfl ⟨rfl, rfl, rfl⟩) ze_int atI_1) sc.nd rfl (by first | exact Or.inl rfl | exact Or.inr rfl) fun v_saw F_11 H_11 s_2 r_saw => ?_
    obtain ⟨saw, hx_saw⟩ : ∃ z : Int, z = (yardL cs s).1.2 := ⟨_, rfl⟩
    obtain ⟨s_3, hx_s_3⟩ : ∃ z : Sto, z = (yardL cs s).2 := ⟨_, rfl⟩
    have s_2 : Stp F1 [stoO p c s] H1 F_11 [stoO p c s_3] H_11 := by subst hx_s_3; exact s_2
    have r_saw : R K F_11 v_saw (eI saw) := by subst hx_saw; exact r_saw
    have st := st.trans s_2
    have rc := rc.mono s_2.gr
    show ZS _ _ [some (.ref a), some (.ref p), some v_saw, none, none, none, none, none, none, none, none, none, none] H_11 _
    have hf : law cs s = law_1 cs saw s_3 := by subst hx_saw; subst hx_s_3; exact hf
    have hsw : 0 ≤ saw ∧ saw ≤ 99 := by rw [hx_saw]; exact yard_ok
    refine zs_asg st.ok (ze_callS 1 0 (ok_asks_and_rodL T) (hr.mono (by decide)) rfl rc (za_cons (ze_var 2 rfl r_saw) za_nil) rfl ⟨saw, rfl, (by /-1-/ first | (first | omega | (simp only [List.length_append, List.length_cons, List.length_nil, List.length_map, rangeI_length]; omega)) | (first | omega | (rw [← szL]; omega) | (simp only [List.length_append, List.length_cons, List.length_nil, List.length_map, rangeI_length, ← szL]; omega))), rfl, rfl⟩) fun v F_12 H_12 s_4 r_2 => ?_
    obtain ⟨asks, hx_asks⟩ : ∃ z : (List Int), z = (asks_and_rodL cs s_3 saw).1.1 := ⟨_, rfl⟩
    obtain ⟨rod, hx_rod⟩ : ∃ z : Int, z = (asks_and_rodL cs s_3 saw).1.2 := ⟨_, rfl⟩
    obtain ⟨s_5, hx_s_5⟩ : ∃ z : Sto, z = (asks_and_rodL cs s_3 saw).2 := ⟨_, rfl⟩
    have s_4 : Stp F_11 [stoO p c s_3] H_11 F_12 [stoO p c s_5] H_12 := by subst hx_s_5; exact s_4
    have st := st.trans s_4
    have rc := rc.mono s_4.gr
    have r_saw := r_saw.mono s_4.gr
    refine zg_tup2 (n := 11) (m := 12) (F := F_12) rfl sc.nd rfl (by first | exact Or.inl rfl | exact Or.inr rfl) rfl (by first | exact Or.inl rfl | exact Or.inr rfl) (show R K F_12 v (.tuple [(eL eI) asks, eI rod]) from by subst hx_asks; subst hx_rod; exact r_2) st.ok fun v_asks v_rod r_asks r_rod => ?_
    show ZS _ _ [some (.ref a), some (.ref p), some v_saw, none, none, none, none, none, none, none, none, some v_asks, some v_rod] H_12 _
    have hf : law cs s = law_2 cs saw asks rod s_5 := by subst hx_asks; subst hx_rod; subst hx_s_5; exact hf
    have hrod : 1 ≤ rod := by rw [hx_rod]; exact (asks_rod_ok hsw).1
    have hal : asks.length ≤ 40 := by rw [hx_asks]; exact (asks_rod_ok hsw).2.1
    have hax : ∀ x ∈ asks, 1 ≤ x := by rw [hx_asks]; exact (asks_rod_ok hsw).2.2
    refine zs_set (n := 3) st.ok (ze_callS 1 0 (ok_number T) (hr.mono (by decide)) rfl rc (za_cons ze_int (za_cons (ze_callS 1 0 (ok_pick T) (hr.mono (by decide)) rfl rc (za_cons (zn_ze (zn_lstt (enc := eI) (xs := ([(9 : Int), (200 : Int), (1000000 : Int)] : List Int)) (za_cons ze_int (za_cons ze_int (za_cons (ze_to (d' := eI 1000000) (ze_pow ze_int ze_int (by exact ⟨by decide, by decide, by decide⟩)) (congrArg eI (by decide)) rfl) za_nil))))) za_nil) rfl (A_pick_of eI (by /-2-/ first | (first | (simp only [List.length_append, List.length_cons, List.length_nil, List.length_map, rangeI_length]; omega) | omega) | (first | omega | (rw [← szL]; omega) | (simp only [List.length_append, List.length_cons, List.length_nil, List.length_map, rangeI_length, ← szL]; omega))))) za_nil)) rfl ⟨(1 : Int), (pickT cs s_5 ([(9 : Int), (200 : Int), (1000000 : Int)] : List Int)).1, rfl, (by /-3-/ have h8 := pick9 (cs := cs) (s := s_5); omega), rfl, rfl⟩) sc.nd rfl (by first | exact Or.inl rfl | exact Or.inr rfl) fun v_single F_13 H_13 s_6 r_single => ?_
    obtain ⟨single, hx_single⟩ : ∃ z : Int, z = (number cs ((pickT cs s_5 ([(9 : Int), (200 : Int), (1000000 : Int)] : List Int)).2) (1 : Int) ((pickT cs s_5 ([(9 : Int), (200 : Int), (1000000 : Int)] : List Int)).1)).1 := ⟨_, rfl⟩
    obtain ⟨s_7, hx_s_7⟩ : ∃ z : Sto, z = (number cs ((pickT cs s_5 ([(9 : Int), (200 : Int), (1000000 : Int)] : List Int)).2) (1 : Int) ((pickT cs s_5 ([(9 : Int), (200 : Int), (1000000 : Int)] : List Int)).1)).2 := ⟨_, rfl⟩
    have s_6 : Stp F_12 [stoO p c s_5] H_12 F_13 [stoO p c s_7] H_13 := by subst hx_s_7; exact s_6
    have r_single : R K F_13 v_single (eI single) := by subst hx_single; exact r_single
    have st := st.trans s_6
    have rc := rc.mono s_6.gr
    have r_saw := r_saw.mono s_6.gr
    have r_asks := r_asks.mono s_6.gr
    have r_rod := r_rod.mono s_6.gr
    show ZS _ _ [some (.ref a), some (.ref p), some v_saw, some v_single, none, none, none, none, none, none, none, some v_asks, some v_rod] H_13 _
    have hf : law cs s = law_3 cs saw single asks rod s_7 := by subst hx_single; subst hx_s_7; exact hf
    have hsg : 1 ≤ single ∧ single ≤ 1000000 := by rw [hx_single]; exact single_ok
    refine zs_set (n := 4) st.ok (ze_callS 1 0 (ok_pick T) (hr.mono (by decide)) rfl rc (za_cons (zn_ze (zn_lstt (enc := eI) (xs := ([(12 : Int), (150 : Int), (1000000 : Int)] : List Int)) (za_cons ze_int (za_cons ze_int (za_cons (ze_to (d' := eI 1000000) (ze_pow ze_int ze_int (by exact ⟨by decide, by decide, by decide⟩)) (congrArg eI (by decide)) rfl) za_nil))))) za_nil) rfl (A_pick_of eI (by /-4-/ first | (first | (simp only [List.length_append, List.length_cons, List.length_nil, List.length_map, rangeI_length]; omega) | omega) | (first | omega | (rw [← szL]; omega) | (simp only [List.length_append, List.length_cons, List.length_nil, List.length_map, rangeI_length, ← szL]; omega))))) sc.nd rfl (by first | exact Or.inl rfl | exact Or.inr rfl) fun v_most F_14 H_14 s_8 r_most => ?_
    obtain ⟨most, hx_most⟩ : ∃ z : Int, z = (pickT cs s_7 ([(12 : Int), (150 : Int), (1000000 : Int)] : List Int)).1 := ⟨_, rfl⟩
    obtain ⟨s_9, hx_s_9⟩ : ∃ z : Sto, z = (pickT cs s_7 ([(12 : Int), (150 : Int), (1000000 : Int)] : List Int)).2 := ⟨_, rfl⟩
    have s_8 : Stp F_13 [stoO p c s_7] H_13 F_14 [stoO p c s_9] H_14 := by subst hx_s_9; exact s_8
    have r_most : R K F_14 v_most (eI most) := by subst hx_most; exact r_most
    have st := st.trans s_8
    have rc := rc.mono s_8.gr
    have r_saw := r_saw.mono s_8.gr
    have r_asks := r_asks.mono s_8.gr
    have r_rod := r_rod.mono s_8.gr
    have r_single := r_single.mono s_8.gr
    show ZS _ _ [some (.ref a), some (.ref p), some v_saw, some v_single, some v_most, none, none, none, none, none, none, some v_asks, some v_rod] H_14 _
    have hf : law cs s = law_4 cs saw single most asks rod s_9 := by subst hx_most; subst hx_s_9; exact hf
    have hmo : 12 ≤ most ∧ most ≤ 1000000 := by rw [hx_most]; rcases pick12 (cs := cs) (s := s_7) with h | h | h <;> omega
    refine zs_set (n := 5) st.ok ze_int sc.nd rfl (by first | exact Or.inl rfl | exact Or.inr rfl) fun v_many F_15 H_15 s_10 r_many => ?_
    obtain ⟨many, hx_many⟩ : ∃ z : Int, z = (8 : Int) := ⟨_, rfl⟩
    have s_10 : Stp F_14 [stoO p c s_9] H_14 F_15 [stoO p c s_9] H_15 := by exact s_10
    have r_many : R K F_15 v_many (eI many) := by subst hx_many; exact r_many
    have st := st.trans s_10
    have rc := rc.mono s_10.gr
    have r_saw := r_saw.mono s_10.gr
    have r_asks := r_asks.mono s_10.gr
    have r_rod := r_rod.mono s_10.gr
    have r_single := r_single.mono s_10.gr
    have r_most := r_most.mono s_10.gr
    show ZS _ _ [some (.ref a), some (.ref p), some v_saw, some v_single, some v_most, some v_many, none, none, none, none, none, some v_asks, some v_rod] H_15 _
    have hf : law cs s = law_5 cs saw single most many asks rod s_9 := by subst hx_many; exact hf
    refine zs_ifJ st.ok (zt_val (ze_callS 1 0 (ok_odds T) (hr.mono (by decide)) rfl rc (za_cons ze_int za_nil) rfl ⟨(6 : Int), rfl, (by /-5-/ first | (first | omega | (simp only [List.length_append, List.length_cons, List.length_nil, List.length_map, rangeI_length]; omega)) | (first | omega | (rw [← szL]; omega) | (simp only [List.length_append, List.length_cons, List.length_nil, List.length_map, rangeI_length, ← szL]; omega))), rfl, rfl⟩)) (fun σ H' => ∃ (j_many : Int) (j_s : Sto) (F : Hp) (O : Own), law cs s = law_6 cs saw single most j_many asks rod j_s ∧ Stp F_15 [stoO p c s_9] H_15 F O H' ∧ ∃ (w1 : V), σ = [some (.ref a), some (.ref p), some v_saw, some v_single, some v_most, some w1, none, none, none, none, none, some v_asks, some v_rod] ∧ O = [stoO p c j_s] ∧ R K F w1 (eI j_many) ∧ (8 ≤ j_many ∧ j_many ≤ 40)) (fun hb F_16 H_16 s_11 => ?_) (fun hb F_16 H_16 s_11 => ?_) (fun σ H_17 hJ => ?_)
    · obtain ⟨s_46, hx_s_46⟩ : ∃ z : Sto, z = (odds cs s_9 (6 : Int)).2 := ⟨_, rfl⟩
      have s_11 : Stp F_15 [stoO p c s_9] H_15 F_16 [stoO p c s_46] H_16 := by subst hx_s_46; exact s_11
      have sj := s_11
      have st := st.trans s_11
      have rc := rc.mono s_11.gr
      have r_saw := r_saw.mono s_11.gr
      have r_asks := r_asks.mono s_11.gr
      have r_rod := r_rod.mono s_11.gr
      have r_single := r_single.mono s_11.gr
      have r_most := r_most.mono s_11.gr
      have r_many := r_many.mono s_11.gr
      have hf := hf.trans (cond_t hb)
      have hf : law cs s = law_19 cs saw single most asks rod s_46 := by subst hx_s_46; exact hf
      refine zs_set (n := 5) st.ok ze_int sc.nd rfl (by first | exact Or.inl rfl | exact Or.inr rfl) fun v_many_3 F_41 H_37 s_47 r_many_3 => ?_
      obtain ⟨many_2, hx_many_2⟩ : ∃ z : Int, z = (40 : Int) := ⟨_, rfl⟩
      have s_47 : Stp F_16 [stoO p c s_46] H_16 F_41 [stoO p c s_46] H_37 := by exact s_47
      have r_many_3 : R K F_41 v_many_3 (eI many_2) := by subst hx_many_2; exact r_many_3
      have st := st.trans s_47
      have sj := sj.trans s_47
      have rc := rc.mono s_47.gr
      have r_saw := r_saw.mono s_47.gr
      have r_asks := r_asks.mono s_47.gr
      have r_rod := r_rod.mono s_47.gr
      have r_single := r_single.mono s_47.gr
      have r_most := r_most.mono s_47.gr
      show ZS _ _ [some (.ref a), some (.ref p), some v_saw, some v_single, some v_most, some v_many_3, none, none, none, none, none, some v_asks, some v_rod] H_37 _
      have hf : law cs s = law_20 cs saw single most many_2 asks rod s_46 := by subst hx_many_2; exact hf
      refine zs_nil ?_
      exact ⟨many_2, s_46, _, _, hf, sj, v_many_3, rfl, rfl, r_many_3, by rw [hx_many_2]; decide⟩
    · obtain ⟨s_48, hx_s_48⟩ : ∃ z : Sto, z = (odds cs s_9 (6 : Int)).2 := ⟨_, rfl⟩
      have s_11 : Stp F_15 [stoO p c s_9] H_15 F_16 [stoO p c s_48] H_16 := by subst hx_s_48; exact s_11
      have sj := s_11
      have st := st.trans s_11
      have rc := rc.mono s_11.gr
      have r_saw := r_saw.mono s_11.gr
      have r_asks := r_asks.mono s_11.gr
      have r_rod := r_rod.mono s_11.gr
      have r_single := r_single.mono s_11.gr
      have r_most := r_most.mono s_11.gr
      have r_many := r_many.mono s_11.gr
      have hf := hf.trans (cond_f hb)
      have hf : law cs s = law_21 cs saw single most many asks rod s_48 := by subst hx_s_48; exact hf
      refine zs_nil ?_
      exact ⟨many, s_48, _, _, hf, sj, v_many, rfl, rfl, r_many, by rw [hx_many]; decide⟩
    · obtain ⟨j_many, j_s, F_17, O_2, hf, s_12, hJ⟩ := hJ
      obtain ⟨v_many_2, rfl, rfl, r_many_2, hinv⟩ := hJ
      have r_many_2 : R K _ v_many_2 (eI j_many) := r_many_2
      have st := st.trans s_12
      have rc := rc.mono s_12.gr
      have r_saw := r_saw.mono s_12.gr
      have r_asks := r_asks.mono s_12.gr
      have r_rod := r_rod.mono s_12.gr
      have r_single := r_single.mono s_12.gr
      have r_most := r_most.mono s_12.gr
      have hmany := hinv
      show ZS _ _ [some (.ref a), some (.ref p), some v_saw, some v_single, some v_most, some v_many_2, none, none, none, none, none, some v_asks, some v_rod] H_17 _
      refine zs_setN (n := 6) st.ok (zn_lstt (enc := eI) (xs := ([] : List Int)) za_nil) sc.nd rfl (by first | exact Or.inl rfl | exact Or.inr rfl) fun p_stock us_stock F_18 H_18 hp_2 s_13 r_stock => ?_
      obtain ⟨stock, hx_stock⟩ : ∃ z : (List Int), z = ([] : List Int) := ⟨_, rfl⟩
      have hn_2 := st.newAt hp_2
      have s_13 : Stp F_17 [stoO p c j_s] H_17 F_18 [(p_stock, .lst us_stock), stoO p c j_s] H_18 := by exact s_13
      have r_stock : RA K F_18 us_stock (stock.map eI) := by subst hx_stock; exact r_stock
      have st := st.trans s_13
      have rc := rc.mono s_13.gr
      have r_saw := r_saw.mono s_13.gr
      have r_asks := r_asks.mono s_13.gr
      have r_rod := r_rod.mono s_13.gr
      have r_single := r_single.mono s_13.gr
      have r_most := r_most.mono s_13.gr
      have r_many_2 := r_many_2.mono s_13.gr
      show ZS _ _ [some (.ref a), some (.ref p), some v_saw, some v_single, some v_most, some v_many_2, some (.ref p_stock), none, none, none, none, some v_asks, some v_rod] H_18 _
      have hf : law cs s = law_7 cs saw single most j_many stock asks rod j_s := by subst hx_stock; exact hf
      refine zs_forF (f := (law_L1 cs most)) (b0 := (stock, (number cs j_s (0 : Int) j_many).2)) st.ok PassesOwn.never rfl (zi_range1 T.b_range (ze_callS 1 1 (ok_number T) (hr.mono (by decide)) rfl rc (za_cons ze_int (za_cons (ze_var 5 rfl r_many_2) za_nil)) rfl ⟨(0 : Int), j_many, rfl, (by /-6-/ first | (first | omega | (simp only [List.length_append, List.length_cons, List.length_nil, List.length_map, rangeI_length]; omega)) | (first | omega | (rw [← szL]; omega) | (simp only [List.length_append, List.length_cons, List.length_nil, List.length_map, rangeI_length, ← szL]; omega))), rfl, rfl⟩) (by /-7-/ have h8 := number_range cs j_s 0 j_many (by omega); omega)) (fun iq b σ F O => ∃ (z1 : Option V) (w2 : List V), σ = [some (.ref a), some (.ref p), some v_saw, some v_single, some v_most, some v_many_2, some (.ref p_stock), z1, none, none, none, some v_asks, some v_rod] ∧ O = [(p_stock, .lst w2), stoO p c b.2] ∧ RA K F w2 (b.1.map eI) ∧ (b.1.length = iq ∧ ∀ x ∈ b.1, 1 ≤ x)) (fun F_40 H_36 s_45 => ⟨none, us_stock, rfl, rfl, r_stock.mono s_45.gr, by rw [hx_stock]; exact ⟨rfl, fun x hx => nomatch hx⟩⟩) (fun i b k v_2 σ_2 F_19 F_20 O_3 H_19 ha hbe hz rel g s_14 r_3 => ?_) (fun σ_3 F_24 O_4 H_23 s_24 rel_2 => ?_)
      · skip
        obtain ⟨stock_2, s_15⟩ := b
        obtain ⟨z_k, us_stock_2, rfl, rfl, r_stock_2, hinv_2⟩ := rel
        have r_stock_2 : RA K _ us_stock_2 (stock_2.map eI) := r_stock_2
        have st := st.trans s_14
        have rc := rc.mono s_14.gr
        have r_saw := r_saw.mono s_14.gr
        have r_asks := r_asks.mono s_14.gr
        have r_rod := r_rod.mono s_14.gr
        have r_single := r_single.mono s_14.gr
        have r_most := r_most.mono s_14.gr
        have r_many_2 := r_many_2.mono s_14.gr
        have r_stock_2 := r_stock_2.mono g
        have hinv_2 : stock_2.length = i ∧ ∀ x ∈ stock_2, 1 ≤ x := hinv_2
        have hlt_i := (List.getElem?_eq_some_iff.mp ha).1
        rw [rangeI_length] at hlt_i
        have hat_i := rangeI_at ha
        have sb : Stp F_20 [(p_stock, .lst us_stock_2), stoO p c s_15] H_19 F_20 [(p_stock, .lst us_stock_2), stoO p c s_15] H_19 := Stp.refl st.ok
        have hfb : law_L1 cs most (stock_2, s_15) k = law_L1b cs most stock_2 s_15 := rfl
        refine zg_name (n := 7) sc.nd rfl (by first | exact Or.inl rfl | exact Or.inr rfl) ?_
        show ZS _ _ [some (.ref a), some (.ref p), some v_saw, some v_single, some v_most, some v_many_2, some (.ref p_stock), some v_2, none, none, none, some v_asks, some v_rod] H_19 _
        have hl : (us_stock_2).length = stock_2.length := by have h := r_stock_2.len; exact h.trans (by rw [List.length_map])
        refine zs_append st.ok 6 0 rfl (ze_callS 1 1 (ok_number T) (hr.mono (by decide)) rfl rc (za_cons ze_int (za_cons (ze_var 4 rfl r_most) za_nil)) rfl ⟨(1 : Int), most, rfl, (by /-8-/ first | (first | omega | (simp only [List.length_append, List.length_cons, List.length_nil, List.length_map, rangeI_length]; omega)) | (first | omega | (rw [← szL]; omega) | (simp only [List.length_append, List.length_cons, List.length_nil, List.length_map, rangeI_length, ← szL]; omega))), rfl, rfl⟩) rfl (by rw [hl]; exact (by /-9-/ have h8 := number_range cs j_s 0 j_many (by omega); rw [← szL, hinv_2.1]; omega)) fun v_3 F_21 H_20 s_16 r_4 => ?_
        obtain ⟨stock_3, hx_stock_3⟩ : ∃ z : (List Int), z = stock_2 ++ [(number cs s_15 (1 : Int) most).1] := ⟨_, rfl⟩
        obtain ⟨s_17, hx_s_17⟩ : ∃ z : Sto, z = (number cs s_15 (1 : Int) most).2 := ⟨_, rfl⟩
        obtain ⟨us_stock_3, hus_stock_3⟩ : ∃ z, z = us_stock_2 ++ [v_3] := ⟨_, rfl⟩
        have s_16 : Stp F_20 [(p_stock, .lst us_stock_2), stoO p c s_15] H_19 F_21 [(p_stock, .lst us_stock_3), stoO p c s_17] H_20 := by subst hus_stock_3; subst hx_s_17; exact s_16
        have r_stock_3 : RA K F_21 us_stock_3 (stock_3.map eI) := by rw [hus_stock_3, hx_stock_3, List.map_append]; exact (r_stock_2.mono s_16.gr).snoc r_4
        have st := st.trans s_16
        have sb := sb.trans s_16
        have rc := rc.mono s_16.gr
        have r_saw := r_saw.mono s_16.gr
        have r_asks := r_asks.mono s_16.gr
        have r_rod := r_rod.mono s_16.gr
        have r_single := r_single.mono s_16.gr
        have r_most := r_most.mono s_16.gr
        have r_many_2 := r_many_2.mono s_16.gr
        have r_3 := r_3.mono s_16.gr
        show ZS _ _ [some (.ref a), some (.ref p), some v_saw, some v_single, some v_most, some v_many_2, some (.ref p_stock), some v_2, none, none, none, some v_asks, some v_rod] H_20 _
        have hfb : law_L1 cs most (stock_2, s_15) k = law_8 cs stock_3 s_17 := by subst hx_stock_3; subst hx_s_17; exact hfb
        have hst3 : stock_3.length = i + 1 ∧ ∀ x ∈ stock_3, 1 ≤ x := by rw [hx_stock_3]; exact snoc_ok hinv_2 (number_range _ _ _ _ (by omega)).1
        have hi40 : i < 40 := by have h8 := number_range cs j_s 0 j_many (by omega); omega
        refine zs_if st.ok (zt_val (ze_callS 1 1 (ok_odds T) (hr.mono (by decide)) rfl rc (za_cons ze_int za_nil) rfl ⟨(4 : Int), rfl, (by /-10-/ first | (first | omega | (simp only [List.length_append, List.length_cons, List.length_nil, List.length_map, rangeI_length]; omega)) | (first | omega | (rw [← szL]; omega) | (simp only [List.length_append, List.length_cons, List.length_nil, List.length_map, rangeI_length, ← szL]; omega))), rfl, rfl⟩)) (fun hb_2 F_22 H_21 s_18 => ?_) (fun hb_2 F_22 H_21 s_18 => ?_)
        · obtain ⟨s_19, hx_s_19⟩ : ∃ z : Sto, z = (odds cs s_17 (4 : Int)).2 := ⟨_, rfl⟩
          have s_18 : Stp F_21 [(p_stock, .lst us_stock_3), stoO p c s_17] H_20 F_22 [(p_stock, .lst us_stock_3), stoO p c s_19] H_21 := by subst hx_s_19; exact s_18
          have st := st.trans s_18
          have sb := sb.trans s_18
          have rc := rc.mono s_18.gr
          have r_saw := r_saw.mono s_18.gr
          have r_asks := r_asks.mono s_18.gr
          have r_rod := r_rod.mono s_18.gr
          have r_single := r_single.mono s_18.gr
          have r_most := r_most.mono s_18.gr
          have r_many_2 := r_many_2.mono s_18.gr
          have r_stock_3 := r_stock_3.mono s_18.gr
          have r_3 := r_3.mono s_18.gr
          have hfb := hfb.trans (cond_t hb_2)
          have hfb : law_L1 cs most (stock_2, s_15) k = law_9 cs stock_3 s_19 := by subst hx_s_19; exact hfb
          have gl : Gr F_22 (upd F_22 p_stock (.lst us_stock_3)) := Gr.upd (st.ok.at_ (k := 0) rfl).2
          have r_stock_4 : R K (upd F_22 p_stock (.lst us_stock_3)) (.ref p_stock) (eL eI stock_3) := (r_stock_3.mono gl).lst upd_same
          obtain ⟨q_2, hq_2, q_2_lt⟩ : ∃ q, ixN stock_3.length (-(1 : Int)) = some q ∧ q < stock_3.length := ixN_in (by /-12-/ first | (first | omega | (simp only [List.length_append, List.length_cons, List.length_nil, List.length_map, rangeI_length]; omega)) | (first | omega | (rw [← szL]; omega) | (simp only [List.length_append, List.length_cons, List.length_nil, List.length_map, rangeI_length, ← szL]; omega)))
          have hl_2 : (us_stock_3).length = stock_3.length := by have h := r_stock_3.len; exact h.trans (by rw [List.length_map])
          refine zs_setItem (q := q_2) st.ok 6 0 rfl (ze_lend (O1 := [(p_stock, .lst us_stock_3), stoO p c ((pickT cs s_19 stock_3).2)]) 0 0 rfl rfl (ze_callS 1 0 (ok_pick T) (hr.mono (by decide)) rfl (rc.mono gl) (za_cons (ze_var 6 rfl r_stock_4) za_nil) rfl (A_pick_of eI (by /-11-/ first | (first | (simp only [List.length_append, List.length_cons, List.length_nil, List.length_map, rangeI_length]; omega) | omega) | (first | omega | (rw [← szL]; omega) | (simp only [List.length_append, List.length_cons, List.length_nil, List.length_map, rangeI_length, ← szL]; omega))))) flatI rfl rfl) (ze_neg ze_int) rfl (by rw [hl_2]; exact hq_2) fun v_4 F_23 H_22 s_20 r_5 => ?_
          obtain ⟨stock_4, hx_stock_4⟩ : ∃ z : (List Int), z = setL stock_3 (-(1 : Int)) ((pickT cs s_19 stock_3).1) := ⟨_, rfl⟩
          obtain ⟨s_21, hx_s_21⟩ : ∃ z : Sto, z = (pickT cs s_19 stock_3).2 := ⟨_, rfl⟩
          obtain ⟨us_stock_4, hus_stock_4⟩ : ∃ z, z = us_stock_3.set q_2 v_4 := ⟨_, rfl⟩
          have s_20 : Stp F_22 [(p_stock, .lst us_stock_3), stoO p c s_19] H_21 F_23 [(p_stock, .lst us_stock_4), stoO p c s_21] H_22 := by subst hus_stock_4; subst hx_s_21; exact s_20
          have r_stock_5 : RA K F_23 us_stock_4 (stock_4.map eI) := by rw [hus_stock_4, hx_stock_4, setL_eq hq_2, List.map_set]; exact (r_stock_3.mono s_20.gr).set r_5
          have st := st.trans s_20
          have sb := sb.trans s_20
          have rc := rc.mono s_20.gr
          have r_saw := r_saw.mono s_20.gr
          have r_asks := r_asks.mono s_20.gr
          have r_rod := r_rod.mono s_20.gr
          have r_single := r_single.mono s_20.gr
          have r_most := r_most.mono s_20.gr
          have r_many_2 := r_many_2.mono s_20.gr
          have r_3 := r_3.mono s_20.gr
          show ZS _ _ [some (.ref a), some (.ref p), some v_saw, some v_single, some v_most, some v_many_2, some (.ref p_stock), some v_2, none, none, none, some v_asks, some v_rod] H_22 _
          have hfb : law_L1 cs most (stock_2, s_15) k = law_10 stock_4 s_21 := by subst hx_stock_4; subst hx_s_21; exact hfb
          refine zs_nil ?_
          show ZS _ _ [some (.ref a), some (.ref p), some v_saw, some v_single, some v_most, some v_many_2, some (.ref p_stock), some v_2, none, none, none, some v_asks, some v_rod] H_22 _
          refine zs_nil ?_
          exact ⟨_, _, sb, by (try rw [hfb]); exact ⟨some v_2, us_stock_4, rfl, rfl, r_stock_5, (show stock_4.length = (i + 1) ∧ ∀ x ∈ stock_4, 1 ≤ x from by first | exact hst3 | (rw [hx_stock_4]; exact setpick_ok hst3 (by omega)))⟩⟩
        · obtain ⟨s_22, hx_s_22⟩ : ∃ z : Sto, z = (odds cs s_17 (4 : Int)).2 := ⟨_, rfl⟩
          have s_18 : Stp F_21 [(p_stock, .lst us_stock_3), stoO p c s_17] H_20 F_22 [(p_stock, .lst us_stock_3), stoO p c s_22] H_21 := by subst hx_s_22; exact s_18
          have st := st.trans s_18
          have sb := sb.trans s_18
          have rc := rc.mono s_18.gr
          have r_saw := r_saw.mono s_18.gr
          have r_asks := r_asks.mono s_18.gr
          have r_rod := r_rod.mono s_18.gr
          have r_single := r_single.mono s_18.gr
          have r_most := r_most.mono s_18.gr
          have r_many_2 := r_many_2.mono s_18.gr
          have r_stock_3 := r_stock_3.mono s_18.gr
          have r_3 := r_3.mono s_18.gr
          have hfb := hfb.trans (cond_f hb_2)
          have hfb : law_L1 cs most (stock_2, s_15) k = law_11 stock_3 s_22 := by subst hx_s_22; exact hfb
          refine zs_nil ?_
          show ZS _ _ [some (.ref a), some (.ref p), some v_saw, some v_single, some v_most, some v_many_2, some (.ref p_stock), some v_2, none, none, none, some v_asks, some v_rod] H_21 _
          refine zs_nil ?_
          exact ⟨_, _, sb, by (try rw [hfb]); exact ⟨some v_2, us_stock_3, rfl, rfl, r_stock_3, (show stock_3.length = (i + 1) ∧ ∀ x ∈ stock_3, 1 ≤ x from by first | exact hst3 | (rw [hx_stock_3]; exact setpick_ok hst3 (by omega)))⟩⟩
      · skip
        obtain ⟨b_2, hb_3⟩ : ∃ z : ((List Int) × Sto), z = List.foldl (law_L1 cs most) (stock, (number cs j_s (0 : Int) j_many).2) (rangeI 0 ((number cs j_s (0 : Int) j_many).1)) := ⟨_, rfl⟩
        try rw [← hb_3] at rel_2
        obtain ⟨stock_5, s_23⟩ := b_2
        obtain ⟨z_k_2, us_stock_5, rfl, rfl, r_stock_6, hinv_3⟩ := rel_2
        have r_stock_6 : RA K _ us_stock_5 (stock_5.map eI) := r_stock_6
        have st := st.trans s_24
        have rc := rc.mono s_24.gr
        have r_saw := r_saw.mono s_24.gr
        have r_asks := r_asks.mono s_24.gr
        have r_rod := r_rod.mono s_24.gr
        have r_single := r_single.mono s_24.gr
        have r_most := r_most.mono s_24.gr
        have r_many_2 := r_many_2.mono s_24.gr
        have hinv_3 : stock_5.length = (rangeI 0 ((number cs j_s (0 : Int) j_many).1)).length ∧ ∀ x ∈ stock_5, 1 ≤ x := hinv_3
        have hf : law cs s = (law_12 cs saw single asks rod) (stock_5, s_23) := by rw [hb_3]; exact hf
        have hst := hinv_3
        have hsl : stock_5.length ≤ 40 := by rw [hst.1, rangeI_length]; have h8 := number_range cs j_s 0 j_many (by omega); omega
        show ZS _ _ [some (.ref a), some (.ref p), some v_saw, some v_single, some v_most, some v_many_2, some (.ref p_stock), z_k_2, none, none, none, some v_asks, some v_rod] H_23 _
        refine zs_ifF st.ok (zt_eq (zt_w (zw_orS (fun z => [(p_stock, .lst us_stock_5), stoO p c z]) (zt_not (zt_val (ze_callS 1 1 (ok_borneL T) (hr.mono (by decide)) rfl rc (za_cons (ze_var 2 rfl r_saw) (za_cons (ze_var 12 rfl r_rod) (za_cons (ze_var 11 rfl r_asks) za_nil))) rfl ⟨saw, rod, asks, rfl, (by /-13-/ exact ⟨hsw.1, hsw.2, hrod, hal, hax⟩), rfl, rfl⟩))) fun hb => (zw_or1 (zt_not (zt_val (ze_callS 1 1 (ok_borneL T) (hr.mono (by decide)) rfl rc (za_cons (ze_var 2 rfl r_saw) (za_cons (ze_var 12 rfl r_rod) (za_cons (zn_ze (zn_lstt (enc := eI) (xs := ([single] : List Int)) (za_cons (ze_var 3 rfl r_single) za_nil))) za_nil))) rfl ⟨saw, rod, ([single] : List Int), rfl, (by /-14-/ exact ⟨hsw.1, hsw.2, hrod, (by show (1 : Nat) ≤ 40; decide), (fun x hx => by rw [List.mem_singleton.mp hx]; exact hsg.1)⟩), rfl, rfl⟩)))))) (by simp)) fun F_25 H_24 s_25 => ?_
        obtain ⟨s_26, hx_s_26⟩ : ∃ z : Sto, z = (if (!true) = true then (borneL cs s_23 saw rod asks).2 else (borneL cs ((borneL cs s_23 saw rod asks).2) saw rod ([single] : List Int)).2) := ⟨_, rfl⟩
        have s_25 : Stp F_24 [(p_stock, .lst us_stock_5), stoO p c s_23] H_23 F_25 [(p_stock, .lst us_stock_5), stoO p c s_26] H_24 := by subst hx_s_26; exact s_25
        have st := st.trans s_25
        have rc := rc.mono s_25.gr
        have r_saw := r_saw.mono s_25.gr
        have r_asks := r_asks.mono s_25.gr
        have r_rod := r_rod.mono s_25.gr
        have r_single := r_single.mono s_25.gr
        have r_most := r_most.mono s_25.gr
        have r_many_2 := r_many_2.mono s_25.gr
        have r_stock_6 := r_stock_6.mono s_25.gr
        have hf : law cs s = law_13 cs saw single stock_5 asks rod s_26 := by subst hx_s_26; exact hf
        refine zs_nil ?_
        show ZS _ _ [some (.ref a), some (.ref p), some v_saw, some v_single, some v_most, some v_many_2, some (.ref p_stock), z_k_2, none, none, none, some v_asks, some v_rod] H_24 _
        refine zs_forF (f := (law_L2 cs saw single)) (b0 := s_26) st.ok PassesOwn.never rfl (zi_list (zn_ze (zn_lstt (enc := eI) (xs := ([single, (if (1000000 : Int) < (single + saw) then (1000000 : Int) else (single + saw)), (if (1000000 : Int) < ((single + saw) + (1 : Int)) then (1000000 : Int) else ((single + saw) + (1 : Int))), (if (single - (1 : Int)) > (1 : Int) then (single - (1 : Int)) else (1 : Int))] : List Int)) (za_cons (ze_var 3 rfl r_single) (za_cons (ze_min2 rfl T.b_min (ze_add (ze_var 3 rfl r_single) (ze_var 2 rfl r_saw)) (ze_to (d' := eI 1000000) (ze_pow ze_int ze_int (by exact ⟨by decide, by decide, by decide⟩)) (congrArg eI (by decide)) rfl)) (za_cons (ze_min2 rfl T.b_min (ze_add (ze_add (ze_var 3 rfl r_single) (ze_var 2 rfl r_saw)) ze_int) (ze_to (d' := eI 1000000) (ze_pow ze_int ze_int (by exact ⟨by decide, by decide, by decide⟩)) (congrArg eI (by decide)) rfl)) (za_cons (ze_max2 rfl T.b_max ze_int (ze_sub (ze_var 3 rfl r_single) ze_int)) za_nil))))))) (fun iq b σ F O => ∃ (z1 : Option V), σ = [some (.ref a), some (.ref p), some v_saw, some v_single, some v_most, some v_many_2, some (.ref p_stock), z_k_2, z1, none, none, some v_asks, some v_rod] ∧ O = [(p_stock, .lst us_stock_5), stoO p c b] ∧ True) (fun F_39 H_35 s_44 => ⟨none, rfl, rfl, trivial⟩) (fun i_2 b_3 length v_5 σ_4 F_26 F_27 O_5 H_25 ha_2 hbe_2 hz_2 rel_3 g_2 s_27 r_6 => ?_) (fun σ_5 F_29 O_6 H_27 s_32 rel_4 => ?_)
        · skip
          obtain ⟨s_28, rfl⟩ : ∃ z, z = b_3 := ⟨_, rfl⟩
          obtain ⟨z_length, rfl, rfl, hinv_4⟩ := rel_3
          have st := st.trans s_27
          have rc := rc.mono s_27.gr
          have r_saw := r_saw.mono s_27.gr
          have r_asks := r_asks.mono s_27.gr
          have r_rod := r_rod.mono s_27.gr
          have r_single := r_single.mono s_27.gr
          have r_most := r_most.mono s_27.gr
          have r_many_2 := r_many_2.mono s_27.gr
          have r_stock_6 := r_stock_6.mono s_27.gr
          have hlt_i_2 := (List.getElem?_eq_some_iff.mp ha_2).1
          have sb_2 : Stp F_27 [(p_stock, .lst us_stock_5), stoO p c s_28] H_25 F_27 [(p_stock, .lst us_stock_5), stoO p c s_28] H_25 := Stp.refl st.ok
          have hfb_2 : law_L2 cs saw single s_28 length = law_L2b cs saw single s_28 length := rfl
          refine zg_name (n := 8) sc.nd rfl (by first | exact Or.inl rfl | exact Or.inr rfl) ?_
          have hm := List.mem_of_getElem? ha_2
          simp only [List.mem_cons, List.not_mem_nil, or_false] at hm
          have hlen : 1 ≤ length := by rcases hm with h | h | h | h <;> (rw [h]; first | omega | (split <;> omega))
          show ZS _ _ [some (.ref a), some (.ref p), some v_saw, some v_single, some v_most, some v_many_2, some (.ref p_stock), z_k_2, some v_5, none, none, some v_asks, some v_rod] H_25 _
          refine zs_ifF st.ok (zt_eq (zt_not (zt_val (ze_callS 1 1 (ok_borneL T) (hr.mono (by decide)) rfl rc (za_cons (ze_var 2 rfl r_saw) (za_cons (ze_var 8 rfl r_6) (za_cons (zn_ze (zn_lstt (enc := eI) (xs := ([single] : List Int)) (za_cons (ze_var 3 rfl r_single) za_nil))) za_nil))) rfl ⟨saw, length, ([single] : List Int), rfl, (by /-15-/ exact ⟨hsw.1, hsw.2, hlen, (by show (1 : Nat) ≤ 40; decide), (fun x hx => by rw [List.mem_singleton.mp hx]; exact hsg.1)⟩), rfl, rfl⟩))) (by simp)) fun F_28 H_26 s_29 => ?_
          obtain ⟨s_30, hx_s_30⟩ : ∃ z : Sto, z = (borneL cs s_28 saw length ([single] : List Int)).2 := ⟨_, rfl⟩
          have s_29 : Stp F_27 [(p_stock, .lst us_stock_5), stoO p c s_28] H_25 F_28 [(p_stock, .lst us_stock_5), stoO p c s_30] H_26 := by subst hx_s_30; exact s_29
          have st := st.trans s_29
          have sb_2 := sb_2.trans s_29
          have rc := rc.mono s_29.gr
          have r_saw := r_saw.mono s_29.gr
          have r_asks := r_asks.mono s_29.gr
          have r_rod := r_rod.mono s_29.gr
          have r_single := r_single.mono s_29.gr
          have r_most := r_most.mono s_29.gr
          have r_many_2 := r_many_2.mono s_29.gr
          have r_stock_6 := r_stock_6.mono s_29.gr
          have r_6 := r_6.mono s_29.gr
          have hfb_2 : law_L2 cs saw single s_28 length = law_14 s_30 := by subst hx_s_30; exact hfb_2
          refine zs_nil ?_
          show ZS _ _ [some (.ref a), some (.ref p), some v_saw, some v_single, some v_most, some v_many_2, some (.ref p_stock), z_k_2, some v_5, none, none, some v_asks, some v_rod] H_26 _
          refine zs_nil ?_
          exact ⟨_, _, sb_2, by (try rw [hfb_2]); exact ⟨some v_5, rfl, rfl, trivial⟩⟩
        · skip
          obtain ⟨b_4, hb_4⟩ : ∃ z : (Sto), z = List.foldl (law_L2 cs saw single) s_26 ([single, (if (1000000 : Int) < (single + saw) then (1000000 : Int) else (single + saw)), (if (1000000 : Int) < ((single + saw) + (1 : Int)) then (1000000 : Int) else ((single + saw) + (1 : Int))), (if (single - (1 : Int)) > (1 : Int) then (single - (1 : Int)) else (1 : Int))] : List Int) := ⟨_, rfl⟩
          try rw [← hb_4] at rel_4
          obtain ⟨s_31, rfl⟩ : ∃ z, z = b_4 := ⟨_, rfl⟩
          obtain ⟨z_length_2, rfl, rfl, hinv_5⟩ := rel_4
          have st := st.trans s_32
          have rc := rc.mono s_32.gr
          have r_saw := r_saw.mono s_32.gr
          have r_asks := r_asks.mono s_32.gr
          have r_rod := r_rod.mono s_32.gr
          have r_single := r_single.mono s_32.gr
          have r_most := r_most.mono s_32.gr
          have r_many_2 := r_many_2.mono s_32.gr
          have r_stock_6 := r_stock_6.mono s_32.gr
          have hf : law cs s = (law_15 cs saw single stock_5 asks rod) s_31 := by rw [hb_4]; exact hf
          show ZS _ _ [some (.ref a), some (.ref p), some v_saw, some v_single, some v_most, some v_many_2, some (.ref p_stock), z_k_2, z_length_2, none, none, some v_asks, some v_rod] H_27 _
          have gz : Gr F_29 (upd F_29 p_stock (.lst us_stock_5)) := Gr.upd (st.ok.at_ (k := 0) rfl).2
          have r_stock_7 : R K (upd F_29 p_stock (.lst us_stock_5)) (.ref p_stock) (eL eI stock_5) := (r_stock_6.mono gz).lst upd_same
          have st : Stp _ _ _ (upd F_29 p_stock (.lst us_stock_5)) [stoO p c s_31] H_27 := st.freezeAt 0 rfl hn_2
          have rc := rc.mono gz
          have r_saw := r_saw.mono gz
          have r_asks := r_asks.mono gz
          have r_rod := r_rod.mono gz
          have r_single := r_single.mono gz
          have r_most := r_most.mono gz
          have r_many_2 := r_many_2.mono gz
          show ZS _ _ [some (.ref a), some (.ref p), some v_saw, some v_single, some v_most, some v_many_2, some (.ref p_stock), z_k_2, z_length_2, none, none, some v_asks, some v_rod] H_27 _
          refine zs_set (n := 9) st.ok (ze_callS 1 0 (ok_pick T) (hr.mono (by decide)) rfl rc (za_cons (zn_ze (zn_catt (ze_var 6 rfl r_stock_7) (zn_ze (zn_lstt (enc := eI) (xs := ([single] : List Int)) (za_cons (ze_var 3 rfl r_single) za_nil))) (by /-16-/ first | ((rw [← szL]; first | omega | (simp only [List.length_append, List.length_cons, List.length_nil, List.length_map, rangeI_length]; omega))) | (first | omega | (rw [← szL]; omega) | (simp only [List.length_append, List.length_cons, List.length_nil, List.length_map, rangeI_length, ← szL]; omega))))) za_nil) rfl (A_pick_of eI (by /-17-/ first | (first | (simp only [List.length_append, List.length_cons, List.length_nil, List.length_map, rangeI_length]; omega) | omega) | (first | omega | (rw [← szL]; omega) | (simp only [List.length_append, List.length_cons, List.length_nil, List.length_map, rangeI_length, ← szL]; omega))))) sc.nd rfl (by first | exact Or.inl rfl | exact Or.inr rfl) fun v_base F_31 H_28 s_33 r_base => ?_
          obtain ⟨base, hx_base⟩ : ∃ z : Int, z = (pickT cs s_31 (stock_5 ++ ([single] : List Int))).1 := ⟨_, rfl⟩
          obtain ⟨s_34, hx_s_34⟩ : ∃ z : Sto, z = (pickT cs s_31 (stock_5 ++ ([single] : List Int))).2 := ⟨_, rfl⟩
          have s_33 : Stp (upd F_29 p_stock (.lst us_stock_5)) [stoO p c s_31] H_27 F_31 [stoO p c s_34] H_28 := by subst hx_s_34; exact s_33
          have r_base : R K F_31 v_base (eI base) := by subst hx_base; exact r_base
          have st := st.trans s_33
          have rc := rc.mono s_33.gr
          have r_saw := r_saw.mono s_33.gr
          have r_asks := r_asks.mono s_33.gr
          have r_rod := r_rod.mono s_33.gr
          have r_single := r_single.mono s_33.gr
          have r_most := r_most.mono s_33.gr
          have r_many_2 := r_many_2.mono s_33.gr
          have r_stock_7 := r_stock_7.mono s_33.gr
          show ZS _ _ [some (.ref a), some (.ref p), some v_saw, some v_single, some v_most, some v_many_2, some (.ref p_stock), z_k_2, z_length_2, some v_base, none, some v_asks, some v_rod] H_28 _
          have hf : law cs s = law_16 cs saw single stock_5 base asks rod s_34 := by subst hx_base; subst hx_s_34; exact hf
          have hbase : 1 ≤ base := by rw [hx_base]; exact pick_ge hst.2 hsg.1
          refine zs_forF (f := (law_L3 cs saw stock_5)) (b0 := s_34) st.ok PassesOwn.never rfl (zi_list (zn_ze (zn_lstt (enc := eI) (xs := ([base, (if (base - saw) > (1 : Int) then (base - saw) else (1 : Int)), (if ((base - saw) - (1 : Int)) > (1 : Int) then ((base - saw) - (1 : Int)) else (1 : Int)), (if (base / (2 : Int)) > (1 : Int) then (base / (2 : Int)) else (1 : Int)), single, (1 : Int)] : List Int)) (za_cons (ze_var 9 rfl r_base) (za_cons (ze_max2 rfl T.b_max ze_int (ze_sub (ze_var 9 rfl r_base) (ze_var 2 rfl r_saw))) (za_cons (ze_max2 rfl T.b_max ze_int (ze_sub (ze_sub (ze_var 9 rfl r_base) (ze_var 2 rfl r_saw)) ze_int)) (za_cons (ze_max2 rfl T.b_max ze_int (ze_fdivW (ze_var 9 rfl r_base) ze_int (by decide) (by decide))) (za_cons (ze_var 3 rfl r_single) (za_cons ze_int za_nil))))))))) (fun iq b σ F O => ∃ (z1 : Option V), σ = [some (.ref a), some (.ref p), some v_saw, some v_single, some v_most, some v_many_2, some (.ref p_stock), z_k_2, z_length_2, some v_base, z1, some v_asks, some v_rod] ∧ O = [stoO p c b] ∧ True) (fun F_38 H_34 s_43 => ⟨none, rfl, rfl, trivial⟩) (fun i_3 b_5 ask v_6 σ_6 F_32 F_33 O_7 H_29 ha_3 hbe_3 hz_3 rel_5 g_3 s_35 r_7 => ?_) (fun σ_7 F_35 O_8 H_31 s_40 rel_6 => ?_)
          · skip
            obtain ⟨s_36, rfl⟩ : ∃ z, z = b_5 := ⟨_, rfl⟩
            obtain ⟨z_ask, rfl, rfl, hinv_6⟩ := rel_5
            have st := st.trans s_35
            have rc := rc.mono s_35.gr
            have r_saw := r_saw.mono s_35.gr
            have r_asks := r_asks.mono s_35.gr
            have r_rod := r_rod.mono s_35.gr
            have r_single := r_single.mono s_35.gr
            have r_most := r_most.mono s_35.gr
            have r_many_2 := r_many_2.mono s_35.gr
            have r_stock_7 := r_stock_7.mono s_35.gr
            have r_base := r_base.mono s_35.gr
            have hlt_i_3 := (List.getElem?_eq_some_iff.mp ha_3).1
            have sb_3 : Stp F_33 [stoO p c s_36] H_29 F_33 [stoO p c s_36] H_29 := Stp.refl st.ok
            have hfb_3 : law_L3 cs saw stock_5 s_36 ask = law_L3b cs saw stock_5 s_36 ask := rfl
            refine zg_name (n := 10) sc.nd rfl (by first | exact Or.inl rfl | exact Or.inr rfl) ?_
            have hm := List.mem_of_getElem? ha_3
            simp only [List.mem_cons, List.not_mem_nil, or_false] at hm
            have hask : 1 ≤ ask := by rcases hm with h | h | h | h | h | h <;> (rw [h]; first | omega | (split <;> omega))
            show ZS _ _ [some (.ref a), some (.ref p), some v_saw, some v_single, some v_most, some v_many_2, some (.ref p_stock), z_k_2, z_length_2, some v_base, some v_6, some v_asks, some v_rod] H_29 _
            refine zs_ifF st.ok (zt_eq (zt_not (zt_val (ze_callS 1 0 (ok_askedL T) (hr.mono (by decide)) rfl rc (za_cons (ze_var 2 rfl r_saw) (za_cons (ze_var 6 rfl r_stock_7) (za_cons (ze_var 10 rfl r_7) za_nil))) rfl ⟨saw, stock_5, ask, rfl, (by /-18-/ exact ⟨hsw.1, hsw.2, hask, hsl⟩), rfl, rfl⟩))) (by simp)) fun F_34 H_30 s_37 => ?_
            obtain ⟨s_38, hx_s_38⟩ : ∃ z : Sto, z = (askedL cs s_36 saw stock_5 ask).2 := ⟨_, rfl⟩
            have s_37 : Stp F_33 [stoO p c s_36] H_29 F_34 [stoO p c s_38] H_30 := by subst hx_s_38; exact s_37
            have st := st.trans s_37
            have sb_3 := sb_3.trans s_37
            have rc := rc.mono s_37.gr
            have r_saw := r_saw.mono s_37.gr
            have r_asks := r_asks.mono s_37.gr
            have r_rod := r_rod.mono s_37.gr
            have r_single := r_single.mono s_37.gr
            have r_most := r_most.mono s_37.gr
            have r_many_2 := r_many_2.mono s_37.gr
            have r_stock_7 := r_stock_7.mono s_37.gr
            have r_base := r_base.mono s_37.gr
            have r_7 := r_7.mono s_37.gr
            have hfb_3 : law_L3 cs saw stock_5 s_36 ask = law_17 s_38 := by subst hx_s_38; exact hfb_3
            refine zs_nil ?_
            show ZS _ _ [some (.ref a), some (.ref p), some v_saw, some v_single, some v_most, some v_many_2, some (.ref p_stock), z_k_2, z_length_2, some v_base, some v_6, some v_asks, some v_rod] H_30 _
            refine zs_nil ?_
            exact ⟨_, _, sb_3, by (try rw [hfb_3]); exact ⟨some v_6, rfl, rfl, trivial⟩⟩
          · skip
            obtain ⟨b_6, hb_5⟩ : ∃ z : (Sto), z = List.foldl (law_L3 cs saw stock_5) s_34 ([base, (if (base - saw) > (1 : Int) then (base - saw) else (1 : Int)), (if ((base - saw) - (1 : Int)) > (1 : Int) then ((base - saw) - (1 : Int)) else (1 : Int)), (if (base / (2 : Int)) > (1 : Int) then (base / (2 : Int)) else (1 : Int)), single, (1 : Int)] : List Int) := ⟨_, rfl⟩
            try rw [← hb_5] at rel_6
            obtain ⟨s_39, rfl⟩ : ∃ z, z = b_6 := ⟨_, rfl⟩
            obtain ⟨z_ask_2, rfl, rfl, hinv_7⟩ := rel_6
            have st := st.trans s_40
            have rc := rc.mono s_40.gr
            have r_saw := r_saw.mono s_40.gr
            have r_asks := r_asks.mono s_40.gr
            have r_rod := r_rod.mono s_40.gr
            have r_single := r_single.mono s_40.gr
            have r_most := r_most.mono s_40.gr
            have r_many_2 := r_many_2.mono s_40.gr
            have r_stock_7 := r_stock_7.mono s_40.gr
            have r_base := r_base.mono s_40.gr
            have hf : law cs s = (law_18 cs saw asks rod) s_39 := by rw [hb_5]; exact hf
            show ZS _ _ [some (.ref a), some (.ref p), some v_saw, some v_single, some v_most, some v_many_2, some (.ref p_stock), z_k_2, z_length_2, some v_base, z_ask_2, some v_asks, some v_rod] H_31 _
            refine zs_ifF st.ok (zt_eq (zt_not (zt_val (ze_callD (ok_goodL T) (hr.mono (by decide)) (za_cons (ze_var 2 rfl r_saw) (za_cons (zn_ze (zn_lstt (enc := eI) (xs := ([(1 : Int), (2 : Int), (if saw > (1 : Int) then saw else (1 : Int)), (saw + (1 : Int)), (saw + (2 : Int)), (saw + (3 : Int)), single, base] : List Int)) (za_cons ze_int (za_cons ze_int (za_cons (ze_max2 rfl T.b_max ze_int (ze_var 2 rfl r_saw)) (za_cons (ze_add (ze_var 2 rfl r_saw) ze_int) (za_cons (ze_add (ze_var 2 rfl r_saw) ze_int) (za_cons (ze_add (ze_var 2 rfl r_saw) ze_int) (za_cons (ze_var 3 rfl r_single) (za_cons (ze_var 9 rfl r_base) za_nil)))))))))) za_nil)) ⟨saw, ([(1 : Int), (2 : Int), (if saw > (1 : Int) then saw else (1 : Int)), (saw + (1 : Int)), (saw + (2 : Int)), (saw + (3 : Int)), single, base] : List Int), rfl, (by /-19-/ first | (first | omega | (simp only [List.length_append, List.length_cons, List.length_nil, List.length_map, rangeI_length]; omega)) | (first | omega | (rw [← szL]; omega) | (simp only [List.length_append, List.length_cons, List.length_nil, List.length_map, rangeI_length, ← szL]; omega))), rfl⟩))) (by simp)) fun F_36 H_32 s_41 => ?_
            have s_41 : Stp F_35 [stoO p c s_39] H_31 F_36 [stoO p c s_39] H_32 := by exact s_41
            have st := st.trans s_41
            have rc := rc.mono s_41.gr
            have r_saw := r_saw.mono s_41.gr
            have r_asks := r_asks.mono s_41.gr
            have r_rod := r_rod.mono s_41.gr
            have r_single := r_single.mono s_41.gr
            have r_most := r_most.mono s_41.gr
            have r_many_2 := r_many_2.mono s_41.gr
            have r_stock_7 := r_stock_7.mono s_41.gr
            have r_base := r_base.mono s_41.gr
            refine zs_nil ?_
            show ZS _ _ [some (.ref a), some (.ref p), some v_saw, some v_single, some v_most, some v_many_2, some (.ref p_stock), z_k_2, z_length_2, some v_base, z_ask_2, some v_asks, some v_rod] H_32 _
            refine zs_ret st.ok (ze_callS 1 0 (ok_borneL T) (hr.mono (by decide)) rfl rc (za_cons (ze_var 2 rfl r_saw) (za_cons (ze_var 12 rfl r_rod) (za_cons (ze_var 11 rfl r_asks) za_nil))) rfl ⟨saw, rod, asks, rfl, (by /-20-/ exact ⟨hsw.1, hsw.2, hrod, hal, hax⟩), rfl, rfl⟩) fun v_7 F_37 H_33 s_42 r_8 => ?_
            rw [r_8.bl_inv]; exact q _
end ZL

end
section
set_option maxHeartbeats 0
namespace ZL
open PySem PySem.Spec PyProof.Rows L2
def d_mix : He.DefD := ⟨("_law_mix", none), "_law_mix", "_law_mix", defArgs (topS 11), defBody (topS 11), defScope (topS 11), [], []⟩
def d_mkStore : He.DefD := ⟨("_law_store", none), "_law_store", "_law_store", defArgs (topS 12), defBody (topS 12), defScope (topS 12), [], []⟩
def d_take : He.DefD := ⟨("_law_take", none), "_law_take", "_law_take", defArgs (topS 13), defBody (topS 13), defScope (topS 13), [], []⟩
def d_odds : He.DefD := ⟨("_law_odds", none), "_law_odds", "_law_odds", defArgs (topS 14), defBody (topS 14), defScope (topS 14), [], []⟩
def d_number : He.DefD := ⟨("_law_number", none), "_law_number", "_law_number", defArgs (topS 15), defBody (topS 15), defScope (topS 15), [], []⟩
def d_same : He.DefD := ⟨("_law_same", none), "_law_same", "_law_same", defArgs (topS 19), defBody (topS 19), defScope (topS 19), [], []⟩
def d_pick : He.DefD := ⟨("_law_pick", none), "_law_pick", "_law_pick", defArgs (topS 16), defBody (topS 16), defScope (topS 16), [], []⟩
def d_shuffleL : He.DefD := ⟨("_law_shuffle", none), "_law_shuffle", "_law_shuffle", defArgs (topS 17), defBody (topS 17), defScope (topS 17), [], []⟩
def d_yardL : He.DefD := ⟨("_law_yard", none), "_law_yard", "_law_yard", defArgs (topS 18), defBody (topS 18), defScope (topS 18), [], []⟩
def d_rod_picksP : He.DefD := ⟨("rod_picks", none), "rod_picks", "rod_picks", defArgs (topS 1), defBody (topS 1), defScope (topS 1), [], []⟩
def d_rod_restP : He.DefD := ⟨("rod_rest", none), "rod_rest", "rod_rest", defArgs (topS 2), defBody (topS 2), defScope (topS 2), [], []⟩
def d_rod_leaveP : He.DefD := ⟨("rod_leave", none), "rod_leave", "rod_leave", defArgs (topS 3), defBody (topS 3), defScope (topS 3), [], []⟩
def d_loadP : He.DefD := ⟨("load", none), "load", "load", defArgs (topS 4), defBody (topS 4), defScope (topS 4), [], []⟩
def d_bearsP : He.DefD := ⟨("bears", none), "bears", "bears", defArgs (topS 5), defBody (topS 5), defScope (topS 5), [], []⟩
def d_cut_rodP : He.DefD := ⟨("cut_rod", none), "cut_rod", "cut_rod", defArgs (topS 6), defBody (topS 6), defScope (topS 6), [], []⟩
def d_rod_beatsP : He.DefD := ⟨("rod_beats", none), "rod_beats", "rod_beats", defArgs (topS 7), defBody (topS 7), defScope (topS 7), [], []⟩
def d_rod_reasonP : He.DefD := ⟨("rod_reason", none), "rod_reason", "rod_reason", defArgs (topS 8), defBody (topS 8), defScope (topS 8), [], []⟩
def d_good_rodsP : He.DefD := ⟨("good_rods", none), "good_rods", "good_rods", defArgs (topS 9), defBody (topS 9), defScope (topS 9), [], []⟩
def d_lessL : He.DefD := ⟨("_law_less", none), "_law_less", "_law_less", defArgs (topS 20), defBody (topS 20), defScope (topS 20), [], []⟩
def d_stayL : He.DefD := ⟨("_law_stay", none), "_law_stay", "_law_stay", defArgs (topS 21), defBody (topS 21), defScope (topS 21), [], []⟩
def d_cut_allL : He.DefD := ⟨("_law_cut_all", none), "_law_cut_all", "_law_cut_all", defArgs (topS 22), defBody (topS 22), defScope (topS 22), [], []⟩
def d_asks_and_rodL : He.DefD := ⟨("_law_asks_and_rod", none), "_law_asks_and_rod", "_law_asks_and_rod", defArgs (topS 23), defBody (topS 23), defScope (topS 23), [], []⟩
def d_lay_twoL : He.DefD := ⟨("_law_lay_two", none), "_law_lay_two", "_law_lay_two", defArgs (topS 25), defBody (topS 25), defScope (topS 25), [], []⟩
def d_borneL : He.DefD := ⟨("_law_borne", none), "_law_borne", "_law_borne", defArgs (topS 24), defBody (topS 24), defScope (topS 24), [], []⟩
def d_lookL : He.DefD := ⟨("_law_look", none), "_law_look", "_law_look", defArgs (topS 26), defBody (topS 26), defScope (topS 26), [], []⟩
def d_askedL : He.DefD := ⟨("_law_asked", none), "_law_asked", "_law_asked", defArgs (topS 27), defBody (topS 27), defScope (topS 27), [], []⟩
def d_goodL : He.DefD := ⟨("_law_good", none), "_law_good", "_law_good", defArgs (topS 28), defBody (topS 28), defScope (topS 28), [], []⟩
def d_law : He.DefD := ⟨("law", none), "law", "law", defArgs (topS 29), defBody (topS 29), defScope (topS 29), [], []⟩
def hfn : List He.DefD := [d_mix, d_mkStore, d_take, d_odds, d_number, d_same, d_pick, d_shuffleL, d_yardL, d_rod_picksP, d_rod_restP, d_rod_leaveP, d_loadP, d_bearsP, d_cut_rodP, d_rod_beatsP, d_rod_reasonP, d_good_rodsP, d_lessL, d_stayL, d_cut_allL, d_asks_and_rodL, d_lay_twoL, d_borneL, d_lookL, d_askedL, d_goodL, d_law]
def hfa : List He.Fa := [.glo "_law_mix", .glo "_law_store", .glo "_law_take", .glo "_law_odds", .glo "_law_number", .glo "_law_same", .glo "_law_pick", .glo "_law_shuffle", .glo "_law_yard", .glo "rod_picks", .glo "rod_rest", .glo "rod_leave", .glo "load", .glo "bears", .glo "cut_rod", .glo "rod_beats", .glo "rod_reason", .glo "good_rods", .glo "_law_less", .glo "_law_stay", .glo "_law_cut_all", .glo "_law_asks_and_rod", .glo "_law_lay_two", .glo "_law_borne", .glo "_law_look", .glo "_law_asked", .glo "_law_good", .glo "law", .free "abs", .free "all", .free "bool", .free "int", .free "isinstance", .free "len", .free "list", .free "max", .free "min", .free "range", .free "reversed", .free "set", .free "sorted", .free "str", .free "sum", .free "tuple"]
abbrev hR : PySem.W.OpenRow := PySem.W.OpenLaw.row PySem.Challenge.rw_flushends_k11_rods_cut_in_every_order
abbrev hhk : PySem.W.Hook := He.hookD 4 hfa hfn
def hob (s : PySem.W.SharedT) : He.AlD := He.obsDG 4 hfa hfn (HandSHeadRun.getT s)
theorem hob_eq (s : PySem.W.SharedT) : hob s = hhk.obs s.abs := He.obsDG_eq (HandSHeadRun.getT_eq s)
abbrev loose0 : List Str := ["rod_picks", "rod_rest", "rod_leave", "load", "bears", "cut_rod", "rod_beats", "rod_reason", "good_rods", "_law_mix", "_law_store", "_law_take", "_law_odds", "_law_number", "_law_pick", "_law_shuffle", "_law_yard", "_law_same", "_law_less", "_law_stay", "_law_cut_all", "_law_asks_and_rod", "_law_borne", "_law_lay_two", "_law_look", "_law_asked", "_law_good"]
theorem hrun (w : World) : HandSHeadRun.RunEq hR (PySem.W.view hR.prog [29]) hhk hob 2000 ["rod_picks", "rod_rest", "rod_leave", "load", "bears", "cut_rod", "rod_beats", "rod_reason", "good_rods", "_law_mix", "_law_store", "_law_take", "_law_odds", "_law_number", "_law_pick", "_law_shuffle", "_law_yard", "_law_same", "_law_less", "_law_stay", "_law_cut_all", "_law_asks_and_rod", "_law_borne", "_law_lay_two", "_law_look", "_law_asked", "_law_good"] w := by
  intro os
  kernel_rfl
theorem hfacts {P : Program} {w : World} {K : PySem.W.Frag} {h : Heap} {mg : Str → Option Value} {f : Addr} (X : K.In h) (G : h.Ns mainGlobals mg) (hf : mg ("law" : Str) = some (.ref f)) (c : He.SaysD hfa hfn K) :
    ∃ fd : FuncData, (∀ (s : Shared) (v : Value), BindsTo s fd ⟨[v], []⟩ [("script", v)]) ∧ ∀ base : Heap, K.In base → base.Ns mainGlobals mg → FnOk P w K mg base CX0 6 f fd ["script"] (Z.spLaw K) := by
  have T : Top K mg := {
    f_mix := by obtain ⟨fd, F⟩ := c.def_ 0 (d := d_mix) rfl; exact ⟨_, fd, F, He.glo_ok X G (c.fact 0 (f := .glo "_law_mix") rfl)⟩
    f_mkStore := by obtain ⟨fd, F⟩ := c.def_ 1 (d := d_mkStore) rfl; exact ⟨_, fd, F, He.glo_ok X G (c.fact 1 (f := .glo "_law_store") rfl)⟩
    f_take := by obtain ⟨fd, F⟩ := c.def_ 2 (d := d_take) rfl; exact ⟨_, fd, F, He.glo_ok X G (c.fact 2 (f := .glo "_law_take") rfl)⟩
    f_odds := by obtain ⟨fd, F⟩ := c.def_ 3 (d := d_odds) rfl; exact ⟨_, fd, F, He.glo_ok X G (c.fact 3 (f := .glo "_law_odds") rfl)⟩
    f_number := by obtain ⟨fd, F⟩ := c.def_ 4 (d := d_number) rfl; exact ⟨_, fd, F, He.glo_ok X G (c.fact 4 (f := .glo "_law_number") rfl)⟩
    f_same := by obtain ⟨fd, F⟩ := c.def_ 5 (d := d_same) rfl; exact ⟨_, fd, F, He.glo_ok X G (c.fact 5 (f := .glo "_law_same") rfl)⟩
    f_pick := by obtain ⟨fd, F⟩ := c.def_ 6 (d := d_pick) rfl; exact ⟨_, fd, F, He.glo_ok X G (c.fact 6 (f := .glo "_law_pick") rfl)⟩
    f_shuffleL := by obtain ⟨fd, F⟩ := c.def_ 7 (d := d_shuffleL) rfl; exact ⟨_, fd, F, He.glo_ok X G (c.fact 7 (f := .glo "_law_shuffle") rfl)⟩
    f_yardL := by obtain ⟨fd, F⟩ := c.def_ 8 (d := d_yardL) rfl; exact ⟨_, fd, F, He.glo_ok X G (c.fact 8 (f := .glo "_law_yard") rfl)⟩
    f_rod_picksP := by obtain ⟨fd, F⟩ := c.def_ 9 (d := d_rod_picksP) rfl; exact ⟨_, fd, F, He.glo_ok X G (c.fact 9 (f := .glo "rod_picks") rfl)⟩
    f_rod_restP := by obtain ⟨fd, F⟩ := c.def_ 10 (d := d_rod_restP) rfl; exact ⟨_, fd, F, He.glo_ok X G (c.fact 10 (f := .glo "rod_rest") rfl)⟩
    f_rod_leaveP := by obtain ⟨fd, F⟩ := c.def_ 11 (d := d_rod_leaveP) rfl; exact ⟨_, fd, F, He.glo_ok X G (c.fact 11 (f := .glo "rod_leave") rfl)⟩
    f_loadP := by obtain ⟨fd, F⟩ := c.def_ 12 (d := d_loadP) rfl; exact ⟨_, fd, F, He.glo_ok X G (c.fact 12 (f := .glo "load") rfl)⟩
    f_bearsP := by obtain ⟨fd, F⟩ := c.def_ 13 (d := d_bearsP) rfl; exact ⟨_, fd, F, He.glo_ok X G (c.fact 13 (f := .glo "bears") rfl)⟩
    f_cut_rodP := by obtain ⟨fd, F⟩ := c.def_ 14 (d := d_cut_rodP) rfl; exact ⟨_, fd, F, He.glo_ok X G (c.fact 14 (f := .glo "cut_rod") rfl)⟩
    f_rod_beatsP := by obtain ⟨fd, F⟩ := c.def_ 15 (d := d_rod_beatsP) rfl; exact ⟨_, fd, F, He.glo_ok X G (c.fact 15 (f := .glo "rod_beats") rfl)⟩
    f_rod_reasonP := by obtain ⟨fd, F⟩ := c.def_ 16 (d := d_rod_reasonP) rfl; exact ⟨_, fd, F, He.glo_ok X G (c.fact 16 (f := .glo "rod_reason") rfl)⟩
    f_good_rodsP := by obtain ⟨fd, F⟩ := c.def_ 17 (d := d_good_rodsP) rfl; exact ⟨_, fd, F, He.glo_ok X G (c.fact 17 (f := .glo "good_rods") rfl)⟩
    f_lessL := by obtain ⟨fd, F⟩ := c.def_ 18 (d := d_lessL) rfl; exact ⟨_, fd, F, He.glo_ok X G (c.fact 18 (f := .glo "_law_less") rfl)⟩
    f_stayL := by obtain ⟨fd, F⟩ := c.def_ 19 (d := d_stayL) rfl; exact ⟨_, fd, F, He.glo_ok X G (c.fact 19 (f := .glo "_law_stay") rfl)⟩
    f_cut_allL := by obtain ⟨fd, F⟩ := c.def_ 20 (d := d_cut_allL) rfl; exact ⟨_, fd, F, He.glo_ok X G (c.fact 20 (f := .glo "_law_cut_all") rfl)⟩
    f_asks_and_rodL := by obtain ⟨fd, F⟩ := c.def_ 21 (d := d_asks_and_rodL) rfl; exact ⟨_, fd, F, He.glo_ok X G (c.fact 21 (f := .glo "_law_asks_and_rod") rfl)⟩
    f_lay_twoL := by obtain ⟨fd, F⟩ := c.def_ 22 (d := d_lay_twoL) rfl; exact ⟨_, fd, F, He.glo_ok X G (c.fact 22 (f := .glo "_law_lay_two") rfl)⟩
    f_borneL := by obtain ⟨fd, F⟩ := c.def_ 23 (d := d_borneL) rfl; exact ⟨_, fd, F, He.glo_ok X G (c.fact 23 (f := .glo "_law_borne") rfl)⟩
    f_lookL := by obtain ⟨fd, F⟩ := c.def_ 24 (d := d_lookL) rfl; exact ⟨_, fd, F, He.glo_ok X G (c.fact 24 (f := .glo "_law_look") rfl)⟩
    f_askedL := by obtain ⟨fd, F⟩ := c.def_ 25 (d := d_askedL) rfl; exact ⟨_, fd, F, He.glo_ok X G (c.fact 25 (f := .glo "_law_asked") rfl)⟩
    f_goodL := by obtain ⟨fd, F⟩ := c.def_ 26 (d := d_goodL) rfl; exact ⟨_, fd, F, He.glo_ok X G (c.fact 26 (f := .glo "_law_good") rfl)⟩
    f_law := by obtain ⟨fd, F⟩ := c.def_ 27 (d := d_law) rfl; exact ⟨_, fd, F, He.glo_ok X G (c.fact 27 (f := .glo "law") rfl)⟩
    b_abs := He.free_ok X G (c.fact 28 (f := .free "abs") rfl)
    b_all := He.free_ok X G (c.fact 29 (f := .free "all") rfl)
    b_bool := He.free_ok X G (c.fact 30 (f := .free "bool") rfl)
    b_int := He.free_ok X G (c.fact 31 (f := .free "int") rfl)
    b_isinstance := He.free_ok X G (c.fact 32 (f := .free "isinstance") rfl)
    b_len := He.free_ok X G (c.fact 33 (f := .free "len") rfl)
    b_list := He.free_ok X G (c.fact 34 (f := .free "list") rfl)
    b_max := He.free_ok X G (c.fact 35 (f := .free "max") rfl)
    b_min := He.free_ok X G (c.fact 36 (f := .free "min") rfl)
    b_range := He.free_ok X G (c.fact 37 (f := .free "range") rfl)
    b_reversed := He.free_ok X G (c.fact 38 (f := .free "reversed") rfl)
    b_set := He.free_ok X G (c.fact 39 (f := .free "set") rfl)
    b_sorted := He.free_ok X G (c.fact 40 (f := .free "sorted") rfl)
    b_str := He.free_ok X G (c.fact 41 (f := .free "str") rfl)
    b_sum := He.free_ok X G (c.fact 42 (f := .free "sum") rfl)
    b_tuple := He.free_ok X G (c.fact 43 (f := .free "tuple") rfl) }
  obtain ⟨fd, F⟩ := c.def_ 27 (d := d_law) rfl
  have e := hf.symm.trans (He.glo_ok X G (c.fact 27 (f := .glo "law") rfl))
  cases e
  have b := FunD.bindsA (ps := ["script"]) F fun _ _ _ _ _ _ us hl => match us, hl with | [_], _ => rfl
  exact ⟨fd, fun s v => b s [v] rfl, fun base _ _ => ok_law T F⟩
end ZL
open PySem PySem.W PySem.Calls PyProof.Rows
theorem PySem.Challenge.cw_flushends_k11_rods_cut_in_every_order_holds : PySem.Challenge.rw_flushends_k11_rods_cut_in_every_order.Holds := by
  w_on; o_law
  refine HandSHeadRun.head_any (r := OpenLaw.row PySem.Challenge.rw_flushends_k11_rods_cut_in_every_order) (q := view (OpenLaw.row PySem.Challenge.rw_flushends_k11_rods_cut_in_every_order).prog [29]) (H := ZL.hhk) (ob := ZL.hob) (M := 2000) (loose := ["rod_picks", "rod_rest", "rod_leave", "load", "bears", "cut_rod", "rod_beats", "rod_reason", "good_rods", "_law_mix", "_law_store", "_law_take", "_law_odds", "_law_number", "_law_pick", "_law_shuffle", "_law_yard", "_law_same", "_law_less", "_law_stay", "_law_cut_all", "_law_asks_and_rod", "_law_borne", "_law_lay_two", "_law_look", "_law_asked", "_law_good"]) (d := HandSHeadRun.topDef (OpenLaw.row PySem.Challenge.rw_flushends_k11_rods_cut_in_every_order).prog 29) (kwd := []) ZL.hob_eq
    (by kernel_rfl) (fun s => by kernel_rfl) ZL.hrun (by kernel_rfl) (by kernel_rfl) (by kernel_rfl) (by rfl) (by first | assumption | decide +kernel) (by decide +kernel) ⟨rfl, rfl, rfl, rfl, rfl, by decide +kernel⟩ ?hw ?hc
  case hw => w_witness2
  case hc =>
    refine L2.walk_ofE (l := PySem.Challenge.rw_flushends_k11_rods_cut_in_every_order) (n := 63) (k := 6) (x := "script") (CX := L2.CX0) rfl (by decide) (by kernel_rfl) ⟨rfl, by decide, by decide⟩ ?F (fun _ _ _ _ z => z)
    intro w mg fa h Y G hmg0
    obtain ⟨K, KX, c⟩ := Y
    have hmg : mg ("law" : PySem.Str) = some (.ref fa) := by
      have e : (HandSHeadRun.topDef (OpenLaw.row PySem.Challenge.rw_flushends_k11_rods_cut_in_every_order).prog 29).name = ("law" : PySem.Str) := by kernel_rfl
      rw [← e]
      exact hmg0
    obtain ⟨fd, hb, hF⟩ := ZL.hfacts (P := (PySem.Challenge.rw_flushends_k11_rods_cut_in_every_order).prog) (w := w) KX G hmg c
    exact ⟨K, fd, Z.spLaw K, KX, hb, fun H a ns hl _ hS => ⟨a, ns, rfl, hl, hS, fun _ => rfl⟩, hF⟩

end
