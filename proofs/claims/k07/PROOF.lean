import PyProof.Rows.All
import Wide.All
import OpenK.AllK
import Wide.FinOn
import HandS.ForMost
import HandS.Wide
import HandS.SortInts
import HandS.Defaults
import HandS.IsInst
import HandS.SortRule
import HandS.Conv
import HandS.SetFor
import KE.KStateDown
import Lean
import HandS.Base
import HandS.Call
import HandS.Ends
import HandS.More
import HandS.Words
import HandS.WordsExc
import HandS.Head0
import HandS.Head1
import HandS.Head2
import HandS.HeadEnd
import HandS.HeadHook1
import HandS.HeadHook2
import PySem.Challenge.RW_flushends_k07_runs_of_legs
set_option Elab.async false
set_option linter.all false
set_option maxRecDepth 100000
section
namespace Z
open PySem PySem.Spec PyProof.Rows L2

/-! ### data in a part of the heap that stays -/
inductive R (K : PySem.W.Frag) (F : Hp) : V → PyData → Prop
  | non : R K F .non .none
  | bl (b : Bool) : R K F (.bl b) (.bool b)
  | int (i : Int) : R K F (.int i) (.int i)
  | str (x : Str) : R K F (.str x) (.str x)
  | lst {a : Addr} {vs : List V} {ds : List PyData} : F a = some (.lst vs) → vs.length = ds.length → (∀ (i : Nat) v d, vs[i]? = some v → ds[i]? = some d → R K F v d) → R K F (.ref a) (.list ds)
  | tup {a : Addr} {vs : List V} {ds : List PyData} : F a = some (.tup vs) → vs.length = ds.length → (∀ (i : Nat) v d, vs[i]? = some v → ds[i]? = some d → R K F v d) → R K F (.ref a) (.tuple ds)
structure RA (K : PySem.W.Frag) (F : Hp) (vs : List V) (ds : List PyData) : Prop where
  len : vs.length = ds.length
  at_ : ∀ (i : Nat) v d, vs[i]? = some v → ds[i]? = some d → R K F v d
def Gr (F F' : Hp) : Prop := ∀ b o, F b = some o → F' b = some o
abbrev Own := List (Addr × HO)
def keys (O : Own) : List Addr := O.map (·.1)
section
variable {K : PySem.W.Frag} {F F' F1 F2 F3 H H' H1 H2 : Hp} {v : V} {d : PyData} {a p : Addr} {vs : List V} {ds : List PyData} {O O' O1 O2 : Own} {o o' : HO}
theorem Gr.refl : Gr F F := fun _ _ h => h
theorem Gr.trans (x : Gr F F1) (y : Gr F1 F2) : Gr F F2 := fun b o h => y b o (x b o h)
theorem Gr.sqT (g : Gr F F') (h : SqT K F a vs) : SqT K F' a vs := by
  rcases h with (h | ⟨o, h⟩) | h
  · exact .inl (.inl (g _ _ h))
  · exact .inl (.inr ⟨o, g _ _ h⟩)
  · exact .inr h
theorem Gr.sqL (g : Gr F F') (h : SqL K F a vs) : SqL K F' a vs := by
  rcases h with (h | ⟨o, h⟩) | h
  · exact .inl (.inl (g _ _ h))
  · exact .inl (.inr ⟨o, g _ _ h⟩)
  · exact .inr h
theorem R.mono (h : R K F v d) (g : Gr F F') : R K F' v d := by
  induction h with
  | non => exact .non
  | bl b => exact .bl b
  | int i => exact .int i
  | str x => exact .str x
  | lst h l _ ih => exact .lst (g _ _ h) l ih
  | tup h l _ ih => exact .tup (g _ _ h) l ih
theorem RA.mono (h : RA K F vs ds) (g : Gr F F') : RA K F' vs ds := ⟨h.len, fun i v d a b => (h.at_ i v d a b).mono g⟩
theorem RA.lst (h : RA K F vs ds) (e : F a = some (.lst vs)) : R K F (.ref a) (.list ds) := .lst e h.len h.at_
theorem RA.tup (h : RA K F vs ds) (e : F a = some (.tup vs)) : R K F (.ref a) (.tuple ds) := .tup e h.len h.at_
theorem R.lst_inv (h : R K F v (.list ds)) : ∃ a vs, v = .ref a ∧ F a = some (.lst vs) ∧ RA K F vs ds := by
  cases h with
  | lst e l x => exact ⟨_, _, rfl, e, l, x⟩
theorem R.tupH_inv (h : R K F v (.tuple ds)) : ∃ a vs, v = .ref a ∧ F a = some (.tup vs) ∧ RA K F vs ds := by
  cases h with
  | tup e l x => exact ⟨_, _, rfl, e, l, x⟩
theorem R.tup_inv (h : R K F v (.tuple ds)) : ∃ a vs, v = .ref a ∧ SqT K F a vs ∧ RA K F vs ds := by
  cases h with
  | tup e l x => exact ⟨_, _, rfl, .inl (.inl e), l, x⟩
theorem R.int_inv {i : Int} (h : R K F v (.int i)) : v = .int i := by cases h; rfl
theorem R.str_inv {i : Str} (h : R K F v (.str i)) : v = .str i := by cases h; rfl
theorem R.bl_inv {i : Bool} (h : R K F v (.bool i)) : v = .bl i := by cases h; rfl
theorem R.non_inv (h : R K F v .none) : v = .non := by cases h; rfl
theorem RA.nil : RA K F [] [] := ⟨rfl, fun i v d h => by simp at h⟩
theorem RA.cons (h : R K F v d) (t : RA K F vs ds) : RA K F (v :: vs) (d :: ds) := ⟨by simp [t.len], fun i w e a b => by
  cases i with
  | zero => simp at a b; subst a b; exact h
  | succ i => exact t.at_ i w e (by simpa using a) (by simpa using b)⟩
theorem RA.app {ws : List V} {es : List PyData} (h : RA K F vs ds) (t : RA K F ws es) : RA K F (vs ++ ws) (ds ++ es) := ⟨by simp [t.len, h.len], fun i w e a b => by
  by_cases hi : i < vs.length
  · rw [List.getElem?_append_left hi] at a
    rw [List.getElem?_append_left (by rw [← h.len]; exact hi)] at b
    exact h.at_ i w e a b
  · rw [List.getElem?_append_right (by omega)] at a
    rw [List.getElem?_append_right (by rw [← h.len]; omega)] at b
    rw [← h.len] at b
    exact t.at_ _ w e a b⟩
theorem RA.snoc (h : RA K F vs ds) (t : R K F v d) : RA K F (vs ++ [v]) (ds ++ [d]) := h.app (.cons t .nil)
theorem RA.get {i : Nat} (h : RA K F vs ds) (e : ds[i]? = some d) : ∃ v, vs[i]? = some v ∧ R K F v d := by
  obtain ⟨hi, _⟩ := List.getElem?_eq_some_iff.mp e
  have hv : i < vs.length := by rw [h.len]; exact hi
  exact ⟨vs[i], List.getElem?_eq_getElem hv, h.at_ i _ d (List.getElem?_eq_getElem hv) e⟩
theorem RA.get' {i : Nat} (h : RA K F vs ds) (e : vs[i]? = some v) : ∃ d, ds[i]? = some d ∧ R K F v d := by
  obtain ⟨hi, _⟩ := List.getElem?_eq_some_iff.mp e
  have hv : i < ds.length := by rw [← h.len]; exact hi
  exact ⟨ds[i], List.getElem?_eq_getElem hv, h.at_ i v _ e (List.getElem?_eq_getElem hv)⟩
theorem RA.cons_inv (h : RA K F vs (d :: ds)) : ∃ v ws, vs = v :: ws ∧ R K F v d ∧ RA K F ws ds := by
  cases vs with
  | nil => have := h.len; simp at this
  | cons v ws => exact ⟨v, ws, rfl, h.at_ 0 v d rfl rfl, by have := h.len; simpa using this, fun i w e a b => h.at_ (i + 1) w e (by simpa using a) (by simpa using b)⟩
theorem RA.nil_inv (h : RA K F vs []) : vs = [] := by
  have := h.len
  simpa using this
theorem RA.take {n : Nat} (h : RA K F vs ds) : RA K F (vs.take n) (ds.take n) := ⟨by simp [h.len], fun i w e a b => by
  rw [List.getElem?_take] at a b
  split at a
  · rename_i hi
    rw [if_pos hi] at b
    exact h.at_ i w e a b
  · cases a⟩
theorem RA.drop {n : Nat} (h : RA K F vs ds) : RA K F (vs.drop n) (ds.drop n) := ⟨by simp [h.len], fun i w e a b => by
  rw [List.getElem?_drop] at a b
  exact h.at_ _ w e a b⟩
theorem RA.rev (h : RA K F vs ds) : RA K F vs.reverse ds.reverse := ⟨by simp [h.len], fun i w e a b => by
  have hi : i < vs.reverse.length := (List.getElem?_eq_some_iff.mp a).1
  rw [List.length_reverse] at hi
  rw [List.getElem?_reverse hi] at a
  rw [List.getElem?_reverse (by rw [← h.len]; exact hi)] at b
  rw [← h.len] at b
  exact h.at_ _ w e a b⟩
theorem RA.set {n : Nat} (h : RA K F vs ds) (t : R K F v d) : RA K F (vs.set n v) (ds.set n d) := ⟨by simp [h.len], fun i w e a b => by
  rw [List.getElem?_set] at a b
  split at a
  · rename_i hi
    rw [if_pos hi, ← h.len] at b
    split at a
    · rename_i h2
      rw [if_pos h2] at b
      cases a; cases b; exact t
    · cases a
  · rename_i hi
    rw [if_neg hi] at b
    exact h.at_ i w e a b⟩
theorem RA.dropLast (h : RA K F vs ds) : RA K F vs.dropLast ds.dropLast := by
  rw [List.dropLast_eq_take, List.dropLast_eq_take, h.len]
  exact h.take
theorem RA.eraseIdx {n : Nat} (h : RA K F vs ds) : RA K F (vs.eraseIdx n) (ds.eraseIdx n) := by
  rw [List.eraseIdx_eq_take_drop_succ, List.eraseIdx_eq_take_drop_succ]
  exact h.take.app h.drop
theorem dpAll_of : ∀ {vs : List V} {ds : List PyData}, vs.length = ds.length → (∀ (i : Nat) v d, vs[i]? = some v → ds[i]? = some d → Dp K H v d) → DpAll K H vs ds
  | [], [], _, _ => .nil
  | v :: vs, d :: ds, l, h => .cons (h 0 v d rfl rfl) (dpAll_of (by simpa using l) fun i w e a b => h (i + 1) w e (by simpa using a) (by simpa using b))
theorem R.dp (h : R K F v d) (g : Gr F H) : Dp K H v d := by
  induction h with
  | non => exact .non
  | bl b => exact .bl b
  | int i => exact .int i
  | str x => exact .str x
  | lst h l _ ih => exact .lst (.inl (.inl (g _ _ h))) (dpAll_of l ih)
  | tup h l _ ih => exact .tup (.inl (.inl (g _ _ h))) (dpAll_of l ih)

/-! ### the heap: what stays (F), what is mine (O) -/
structure WOk (F : Hp) (O : Own) (H : Hp) : Prop where
  sub : Gr F H
  own : ∀ p ∈ O, H p.1 = some p.2 ∧ F p.1 = none
  nd : (keys O).Nodup
  sz : ∀ a xs, F a = some (.lst xs) → xs.length ≤ sizeLine
  szo : ∀ p ∈ O, ∀ xs, p.2 = .lst xs → xs.length ≤ sizeLine
structure Stp (F : Hp) (O : Own) (H F' : Hp) (O' : Own) (H' : Hp) : Prop where
  ok : WOk F' O' H'
  gr : Gr F F'
  keep : ∀ b o, H b = some o → b ∉ keys O → H' b = some o
  fr : ∀ b o, F' b = some o → F b = some o ∨ H b = none
  ky : ∀ b ∈ keys O', b ∈ keys O ∨ H b = none
  dom : ∀ b, H b ≠ none → H' b ≠ none
theorem Stp.refl (w : WOk F O H) : Stp F O H F O H := ⟨w, Gr.refl, fun _ _ h _ => h, fun _ _ h => .inl h, fun _ h => .inl h, fun _ h => h⟩
theorem Stp.trans (x : Stp F O H F1 O1 H1) (y : Stp F1 O1 H1 F2 O2 H2) : Stp F O H F2 O2 H2 where
  ok := y.ok
  gr := x.gr.trans y.gr
  keep := fun b o h n => y.keep b o (x.keep b o h n) fun hb => by
    rcases x.ky b hb with q | q
    · exact n q
    · rw [q] at h; cases h
  fr := fun b o h => by
    rcases y.fr b o h with q | q
    · exact x.fr b o q
    · refine .inr ?_
      cases e : H b with
      | none => rfl
      | some u => exact absurd q (x.dom b (by rw [e]; simp))
  ky := fun b hb => by
    rcases y.ky b hb with q | q
    · exact x.ky b q
    · refine .inr ?_
      cases e : H b with
      | none => rfl
      | some u => exact absurd q (x.dom b (by rw [e]; simp))
  dom := fun b h => y.dom b (x.dom b h)
theorem WOk.at_ (w : WOk F O H) {k : Nat} (h : O[k]? = some (a, o)) : H a = some o ∧ F a = none := w.own (a, o) (List.mem_of_getElem? h)
theorem WOk.key (w : WOk F O H) {k : Nat} (h : O[k]? = some (a, o)) : a ∈ keys O := List.mem_map.mpr ⟨(a, o), List.mem_of_getElem? h, rfl⟩
theorem WOk.new (w : WOk F O H) (h : H p = none) : F p = none := by
  cases e : F p with
  | none => rfl
  | some u => rw [w.sub p u e] at h; cases h
theorem WOk.newK (w : WOk F O H) (h : H p = none) : p ∉ keys O := fun hp => by
  obtain ⟨q, hq, rfl⟩ := List.mem_map.mp hp
  rw [(w.own q hq).1] at h; cases h
def szOk : HO → Prop
  | .lst xs => xs.length ≤ sizeLine
  | _ => True
theorem Stp.alloc (w : WOk F O H) (h : H p = none) (hs : szOk o) : Stp F O H F ((p, o) :: O) (upd H p o) where
  ok := {
    sub := fun b u e => by rw [upd_ne (ne_of_none (w.sub b u e) h)]; exact w.sub b u e
    own := fun q hq => by
      rcases List.mem_cons.mp hq with rfl | hq
      · exact ⟨upd_same, w.new h⟩
      · rw [upd_ne (ne_of_none (w.own q hq).1 h)]; exact w.own q hq
    nd := by
      show (p :: keys O).Nodup
      exact List.nodup_cons.mpr ⟨w.newK h, w.nd⟩
    sz := w.sz
    szo := fun q hq xs e => by
      rcases List.mem_cons.mp hq with rfl | hq
      · have e : o = .lst xs := e
        subst e; exact hs
      · exact w.szo q hq xs e }
  gr := Gr.refl
  keep := fun b u e _ => by rw [upd_ne (ne_of_none e h)]; exact e
  fr := fun _ _ e => .inl e
  ky := fun b hb => by
    rcases List.mem_cons.mp hb with rfl | hb
    · exact .inr h
    · exact .inl hb
  dom := fun b e => by
    by_cases hb : b = p
    · rw [hb] at e; exact absurd h e
    · rw [upd_ne hb]; exact e
/-- what is mine and new becomes what stays -/
theorem Stp.freeze (x : Stp F O H F' ((p, o) :: O') H') (h : H p = none) : Stp F O H (upd F' p o) O' H' where
  ok := {
    sub := fun b u e => by
      by_cases hb : b = p
      · subst hb
        rw [upd_same] at e; cases e
        exact (x.ok.own (b, o) List.mem_cons_self).1
      · rw [upd_ne hb] at e; exact x.ok.sub b u e
    own := fun q hq => by
      have nd := x.ok.nd
      have hq' := x.ok.own q (List.mem_cons_of_mem _ hq)
      refine ⟨hq'.1, ?_⟩
      have : q.1 ≠ p := fun e => by
        have nd : (p :: keys O').Nodup := nd
        exact (List.nodup_cons.mp nd).1 (List.mem_map.mpr ⟨q, hq, e⟩)
      rw [upd_ne this]; exact hq'.2
    nd := by
      have nd : (p :: keys O').Nodup := x.ok.nd
      exact (List.nodup_cons.mp nd).2
    sz := fun b xs e => by
      by_cases hb : b = p
      · subst hb
        rw [upd_same] at e; cases e
        exact x.ok.szo (b, .lst xs) List.mem_cons_self xs rfl
      · rw [upd_ne hb] at e; exact x.ok.sz b xs e
    szo := fun q hq => x.ok.szo q (List.mem_cons_of_mem _ hq) }
  gr := fun b u e => by
    have hb : b ≠ p := fun z => by
      subst z
      rw [(x.ok.own (b, o) List.mem_cons_self).2.symm] at *
      have := x.gr b u e
      rw [(x.ok.own (b, o) List.mem_cons_self).2] at this; cases this
    rw [upd_ne hb]; exact x.gr b u e
  keep := x.keep
  fr := fun b u e => by
    by_cases hb : b = p
    · subst hb; exact .inr h
    · rw [upd_ne hb] at e; exact x.fr b u e
  ky := fun b hb => x.ky b (List.mem_cons_of_mem _ hb)
  dom := x.dom
/-- what is mine is let go -/
theorem Stp.drop (x : Stp F O H F' ((p, o) :: O') H') : Stp F O H F' O' H' where
  ok := ⟨x.ok.sub, fun q hq => x.ok.own q (List.mem_cons_of_mem _ hq), by
    have nd : (p :: keys O').Nodup := x.ok.nd
    exact (List.nodup_cons.mp nd).2, x.ok.sz, fun q hq => x.ok.szo q (List.mem_cons_of_mem _ hq)⟩
  gr := x.gr
  keep := x.keep
  fr := x.fr
  ky := fun b hb => x.ky b (List.mem_cons_of_mem _ hb)
  dom := x.dom
theorem keys_set {O : Own} {k : Nat} (h : O[k]? = some (a, o)) : keys (O.set k (a, o')) = keys O := by
  unfold keys
  rw [List.map_set]
  apply List.ext_getElem?
  intro i
  rw [List.getElem?_set]
  split
  · rename_i e
    subst e
    obtain ⟨hi, e2⟩ := List.getElem?_eq_some_iff.mp h
    rw [if_pos (by simpa using hi), List.getElem?_map, h]; rfl
  · rfl
theorem Stp.write (w : WOk F O H) {k : Nat} (h : O[k]? = some (a, o)) (hs : szOk o') : Stp F O H F (O.set k (a, o')) (upd H a o') where
  ok := {
    sub := fun b u e => by
      have hb : b ≠ a := fun z => by subst z; rw [(w.at_ h).2] at e; cases e
      rw [upd_ne hb]; exact w.sub b u e
    own := fun q hq => by
      obtain ⟨i, hi⟩ := List.mem_iff_getElem?.mp hq
      rw [List.getElem?_set] at hi
      split at hi
      · rename_i e
        split at hi
        · cases hi
          exact ⟨upd_same, (w.at_ h).2⟩
        · cases hi
      · rename_i e
        have hne : q.1 ≠ a := fun z => by
          have nd := w.nd
          have h1 : (keys O)[k]? = some a := by unfold keys; rw [List.getElem?_map, h]; rfl
          have h2 : (keys O)[i]? = some a := by unfold keys; rw [List.getElem?_map, hi]; simp [z]
          obtain ⟨l1, g1⟩ := List.getElem?_eq_some_iff.mp h1
          obtain ⟨l2, g2⟩ := List.getElem?_eq_some_iff.mp h2
          exact e ((List.getElem_inj nd).mp (g1.trans g2.symm))
        have hq' := w.own q (List.mem_of_getElem? hi)
        rw [upd_ne hne]; exact hq'
    nd := by rw [keys_set h]; exact w.nd
    sz := w.sz
    szo := fun q hq xs e => by
      obtain ⟨i, hi⟩ := List.mem_iff_getElem?.mp hq
      rw [List.getElem?_set] at hi
      split at hi
      · split at hi
        · cases hi
          have e : o' = .lst xs := e
          subst e; exact hs
        · cases hi
      · exact w.szo q (List.mem_of_getElem? hi) xs e }
  gr := Gr.refl
  keep := fun b u e n => by
    have hb : b ≠ a := fun z => by subst z; exact n (w.key h)
    rw [upd_ne hb]; exact e
  fr := fun _ _ e => .inl e
  ky := fun b hb => by rw [keys_set h] at hb; exact .inl hb
  dom := fun b e => by
    by_cases hb : b = a
    · subst hb; rw [upd_same]; simp
    · rw [upd_ne hb]; exact e
/-- a callee that sees less of what is mine -/
theorem WOk.less (w : WOk F O H) : WOk F [] H := ⟨w.sub, (fun _ h => nomatch h), List.nodup_nil, w.sz, (fun _ h => nomatch h)⟩
theorem Stp.more (w : WOk F O H) (x : Stp F [] H F' O' H') : Stp F O H F' (O' ++ O) H' where
  ok := {
    sub := x.ok.sub
    own := fun q hq => by
      rcases List.mem_append.mp hq with hq | hq
      · exact x.ok.own q hq
      · obtain ⟨e, n⟩ := w.own q hq
        refine ⟨x.keep _ _ e (by intro z; cases z), ?_⟩
        cases r : F' q.1 with
        | none => rfl
        | some u =>
          rcases x.fr _ _ r with z | z
          · rw [n] at z; cases z
          · rw [e] at z; cases z
    nd := by
      unfold keys
      rw [List.map_append]
      refine List.nodup_append.mpr ⟨x.ok.nd, w.nd, fun b hb c hc e => ?_⟩
      subst e
      rcases x.ky b hb with z | z
      · cases z
      · obtain ⟨q, hq, rfl⟩ := List.mem_map.mp hc
        rw [(w.own q hq).1] at z; cases z
    sz := x.ok.sz
    szo := fun q hq => by
      rcases List.mem_append.mp hq with hq | hq
      · exact x.ok.szo q hq
      · exact w.szo q hq }
  gr := x.gr
  keep := fun b o e _ => x.keep b o e (by intro z; cases z)
  fr := x.fr
  ky := fun b hb => by
    unfold keys at hb
    rw [List.map_append] at hb
    rcases List.mem_append.mp hb with hb | hb
    · rcases x.ky b hb with z | z
      · cases z
      · exact .inr z
    · exact .inl hb
  dom := x.dom
/-- a callee that sees one of what is mine -/
theorem WOk.one (w : WOk F O H) {k : Nat} (h : O[k]? = some (a, o)) : WOk F [(a, o)] H := ⟨w.sub, fun q hq => by
  have e : q = (a, o) := by simpa using hq
  subst e
  exact w.at_ h, by unfold keys; simp, w.sz, fun q hq xs e => by
  have e' : q = (a, o) := by simpa using hq
  subst e'
  exact w.szo (a, o) (List.mem_of_getElem? h) xs e⟩
theorem Stp.moreAt (w : WOk F O H) {k : Nat} (h : O[k]? = some (a, o)) (x : Stp F [(a, o)] H F' [(a, o')] H') : Stp F O H F' (O.set k (a, o')) H' where
  ok := {
    sub := x.ok.sub
    own := fun q hq => by
      obtain ⟨i, hi⟩ := List.mem_iff_getElem?.mp hq
      rw [List.getElem?_set] at hi
      split at hi
      · split at hi
        · cases hi
          exact x.ok.own (a, o') (by simp)
        · cases hi
      · rename_i ei
        have hne : q.1 ≠ a := fun z => by
          have nd := w.nd
          have h1 : (keys O)[k]? = some a := by unfold keys; rw [List.getElem?_map, h]; rfl
          have h2 : (keys O)[i]? = some a := by unfold keys; rw [List.getElem?_map, hi]; simp [z]
          obtain ⟨l1, g1⟩ := List.getElem?_eq_some_iff.mp h1
          obtain ⟨l2, g2⟩ := List.getElem?_eq_some_iff.mp h2
          exact ei ((List.getElem_inj nd).mp (g1.trans g2.symm))
        obtain ⟨e, n⟩ := w.own q (List.mem_of_getElem? hi)
        refine ⟨x.keep _ _ e (by unfold keys; simpa using hne), ?_⟩
        cases r : F' q.1 with
        | none => rfl
        | some u =>
          rcases x.fr _ _ r with z | z
          · rw [n] at z; cases z
          · rw [e] at z; cases z
    nd := by rw [keys_set h]; exact w.nd
    sz := x.ok.sz
    szo := fun q hq xs e => by
      obtain ⟨i, hi⟩ := List.mem_iff_getElem?.mp hq
      rw [List.getElem?_set] at hi
      split at hi
      · split at hi
        · cases hi
          exact x.ok.szo (a, o') (by simp) xs e
        · cases hi
      · exact w.szo q (List.mem_of_getElem? hi) xs e }
  gr := x.gr
  keep := fun b u e n => x.keep b u e (by
    unfold keys
    intro z
    have z : b = a := by simpa using z
    subst z
    exact n (w.key h))
  fr := x.fr
  ky := fun b hb => by rw [keys_set h] at hb; exact .inl hb
  dom := x.dom
theorem R.size (w : WOk F O H) (h : R K F v (.list ds)) : ds.length ≤ sizeLine := by
  obtain ⟨a, vs, _, e, r⟩ := h.lst_inv
  rw [← r.len]; exact w.sz a vs e
end
end Z

end
section
namespace Z
open PySem PySem.Spec PyProof.Rows L2

section
variable {K : PySem.W.Frag} {F F' F1 F2 F3 H H' H1 H2 : Hp} {v : V} {d : PyData} {a p : Addr} {vs : List V} {ds : List PyData} {O O' O1 O2 : Own} {o o' : HO}
theorem WOk.tail {q : Addr × HO} (w : WOk F (q :: O) H) : WOk F O H :=
  ⟨w.sub, fun p hp => w.own p (List.mem_cons_of_mem _ hp), (List.nodup_cons.mp (show (q.1 :: keys O).Nodup from w.nd)).2, w.sz, fun p hp => w.szo p (List.mem_cons_of_mem _ hp)⟩
/-- one thing more that is mine, untouched -/
theorem Stp.cons {q : Addr × HO} (w : WOk F (q :: O) H) (x : Stp F O H F' O' H') : Stp F (q :: O) H F' (q :: O') H' := by
  have hq := w.own q List.mem_cons_self
  have nk : q.1 ∉ keys O := (List.nodup_cons.mp (show (q.1 :: keys O).Nodup from w.nd)).1
  have hF' : F' q.1 = none := by
    cases r : F' q.1 with
    | none => rfl
    | some u =>
      rcases x.fr _ _ r with z | z
      · rw [hq.2] at z; cases z
      · rw [hq.1] at z; cases z
  refine ⟨⟨x.ok.sub, fun p hp => ?_, ?_, x.ok.sz, fun p hp => ?_⟩, x.gr, fun b u e n => ?_, x.fr, fun b hb => ?_, x.dom⟩
  · rcases List.mem_cons.mp hp with rfl | hp
    · exact ⟨x.keep _ _ hq.1 nk, hF'⟩
    · exact x.ok.own p hp
  · show (q.1 :: keys O').Nodup
    refine List.nodup_cons.mpr ⟨fun hb => ?_, x.ok.nd⟩
    rcases x.ky _ hb with z | z
    · exact nk z
    · rw [hq.1] at z; cases z
  · rcases List.mem_cons.mp hp with rfl | hp
    · exact w.szo _ List.mem_cons_self
    · exact x.ok.szo p hp
  · refine x.keep b u e fun hb => n ?_
    exact List.mem_cons_of_mem _ hb
  · rcases List.mem_cons.mp hb with rfl | hb
    · exact .inl List.mem_cons_self
    · rcases x.ky b hb with z | z
      · exact .inl (List.mem_cons_of_mem _ z)
      · exact .inr z
theorem Gr.upd (h : F p = none) : Gr F (L2.upd F p o) := fun b u e => by rw [upd_ne (ne_of_none e h)]; exact e
/-- a new tuple that stays -/
theorem Stp.tupF (w : WOk F O H) (h : H p = none) : Stp F O H (upd F p (.tup vs)) O (upd H p (.tup vs)) := (Stp.alloc w h (show szOk (.tup vs) from trivial)).freeze h
end

/-! ### readings as the thing itself -/
def wE (X : Cx) (e : Expr) : TE := fun σ H Q => ∀ (pins : List (Addr × Obj)) (s : Shared), Inv X pins σ H s → wpAny (model X.prog X.w) X.A (eval e X.env) (EP X pins σ Q) X.xe s
def wT (X : Cx) (e : Expr) : TT := fun σ H Q => ∀ (pins : List (Addr × Obj)) (s : Shared), Inv X pins σ H s → wpAny (model X.prog X.w) X.A (isTrue e X.env (eval e X.env)) (TP X pins σ Q) X.xe s
def wW (X : Cx) (e : Expr) : TT := fun σ H Q => ∀ (whole : Sem Value) (pins : List (Addr × Obj)) (s : Shared), Inv X pins σ H s → wpAny (model X.prog X.w) X.A (isTrue e X.env whole) (TP X pins σ Q) X.xe s
def wA (X : Cx) (es : List Expr) : TA := fun σ H Q => ∀ (pos : Pos) (pins : List (Addr × Obj)) (s : Shared), Inv X pins σ H s → wpAny (model X.prog X.w) X.A (spliced (backTo pos (starEach es X.env))) (AP X pins σ Q) X.xe s
def wSs (X : Cx) (st : List Stmt) : TS := fun D σ H => ∀ (pins : List (Addr × Obj)) (s : Shared), Inv X pins σ H s → wpAny (model X.prog X.w) X.A (execs st X.env) (SP X pins D) X.xe s
def wS (X : Cx) (st : Stmt) : TS := fun D σ H => ∀ (pins : List (Addr × Obj)) (s : Shared), Inv X pins σ H s → wpAny (model X.prog X.w) X.A (exec st X.env) (SP X pins D) X.xe s
def wG (X : Cx) (tg : Expr) : TG := fun v σ H Q => ∀ (pins : List (Addr × Obj)) (s : Shared) (u : Value), Inv X pins σ H s → RelV v u → wpAny (model X.prog X.w) X.A (assign tg X.env u) (fun _ s' => ∃ σ' H', Inv X pins σ' H' s' ∧ Q σ' H') X.xe s
def wI (X : Cx) (tg iter : Expr) : TI := fun σ H Rr => ∀ (pins : List (Addr × Obj)) (s : Shared), Inv X pins σ H s →
  wpAny (model X.prog X.w) X.A (eval iter X.env) (fun v s1 => wpAny (model X.prog X.w) X.A (pyIter v) (PIE X pins σ tg Rr) X.xe s1) X.xe s
def wO (X : Cx) (e : Option Expr) : TO := fun σ H Q => ∀ (pins : List (Addr × Obj)) (s : Shared), Inv X pins σ H s →
  wpAny (model X.prog X.w) X.A (evalPart e X.env) (fun u s' => ∃ o H', Inv X pins σ H' s' ∧ IsPart u o ∧ Q o H') X.xe s
section
variable {X : Cx} {e : Expr} {es : List Expr} {σ : L2.St} {H : Hp}
theorem pe_w : PE X e (wE X e) := ⟨fun pins s _ _ _ I h => h pins s I⟩
theorem pt_w : PT X e (wT X e) := ⟨fun pins s _ _ _ I h => h pins s I⟩
theorem pw_w : PW X e (wW X e) := ⟨fun wh pins s _ _ _ I h => h wh pins s I⟩
theorem pa_w : PA X es (wA X es) := ⟨fun pos pins s _ _ _ I h => h pos pins s I⟩
theorem pss_w {st : List Stmt} : PSs X st (wSs X st) := ⟨fun pins s _ _ _ I h => h pins s I⟩
theorem ps_w {st : Stmt} : PS X st (wS X st) := ⟨fun pins s _ _ _ I h => h pins s I⟩
theorem pg_w {tg : Expr} : PG X tg (wG X tg) := ⟨fun pins s _ _ _ u _ I r h => h pins s u I r⟩
theorem pi_w {tg iter : Expr} : PI X tg iter (wI X tg iter) := ⟨fun pins s _ _ _ I h => h pins s I⟩
theorem po_w {e : Option Expr} : PO X e (wO X e) := ⟨fun pins s _ _ _ I h => h pins s I⟩
theorem wE_of {t : TE} {Q : VK} (h : PE X e t) (q : t σ H Q) : wE X e σ H Q := fun pins s I => h.run pins s σ H Q I q
theorem wT_of {t : TT} {Q : Bool → Hp → Prop} (h : PT X e t) (q : t σ H Q) : wT X e σ H Q := fun pins s I => h.run pins s σ H Q I q
theorem wW_of {t : TT} {Q : Bool → Hp → Prop} (h : PW X e t) (q : t σ H Q) : wW X e σ H Q := fun wh pins s I => h.run wh pins s σ H Q I q
theorem wA_of {t : TA} {Q : List V → Hp → Prop} (h : PA X es t) (q : t σ H Q) : wA X es σ H Q := fun pos pins s I => h.run pos pins s σ H Q I q
theorem wSs_of {st : List Stmt} {t : TS} {D : Ends} (h : PSs X st t) (q : t D σ H) : wSs X st D σ H := fun pins s I => h.run pins s σ H D I q
theorem wG_of {tg : Expr} {t : TG} {v : V} {Q : L2.St → Hp → Prop} (h : PG X tg t) (q : t v σ H Q) : wG X tg v σ H Q := fun pins s u I r => h.run pins s σ H v u Q I r q
theorem wI_of {tg iter : Expr} {t : TI} {Q : It → Hp → Prop} (h : PI X tg iter t) (q : t σ H Q) : wI X tg iter σ H Q := fun pins s I => h.run pins s σ H Q I q
theorem wO_of {e : Option Expr} {t : TO} {Q : Option Int → Hp → Prop} (h : PO X e t) (q : t σ H Q) : wO X e σ H Q := fun pins s I => h.run pins s σ H Q I q
end

/-! ### the judgements -/
def ZE (X : Cx) (e : Expr) (σ : L2.St) (F : Hp) (O : Own) (d : PyData) (O' : Own) : Prop :=
  ∀ F1 H, Gr F F1 → WOk F1 O H → ∀ Q : VK, (∀ v F2 H2, Stp F1 O H F2 O' H2 → R X.K F2 v d → Q v H2) → wE X e σ H Q
/-- .. a new list, mine -/
def ZN (X : Cx) (e : Expr) (σ : L2.St) (F : Hp) (O : Own) (ds : List PyData) (O' : Own) : Prop :=
  ∀ F1 H, Gr F F1 → WOk F1 O H → ∀ Q : VK, (∀ p vs F2 H2, H p = none → Stp F1 O H F2 ((p, .lst vs) :: O') H2 → RA X.K F2 vs ds → Q (.ref p) H2) → wE X e σ H Q
def ZT (X : Cx) (e : Expr) (σ : L2.St) (F : Hp) (O : Own) (b : Bool) (O' : Own) : Prop :=
  ∀ F1 H, Gr F F1 → WOk F1 O H → ∀ Q : Bool → Hp → Prop, (∀ F2 H2, Stp F1 O H F2 O' H2 → Q b H2) → wT X e σ H Q
def ZW (X : Cx) (e : Expr) (σ : L2.St) (F : Hp) (O : Own) (b : Bool) (O' : Own) : Prop :=
  ∀ F1 H, Gr F F1 → WOk F1 O H → ∀ Q : Bool → Hp → Prop, (∀ F2 H2, Stp F1 O H F2 O' H2 → Q b H2) → wW X e σ H Q
def ZA (X : Cx) (es : List Expr) (σ : L2.St) (F : Hp) (O : Own) (ds : List PyData) (O' : Own) : Prop :=
  ∀ F1 H, Gr F F1 → WOk F1 O H → ∀ Q : List V → Hp → Prop, (∀ vs F2 H2, Stp F1 O H F2 O' H2 → RA X.K F2 vs ds → Q vs H2) → wA X es σ H Q
def ZO (X : Cx) (e : Option Expr) (σ : L2.St) (F : Hp) (O : Own) (o : Option Int) (O' : Own) : Prop :=
  ∀ F1 H, Gr F F1 → WOk F1 O H → ∀ Q : Option Int → Hp → Prop, (∀ F2 H2, Stp F1 O H F2 O' H2 → Q o H2) → wO X e σ H Q
def ZS (X : Cx) (st : List Stmt) (σ : L2.St) (H : Hp) (D : Ends) : Prop := wSs X st D σ H

section
variable {X : Cx} {e a b c : Expr} {es : List Expr} {σ : L2.St} {F H : Hp} {O O1 O2 O3 : Own} {d da db : PyData} {ds : List PyData} {pos : Pos} {i j : Int} {k : Bool}
theorem ZE.at_ (h : ZE X e σ F O d O1) {F1 : Hp} (g : Gr F F1) : ZE X e σ F1 O d O1 := fun F2 H g2 => h F2 H (g.trans g2)
theorem ZN.ze (h : ZN X e σ F O ds O1) : ZE X e σ F O (.list ds) O1 := fun F1 H g w Q q => h F1 H g w Q fun p vs F2 H2 hp st r =>
  q _ _ _ (st.freeze hp) ((r.mono (Gr.upd (st.ok.own (p, .lst vs) List.mem_cons_self).2)).lst upd_same)
theorem ze_eq {d' : PyData} (h : ZE X e σ F O d O1) (e' : d = d') : ZE X e σ F O d' O1 := e' ▸ h
theorem zt_eq {k' : Bool} (h : ZT X e σ F O k O1) (e' : k = k') : ZT X e σ F O k' O1 := e' ▸ h

/-! ### names and constants -/
theorem ze_var (n : Nat) {x : Str} {v : V} (hσ : σ[n]? = some (some v)) (hr : R X.K F v d) (hN : X.N[n]? = some x := by rfl) (hv : Vis X.env.scope x := by first | exact Or.inl rfl | exact Or.inr (Or.inl rfl) | exact Or.inr (Or.inr rfl)) (hd : (x == ("__debug__" : Str)) = false := by decide)
    (hcd : (x == ("__classdict__" : Str)) = false := by decide) : ZE X (.Name x pos) σ F O d O := fun F1 H g w Q q =>
  wE_of (pe_var hN hv hd hcd) ⟨v, hσ, q _ _ _ (Stp.refl w) (hr.mono g)⟩
theorem ze_int {n : Int} {kk} : ZE X (.Constant (.int n) kk pos) σ F O (.int n) O := fun F1 H g w Q q => wE_of pe_int (q _ _ _ (Stp.refl w) (.int n))
theorem ze_str {n : Str} {kk} : ZE X (.Constant (.str n) kk pos) σ F O (.str n) O := fun F1 H g w Q q => wE_of pe_str (q _ _ _ (Stp.refl w) (.str n))
theorem ze_bl {n : Bool} {kk} : ZE X (.Constant (.bool n) kk pos) σ F O (.bool n) O := fun F1 H g w Q q => wE_of pe_bl (q _ _ _ (Stp.refl w) (.bl n))
theorem ze_non {kk} : ZE X (.Constant .none kk pos) σ F O .none O := fun F1 H g w Q q => wE_of pe_non (q _ _ _ (Stp.refl w) .non)
/-- a constant of the module -/
theorem ze_glob {x : Str} {v : V} {u : Value} (hm : X.mg x = some u) (r : RelV v u) (hr : R X.K F v d) (hg : Gl X x := by rfl) (hd : (x == ("__debug__" : Str)) = false := by decide) : ZE X (.Name x pos) σ F O d O := fun F1 H g w Q q =>
  wE_of (pe_glob hg hm r hd) (q _ _ _ (Stp.refl w) (hr.mono g))

/-! ### operators -/
theorem ze_op {op : Operator} {r : R2} (ho : OpR X (binaryOp op) r) (ha : ZE X a σ F O da O1) (hb : ZE X b σ F O1 db O2)
    (hr : ∀ F2 H2 x y, Gr F F2 → WOk F2 O2 H2 → R X.K F2 x da → R X.K F2 y db → ∀ Q : VK, (∀ v F3 H3, Stp F2 O2 H2 F3 O3 H3 → R X.K F3 v d → Q v H3) → r x y H2 Q) : ZE X (.BinOp a op b pos) σ F O d O3 := fun F1 H g w Q q =>
  wE_of (pe_op ho pe_w pe_w) (ha F1 H g w _ fun x F2 H2 s1 r1 => hb F2 H2 (g.trans s1.gr) s1.ok _ fun y F3 H3 s2 r2 =>
    hr F3 H3 x y (g.trans (s1.gr.trans s2.gr)) s2.ok (r1.mono s2.gr) r2 Q fun v F4 H4 s3 r3 => q _ _ _ (s1.trans (s2.trans s3)) r3)
theorem zn_op {op : Operator} {r : R2} (ho : OpR X (binaryOp op) r) (ha : ZE X a σ F O da O1) (hb : ZE X b σ F O1 db O2)
    (hr : ∀ F2 H2 x y, Gr F F2 → WOk F2 O2 H2 → R X.K F2 x da → R X.K F2 y db → ∀ Q : VK, (∀ p vs F3 H3, H2 p = none → Stp F2 O2 H2 F3 ((p, .lst vs) :: O3) H3 → RA X.K F3 vs ds → Q (.ref p) H3) → r x y H2 Q) : ZN X (.BinOp a op b pos) σ F O ds O3 := fun F1 H g w Q q =>
  wE_of (pe_op ho pe_w pe_w) (ha F1 H g w _ fun x F2 H2 s1 r1 => hb F2 H2 (g.trans s1.gr) s1.ok _ fun y F3 H3 s2 r2 =>
    hr F3 H3 x y (g.trans (s1.gr.trans s2.gr)) s2.ok (r1.mono s2.gr) r2 Q fun p vs F4 H4 hp s3 r3 => q p vs _ _ (by
      cases z : H p with
      | none => rfl
      | some u => exact absurd hp ((s1.trans s2).dom p (by rw [z]; simp))) (s1.trans (s2.trans s3)) r3)
theorem ze_opI {op : Operator} {g : Int → Int → Int} (ho : OpR X (binaryOp op) (rI0 fun i j => .int (g i j))) (ha : ZE X a σ F O (.int i) O1) (hb : ZE X b σ F O1 (.int j) O2) : ZE X (.BinOp a op b pos) σ F O (.int (g i j)) O2 :=
  ze_op ho ha hb fun F2 H2 x y _ w r1 r2 Q q => ⟨i, j, r1.int_inv, r2.int_inv, q _ _ _ (Stp.refl w) (.int _)⟩
theorem ze_opC {op : Operator} {C : Int → Int → Prop} {g : Int → Int → Int} (ho : OpR X (binaryOp op) (rI C fun i j => .int (g i j))) (hC : C i j) (ha : ZE X a σ F O (.int i) O1) (hb : ZE X b σ F O1 (.int j) O2) : ZE X (.BinOp a op b pos) σ F O (.int (g i j)) O2 :=
  ze_op ho ha hb fun F2 H2 x y _ w r1 r2 Q q => ⟨i, j, r1.int_inv, r2.int_inv, hC, q _ _ _ (Stp.refl w) (.int _)⟩
theorem ze_add (ha : ZE X a σ F O (.int i) O1) (hb : ZE X b σ F O1 (.int j) O2) : ZE X (.BinOp a .Add b pos) σ F O (.int (i + j)) O2 := ze_opI op_add ha hb
theorem ze_sub (ha : ZE X a σ F O (.int i) O1) (hb : ZE X b σ F O1 (.int j) O2) : ZE X (.BinOp a .Sub b pos) σ F O (.int (i - j)) O2 := ze_opI op_sub ha hb
theorem ze_mul (ha : ZE X a σ F O (.int i) O1) (hb : ZE X b σ F O1 (.int j) O2) (h : CMul i j) : ZE X (.BinOp a .Mult b pos) σ F O (.int (i * j)) O2 := ze_opC op_mul h ha hb
theorem ze_mod (ha : ZE X a σ F O (.int i) O1) (hb : ZE X b σ F O1 (.int j) O2) (h : 0 < j) : ZE X (.BinOp a .Mod b pos) σ F O (.int (i % j)) O2 := ze_opC op_mod h ha hb
theorem ze_fdiv (ha : ZE X a σ F O (.int i) O1) (hb : ZE X b σ F O1 (.int j) O2) (h : CDiv i j) : ZE X (.BinOp a .FloorDiv b pos) σ F O (.int (i / j)) O2 := ze_opC op_fdiv h ha hb
theorem ze_pow (ha : ZE X a σ F O (.int i) O1) (hb : ZE X b σ F O1 (.int j) O2) (h : CPow i j) : ZE X (.BinOp a .Pow b pos) σ F O (.int (i ^ j.toNat)) O2 := ze_opC op_pow h ha hb
theorem ze_neg (ha : ZE X a σ F O (.int i) O1) : ZE X (.UnaryOp .USub a pos) σ F O (.int (-i)) O1 := fun F1 H g w Q q =>
  wE_of (pe_un un_neg pe_w) (ha F1 H g w _ fun x F2 H2 s1 r1 => ⟨i, r1.int_inv, q _ _ _ s1 (.int _)⟩)
theorem ze_addS {x y : Str} (ha : ZE X a σ F O (.str x) O1) (hb : ZE X b σ F O1 (.str y) O2) (h : x.length + y.length ≤ sizeLine) : ZE X (.BinOp a .Add b pos) σ F O (.str (x ++ y)) O2 :=
  ze_op op_add_str ha hb fun F2 H2 _ _ _ w r1 r2 Q q => ⟨x, y, r1.str_inv, r2.str_inv, h, q _ _ _ (Stp.refl w) (.str _)⟩
/-- xs + ys -/
theorem zn_cat {es : List PyData} (ha : ZE X a σ F O (.list ds) O1) (hb : ZE X b σ F O1 (.list es) O2) (h : ds.length + es.length ≤ sizeLine) : ZN X (.BinOp a .Add b pos) σ F O (ds ++ es) O2 :=
  zn_op op_cat ha hb fun F2 H2 x y _ w r1 r2 Q q => by
    obtain ⟨l, xs, rfl, e1, a1⟩ := r1.lst_inv
    obtain ⟨m, ys, rfl, e2, a2⟩ := r2.lst_inv
    have hz : xs.length + ys.length ≤ sizeLine := by rw [a1.len, a2.len]; exact h
    exact ⟨l, m, xs, ys, rfl, rfl, w.sub _ _ e1, w.sub _ _ e2, hz, fun p hp => q p _ _ _ hp (Stp.alloc w hp (by show (xs ++ ys).length ≤ _; rw [List.length_append]; exact hz)) (a1.app a2)⟩
theorem zn_rep (ha : ZE X a σ F O (.list ds) O1) (hb : ZE X b σ F O1 (.int i) O2) (h0 : 0 ≤ i) (h1 : i < 2 ^ 62) (h : ds.length * i.toNat ≤ sizeLine) : ZN X (.BinOp a .Mult b pos) σ F O (List.replicate i.toNat ds).flatten O2 :=
  zn_op op_rep ha hb fun F2 H2 x y _ w r1 r2 Q q => by
    obtain ⟨l, xs, rfl, e1, a1⟩ := r1.lst_inv
    have hz : xs.length * i.toNat ≤ sizeLine := by rw [a1.len]; exact h
    refine ⟨l, i, xs, rfl, r2.int_inv, w.sub _ _ e1, by omega, by omega, hz, fun p hp => q p _ _ _ hp (Stp.alloc w hp ?_) ?_⟩
    · show (List.replicate i.toNat xs).flatten.length ≤ _
      rw [List.length_flatten, List.map_replicate, List.sum_replicate_nat, Nat.mul_comm]; exact hz
    · generalize i.toNat = n
      induction n with
      | zero => exact .nil
      | succ n ih => rw [List.replicate_succ, List.replicate_succ, List.flatten_cons, List.flatten_cons]; exact a1.app ih
theorem ze_catT {es : List PyData} (ha : ZE X a σ F O (.tuple ds) O1) (hb : ZE X b σ F O1 (.tuple es) O2) (hne : ds ≠ []) (h : ds.length + es.length ≤ sizeLine) : ZE X (.BinOp a .Add b pos) σ F O (.tuple (ds ++ es)) O2 :=
  ze_op op_catT ha hb fun F2 H2 x y _ w r1 r2 Q q => by
    obtain ⟨l, xs, rfl, e0, a1⟩ := r1.tupH_inv
    have e1 : SqT X.K _ l xs := .inl (.inl e0)
    obtain ⟨m, ys, rfl, e2, a2⟩ := r2.tup_inv
    refine ⟨l, m, xs, ys, rfl, rfl, w.sub.sqT e1, w.sub.sqT e2, ?_, by rw [a1.len, a2.len]; exact h, fun hy => ?_, fun _ p hp => ?_⟩
    · intro z; subst z
      exact hne (List.length_eq_zero_iff.mp a1.len.symm)
    · subst hy
      have hes : es = [] := List.length_eq_zero_iff.mp a2.len.symm
      rw [hes, List.append_nil] at q
      exact q _ _ _ (Stp.refl w) (a1.tup e0)
    · exact q _ _ _ (Stp.tupF w hp) (((a1.app a2).mono (Stp.tupF w hp).gr).tup upd_same)

/-! ### comparisons -/
theorem ze_cmp {op : CmpOp} {r : R2} (ho : OpR X (compareOp op) r) (ha : ZE X a σ F O da O1) (hb : ZE X b σ F O1 db O2) (hm : behindInMarks op b = false)
    (hr : ∀ F2 H2 x y, Gr F F2 → WOk F2 O2 H2 → R X.K F2 x da → R X.K F2 y db → ∀ Q : VK, Q (.bl k) H2 → r x y H2 Q) : ZE X (.Compare a [op] [b] pos) σ F O (.bool k) O2 := fun F1 H g w Q q =>
  wE_of (pe_cmpR ho pe_w pe_w hm) (ha F1 H g w _ fun x F2 H2 s1 r1 => hb F2 H2 (g.trans s1.gr) s1.ok _ fun y F3 H3 s2 r2 =>
    hr F3 H3 x y (g.trans (s1.gr.trans s2.gr)) s2.ok (r1.mono s2.gr) r2 Q (q _ _ _ (s1.trans s2) (.bl k)))
theorem zt_cmp {op : CmpOp} {r : R2} (ho : OpR X (compareOp op) r) (ha : ZE X a σ F O da O1) (hb : ZE X b σ F O1 db O2) (hm : behindInMarks op b = false)
    (hr : ∀ F2 H2 x y, Gr F F2 → WOk F2 O2 H2 → R X.K F2 x da → R X.K F2 y db → ∀ Q : VK, Q (.bl k) H2 → r x y H2 Q) : ZT X (.Compare a [op] [b] pos) σ F O k O2 := fun F1 H g w Q q =>
  wT_of (pt_cmpR ho pe_w pe_w hm) (ha F1 H g w _ fun x F2 H2 s1 r1 => hb F2 H2 (g.trans s1.gr) s1.ok _ fun y F3 H3 s2 r2 =>
    hr F3 H3 x y (g.trans (s1.gr.trans s2.gr)) s2.ok (r1.mono s2.gr) r2 _ ⟨k, rfl, q _ _ (s1.trans s2)⟩)
/-- the facts of a comparison, for both uses -/
structure CmpR (X : Cx) (op : CmpOp) (F : Hp) (O : Own) (da db : PyData) (k : Bool) : Prop where
  r : ∃ r : R2, OpR X (compareOp op) r ∧ ∀ F2 H2 x y, Gr F F2 → WOk F2 O H2 → R X.K F2 x da → R X.K F2 y db → ∀ Q : VK, Q (.bl k) H2 → r x y H2 Q
theorem ze_cm {op : CmpOp} (h : CmpR X op F O2 da db k) (ha : ZE X a σ F O da O1) (hb : ZE X b σ F O1 db O2) (hm : behindInMarks op b = false := by first | exact nomark _ | rfl) : ZE X (.Compare a [op] [b] pos) σ F O (.bool k) O2 :=
  let ⟨_, ho, hr⟩ := h.r; ze_cmp ho ha hb hm hr
theorem zt_cm {op : CmpOp} (h : CmpR X op F O2 da db k) (ha : ZE X a σ F O da O1) (hb : ZE X b σ F O1 db O2) (hm : behindInMarks op b = false := by first | exact nomark _ | rfl) : ZT X (.Compare a [op] [b] pos) σ F O k O2 :=
  let ⟨_, ho, hr⟩ := h.r; zt_cmp ho ha hb hm hr
theorem cm_lt : CmpR X .Lt F O (.int i) (.int j) (decide (i < j)) := ⟨_, op_lt, fun _ _ _ _ _ _ r1 r2 _ q => ⟨i, j, r1.int_inv, r2.int_inv, q⟩⟩
theorem cm_le : CmpR X .LtE F O (.int i) (.int j) (decide (i ≤ j)) := ⟨_, op_le, fun _ _ _ _ _ _ r1 r2 _ q => ⟨i, j, r1.int_inv, r2.int_inv, q⟩⟩
theorem cm_gt : CmpR X .Gt F O (.int i) (.int j) (decide (j < i)) := ⟨_, op_gt, fun _ _ _ _ _ _ r1 r2 _ q => ⟨i, j, r1.int_inv, r2.int_inv, q⟩⟩
theorem cm_ge : CmpR X .GtE F O (.int i) (.int j) (decide (j ≤ i)) := ⟨_, op_ge, fun _ _ _ _ _ _ r1 r2 _ q => ⟨i, j, r1.int_inv, r2.int_inv, q⟩⟩
theorem cm_eqI : CmpR X .Eq F O (.int i) (.int j) (decide (i = j)) := ⟨_, op_eq, fun _ _ _ _ _ _ r1 r2 _ q => by
  rw [r1.int_inv, r2.int_inv]
  exact ⟨rfl, by rw [dec_int, Bool.beq_eq_decide_eq]; exact q⟩⟩
theorem cm_neI : CmpR X .NotEq F O (.int i) (.int j) (!decide (i = j)) := ⟨_, op_ne, fun _ _ _ _ _ _ r1 r2 _ q => by
  rw [r1.int_inv, r2.int_inv]
  exact ⟨rfl, by rw [dec_int, Bool.beq_eq_decide_eq]; exact q⟩⟩
theorem cm_eqS {x y : Str} : CmpR X .Eq F O (.str x) (.str y) (decide (x = y)) := ⟨_, op_eq, fun _ _ _ _ _ _ r1 r2 _ q => by
  rw [r1.str_inv, r2.str_inv]
  exact ⟨rfl, by
    have e : decide (V.str x = V.str y) = decide (x = y) := by simp
    rw [e]; exact q⟩⟩
theorem cm_neS {x y : Str} : CmpR X .NotEq F O (.str x) (.str y) (!decide (x = y)) := ⟨_, op_ne, fun _ _ _ _ _ _ r1 r2 _ q => by
  rw [r1.str_inv, r2.str_inv]
  exact ⟨rfl, by
    have e : decide (V.str x = V.str y) = decide (x = y) := by simp
    rw [e]; exact q⟩⟩
theorem cm_eqB {x y : Bool} : CmpR X .Eq F O (.bool x) (.bool y) (decide (x = y)) := ⟨_, op_eq, fun _ _ _ _ _ _ r1 r2 _ q => by
  rw [r1.bl_inv, r2.bl_inv]
  exact ⟨rfl, by
    have e : decide (V.bl x = V.bl y) = decide (x = y) := by simp
    rw [e]; exact q⟩⟩
theorem cm_neB {x y : Bool} : CmpR X .NotEq F O (.bool x) (.bool y) (!decide (x = y)) := ⟨_, op_ne, fun _ _ _ _ _ _ r1 r2 _ q => by
  rw [r1.bl_inv, r2.bl_inv]
  exact ⟨rfl, by
    have e : decide (V.bl x = V.bl y) = decide (x = y) := by simp
    rw [e]; exact q⟩⟩
def isNon : PyData → Bool
  | .none => true
  | _ => false
theorem R.isNon {K : PySem.W.Frag} {v : V} (h : R K F v d) : decide (v = .non) = isNon d := by
  cases h <;> rfl
theorem cm_is : CmpR X .Is F O d .none (isNon d) := ⟨_, op_isN, fun _ _ _ _ _ _ r1 r2 _ q => ⟨r2.non_inv, by rw [r1.isNon]; exact q⟩⟩
theorem cm_isnot : CmpR X .IsNot F O d .none (!isNon d) := ⟨_, op_notN, fun _ _ _ _ _ _ r1 r2 _ q => ⟨r2.non_inv, by rw [r1.isNon]; exact q⟩⟩
/-- == of data of any depth -/
theorem cm_eqD (hu : X.A.units + 64 < cLine) (h1 : SeqAt.shaped da = true) (h2 : SeqAt.shaped db = true) : CmpR X .Eq F O da db (PyData.eqv da db) := ⟨_, op_eqD hu, fun _ _ _ _ _ w r1 r2 _ q => ⟨da, db, r1.dp w.sub, r2.dp w.sub, h1, h2, q⟩⟩
theorem cm_neD (hu : X.A.units + 64 < cLine) (h1 : SeqAt.shaped da = true) (h2 : SeqAt.shaped db = true) : CmpR X .NotEq F O da db (!PyData.eqv da db) := ⟨_, op_neD hu, fun _ _ _ _ _ w r1 r2 _ q => ⟨da, db, r1.dp w.sub, r2.dp w.sub, h1, h2, q⟩⟩
end
end Z

end
section
namespace Z
open PySem PySem.Spec PyProof.Rows L2
section
variable {X : Cx} {e a b c : Expr} {es : List Expr} {σ : L2.St} {F H : Hp} {O O1 O2 O3 : Own} {d da db : PyData} {ds : List PyData} {pos : Pos} {i j : Int} {k k1 k2 : Bool}

/-! ### subscripts -/
theorem atI_ra {K : PySem.W.Frag} {F : Hp} {vs : List V} (h : RA K F vs ds) (e : atI ds i = some d) : ∃ v, atI vs i = some v ∧ R K F v d := by
  unfold atI at e ⊢
  rw [h.len]
  cases q : ixN ds.length i with
  | none => rw [q] at e; cases e
  | some n =>
    rw [q] at e
    obtain ⟨v, hv, r⟩ := h.get (show ds[n]? = some d from e)
    exact ⟨v, hv, r⟩
theorem ze_ixT (ha : ZE X a σ F O (.tuple ds) O1) (hb : ZE X b σ F O1 (.int i) O2) (h : atI ds i = some d) (hs : PlainIx b := by exact fun _ _ => rfl) : ZE X (.Subscript a b pos) σ F O d O2 := fun F1 H g w Q q =>
  wE_of (pe_ix ix_tup pe_w pe_w hs) (ha F1 H g w _ fun x F2 H2 s1 r1 => hb F2 H2 (g.trans s1.gr) s1.ok _ fun y F3 H3 s2 r2 => by
    obtain ⟨l, xs, rfl, e1, a1⟩ := (r1.mono s2.gr).tup_inv
    obtain ⟨v, hv, rv⟩ := atI_ra a1 h
    exact ⟨l, xs, i, v, rfl, r2.int_inv, s2.ok.sub.sqT e1, hv, q _ _ _ (s1.trans s2) rv⟩)
theorem ze_ixL (ha : ZE X a σ F O (.list ds) O1) (hb : ZE X b σ F O1 (.int i) O2) (h : atI ds i = some d) (hs : PlainIx b := by exact fun _ _ => rfl) : ZE X (.Subscript a b pos) σ F O d O2 := fun F1 H g w Q q =>
  wE_of (pe_ix ix_list pe_w pe_w hs) (ha F1 H g w _ fun x F2 H2 s1 r1 => hb F2 H2 (g.trans s1.gr) s1.ok _ fun y F3 H3 s2 r2 => by
    obtain ⟨l, xs, rfl, e1, a1⟩ := (r1.mono s2.gr).lst_inv
    obtain ⟨v, hv, rv⟩ := atI_ra a1 h
    exact ⟨l, xs, i, v, rfl, r2.int_inv, .inl (.inl (s2.ok.sub _ _ e1)), hv, q _ _ _ (s1.trans s2) rv⟩)
theorem ze_ixS {x : Str} {n : Nat} (ha : ZE X a σ F O (.str x) O1) (hb : ZE X b σ F O1 (.int i) O2) (hz : x.length ≤ sizeLine) (h : atI x.cps.toList i = some n) (hs : PlainIx b := by exact fun _ _ => rfl) : ZE X (.Subscript a b pos) σ F O (.str ⟨#[n]⟩) O2 := fun F1 H g w Q q =>
  wE_of (pe_ix ix_str pe_w pe_w hs) (ha F1 H g w _ fun x' F2 H2 s1 r1 => hb F2 H2 (g.trans s1.gr) s1.ok _ fun y F3 H3 s2 r2 =>
    ⟨x, i, n, r1.str_inv, r2.int_inv, hz, h, q _ _ _ (s1.trans s2) (.str _)⟩)
/-- an item of a list that is mine, at slot n -/
theorem ze_ixO (n m : Nat) {x : Str} {px : Pos} {p : Addr} {vs : List V} (hσ : σ[n]? = some (some (.ref p))) (hb : ZE X b σ F O (.int i) O1) (hO : O1[m]? = some (p, .lst vs)) (hr : RA X.K F vs ds) (h : atI ds i = some d)
    (hN : X.N[n]? = some x := by rfl) (hv : Vis X.env.scope x := by first | exact Or.inl rfl | exact Or.inr (Or.inl rfl) | exact Or.inr (Or.inr rfl)) (hs : PlainIx b := by exact fun _ _ => rfl) (hd : (x == ("__debug__" : Str)) = false := by decide)
    (hcd : (x == ("__classdict__" : Str)) = false := by decide) : ZE X (.Subscript (.Name x px) b pos) σ F O d O1 := fun F1 H g w Q q =>
  wE_of (pe_ix ix_list (pe_var hN hv hd hcd) pe_w hs) ⟨_, hσ, hb F1 H g w _ fun y F2 H2 s1 r1 => by
    obtain ⟨v, hv, rv⟩ := atI_ra hr h
    exact ⟨p, vs, i, v, rfl, r1.int_inv, .inl (.inl (s1.ok.at_ hO).1), hv, q _ _ _ s1 (rv.mono (g.trans s1.gr))⟩⟩
def cutD {α : Type} (xs : List α) (lo hi : Option Int) : List α := (xs.drop (HT.sIx xs.length 0 lo)).take (HT.sIx xs.length xs.length hi - HT.sIx xs.length 0 lo)
theorem RA.cut {K : PySem.W.Frag} {F : Hp} {vs : List V} {lo hi : Option Int} (h : RA K F vs ds) : RA K F (cutV vs lo hi) (cutD ds lo hi) := by
  unfold cutV cutD
  rw [h.len]
  exact h.drop.take
theorem zo_none : ZO X none σ F O none O := fun F1 H g w Q q => wO_of po_none (q _ _ (Stp.refl w))
theorem zo_some (h : ZE X e σ F O (.int i) O1) : ZO X (some e) σ F O (some i) O1 := fun F1 H g w Q q => wO_of (po_some pe_w) (h F1 H g w _ fun v F2 H2 s1 r1 => ⟨i, r1.int_inv, q _ _ s1⟩)
variable {lo hi : Option Expr} {p2 : Pos} {l u : Option Int}
theorem zn_sl (ha : ZE X a σ F O (.list ds) O1) (hl : ZO X lo σ F O1 l O2) (hu : ZO X hi σ F O2 u O3) : ZN X (.Subscript a (.Slice lo hi none p2) pos) σ F O (cutD ds l u) O3 := fun F1 H g w Q q =>
  wE_of (pe_slice sl_list pe_w po_w po_w) (ha F1 H g w _ fun x F2 H2 s1 r1 => hl F2 H2 (g.trans s1.gr) s1.ok _ fun F3 H3 s2 => hu F3 H3 (g.trans (s1.gr.trans s2.gr)) s2.ok _ fun F4 H4 s3 => by
    obtain ⟨m, xs, rfl, e1, a1⟩ := (r1.mono (s2.gr.trans s3.gr)).lst_inv
    refine ⟨m, xs, rfl, .inl (.inl (s3.ok.sub _ _ e1)), fun p hp => q p _ _ _ ?_ (s1.trans (s2.trans (s3.trans (Stp.alloc s3.ok hp (Nat.le_trans (cutV_length _ _ _) (s3.ok.sz _ _ e1)))))) a1.cut⟩
    cases z : H p with
    | none => rfl
    | some u => exact absurd hp ((s1.trans (s2.trans s3)).dom p (by rw [z]; simp)))
/-- a slice of a list that is mine -/
theorem zn_slO (n m : Nat) {x : Str} {px : Pos} {p : Addr} {vs : List V} (hσ : σ[n]? = some (some (.ref p))) (hl : ZO X lo σ F O l O2) (hu : ZO X hi σ F O2 u O3) (hO : O3[m]? = some (p, .lst vs)) (hr : RA X.K F vs ds)
    (hN : X.N[n]? = some x := by rfl) (hv : Vis X.env.scope x := by first | exact Or.inl rfl | exact Or.inr (Or.inl rfl) | exact Or.inr (Or.inr rfl)) (hd : (x == ("__debug__" : Str)) = false := by decide)
    (hcd : (x == ("__classdict__" : Str)) = false := by decide) : ZN X (.Subscript (.Name x px) (.Slice lo hi none p2) pos) σ F O (cutD ds l u) O3 := fun F1 H g w Q q =>
  wE_of (pe_slice sl_list (pe_var hN hv hd hcd) po_w po_w) ⟨_, hσ, hl F1 H g w _ fun F3 H3 s2 => hu F3 H3 (g.trans s2.gr) s2.ok _ fun F4 H4 s3 => by
    have e1 := (s3.ok.at_ hO).1
    refine ⟨p, vs, rfl, .inl (.inl e1), fun p' hp => q p' _ _ _ ?_ (s2.trans (s3.trans (Stp.alloc s3.ok hp (Nat.le_trans (cutV_length _ _ _) (s3.ok.szo _ (List.mem_of_getElem? hO) _ rfl))))) (hr.cut.mono (g.trans (s2.gr.trans s3.gr)))⟩
    cases z : H p' with
    | none => rfl
    | some u => exact absurd hp ((s2.trans s3).dom p' (by rw [z]; simp))⟩
theorem ze_slS {x : Str} (ha : ZE X a σ F O (.str x) O1) (hl : ZO X lo σ F O1 l O2) (hu : ZO X hi σ F O2 u O3) (hz : x.length ≤ sizeLine) : ZE X (.Subscript a (.Slice lo hi none p2) pos) σ F O (.str (cutS x l u)) O3 := fun F1 H g w Q q =>
  wE_of (pe_slice sl_str pe_w po_w po_w) (ha F1 H g w _ fun x' F2 H2 s1 r1 => hl F2 H2 (g.trans s1.gr) s1.ok _ fun F3 H3 s2 => hu F3 H3 (g.trans (s1.gr.trans s2.gr)) s2.ok _ fun F4 H4 s3 =>
    ⟨x, r1.str_inv, hz, q _ _ _ (s1.trans (s2.trans s3)) (.str _)⟩)

/-! ### argument lists, displays -/
theorem za_nil : ZA X [] σ F O [] O := fun F1 H g w Q q => wA_of pa_nil (q _ _ _ (Stp.refl w) .nil)
theorem za_cons (h : ZE X e σ F O d O1) (t : ZA X es σ F O1 ds O2) (hs : starEach (e :: es) X.env = (false, eval e X.env) :: starEach es X.env := by rfl) : ZA X (e :: es) σ F O (d :: ds) O2 := fun F1 H g w Q q =>
  wA_of (pa_cons pe_w pa_w hs) (h F1 H g w _ fun v F2 H2 s1 r1 => t F2 H2 (g.trans s1.gr) s1.ok _ fun vs F3 H3 s2 r2 => q _ _ _ (s1.trans s2) (.cons (r1.mono s2.gr) r2))
theorem ze_tup {kk} (h : ZA X es σ F O ds O1) (hz : ds.length ≤ sizeLine := by show _ ≤ (16777216 : Nat); exact Nat.le_of_ble_eq_true rfl) : ZE X (.Tuple es kk pos) σ F O (.tuple ds) O1 := fun F1 H g w Q q =>
  wE_of (pe_tup pa_w) (h F1 H g w _ fun vs F2 H2 s1 r1 => ⟨by rw [r1.len]; exact hz, fun p hp => q _ _ _ (s1.trans (Stp.tupF s1.ok hp)) ((r1.mono (Stp.tupF s1.ok hp).gr).tup upd_same)⟩)
theorem zn_lst (h : ZA X es σ F O ds O1) (hz : ds.length ≤ sizeLine := by show _ ≤ (16777216 : Nat); exact Nat.le_of_ble_eq_true rfl) : ZN X (.List es pos) σ F O ds O1 := fun F1 H g w Q q =>
  wE_of (pe_lst pa_w) (h F1 H g w _ fun vs F2 H2 s1 r1 => ⟨by rw [r1.len]; exact hz, fun p hp => q _ _ _ _ (by
    cases z : H p with
    | none => rfl
    | some u => exact absurd hp (s1.dom p (by rw [z]; simp))) (s1.trans (Stp.alloc s1.ok hp (by show vs.length ≤ _; rw [r1.len]; exact hz))) r1⟩)

/-! ### calls -/
structure Fn (P : Program) (w : World) (K : PySem.W.Frag) (mg : Str → Option Value) (base : Heap) (k : Nat) (x : Str) (ps : List Str) (sp : Sp) : Prop where
  ex : ∃ (f : Addr) (fd : FuncData), FnOk P w K mg base CX0 k f fd ps sp ∧ mg x = some (.ref f) ∧ PySem.W.keepIn K (.ref f) = true ∧ Binds K fd ps []
/-- data in, data out -/
def spD (K : PySem.W.Frag) (A : List PyData → PyData → Prop) : Sp := fun vs H Q _ => ∃ (F : Hp) (ds : List PyData) (r : PyData), WOk F [] H ∧ RA K F vs ds ∧ A ds r ∧ ∀ v F' H', Stp F [] H F' [] H' → R K F' v r → Q v H'
/-- data in, a new list out -/
def spN (K : PySem.W.Frag) (A : List PyData → List PyData → Prop) : Sp := fun vs H Q _ => ∃ (F : Hp) (ds rs : List PyData), WOk F [] H ∧ RA K F vs ds ∧ A ds rs ∧ ∀ p us F' H', H p = none → Stp F [] H F' [(p, .lst us)] H' → RA K F' us rs → Q (.ref p) H'
variable {x : Str} {p : Pos} {ps : List Str} {n : Nat}
theorem ze_callD {A : List PyData → PyData → Prop} (G : Fn X.prog X.w X.K X.mg X.base n x ps (spD X.K A)) (hr : Room n X.A) (ha : ZA X (e :: es) σ F O ds O1) (hA : A ds d) (hg : Gl X x := by rfl) (hdb : (x == ("__debug__" : Str)) = false := by decide)
    (he : starEach (e :: es) X.env = (false, eval e X.env) :: starEach es X.env := by rfl) (hpl : (backTo pos (starEach es X.env)).any (·.1) = false := by rfl) : ZE X (.Call (.Name x p) (e :: es) [] pos) σ F O d O1 := fun F1 H g w Q q => by
  obtain ⟨f, fd, G, hm, hk, hb⟩ := G.ex
  refine wE_of (pe_call G hr hg hm hk hb .nil (E := E0) pass0 pa_w hdb he hpl) (ha F1 H g w _ fun vs F2 H2 s1 r1 => ?_)
  rw [List.append_nil]
  exact ⟨F2, ds, d, s1.ok.less, r1, hA, fun v F' H' s2 r2 => q _ _ _ (s1.trans (Stp.more s1.ok s2)) r2⟩
theorem zn_callN {A : List PyData → List PyData → Prop} {rs : List PyData} (G : Fn X.prog X.w X.K X.mg X.base n x ps (spN X.K A)) (hr : Room n X.A) (ha : ZA X (e :: es) σ F O ds O1) (hA : A ds rs) (hg : Gl X x := by rfl) (hdb : (x == ("__debug__" : Str)) = false := by decide)
    (he : starEach (e :: es) X.env = (false, eval e X.env) :: starEach es X.env := by rfl) (hpl : (backTo pos (starEach es X.env)).any (·.1) = false := by rfl) : ZN X (.Call (.Name x p) (e :: es) [] pos) σ F O rs O1 := fun F1 H g w Q q => by
  obtain ⟨f, fd, G, hm, hk, hb⟩ := G.ex
  refine wE_of (pe_call G hr hg hm hk hb .nil (E := E0) pass0 pa_w hdb he hpl) (ha F1 H g w _ fun vs F2 H2 s1 r1 => ?_)
  rw [List.append_nil]
  refine ⟨F2, ds, rs, s1.ok.less, r1, hA, fun p us F' H' hp s2 r2 => q p us _ _ ?_ (s1.trans (Stp.more s1.ok s2)) r2⟩
  cases z : H p with
  | none => rfl
  | some u => exact absurd hp (s1.dom p (by rw [z]; simp))
/-- a built-in function -/
theorem ze_callB {id : String} {r : List V → Hp → VK → Prop} (hc : CallR X (.builtin id) r) (hm : X.mg x = none) (hv : bootBuiltins x = some (.builtin id)) (ha : ZA X (e :: es) σ F O ds O1)
    (hr : ∀ F1 H1 vs, Gr F F1 → WOk F1 O1 H1 → RA X.K F1 vs ds → ∀ Q : VK, (∀ v F2 H2, Stp F1 O1 H1 F2 O2 H2 → R X.K F2 v d → Q v H2) → r vs H1 Q) (hg : Gl X x := by rfl) (hn : x ≠ "__name__" := by decide) (hdb : (x == ("__debug__" : Str)) = false := by decide)
    (he : starEach (e :: es) X.env = (false, eval e X.env) :: starEach es X.env := by rfl) (hpl : (backTo pos (starEach es X.env)).any (·.1) = false := by rfl) : ZE X (.Call (.Name x p) (e :: es) [] pos) σ F O d O2 := fun F1 H g w Q q =>
  wE_of (pe_callB hc hg hm hv pa_w hn hdb he hpl) (ha F1 H g w _ fun vs F2 H2 s1 r1 => hr F2 H2 vs (g.trans s1.gr) s1.ok r1 Q fun v F3 H3 s2 r2 => q _ _ _ (s1.trans s2) r2)
theorem ze_callTy {T : String} {r : List V → Hp → VK → Prop} (hc : CallR X (.type T) r) (hm : X.mg x = none) (hv : bootBuiltins x = some (.type T)) (ha : ZA X (e :: es) σ F O ds O1)
    (hr : ∀ F1 H1 vs, Gr F F1 → WOk F1 O1 H1 → RA X.K F1 vs ds → ∀ Q : VK, (∀ v F2 H2, Stp F1 O1 H1 F2 O2 H2 → R X.K F2 v d → Q v H2) → r vs H1 Q) (hg : Gl X x := by rfl) (hn : x ≠ "__name__" := by decide) (hdb : (x == ("__debug__" : Str)) = false := by decide)
    (he : starEach (e :: es) X.env = (false, eval e X.env) :: starEach es X.env := by rfl) (hpl : (backTo pos (starEach es X.env)).any (·.1) = false := by rfl) : ZE X (.Call (.Name x p) (e :: es) [] pos) σ F O d O2 := fun F1 H g w Q q =>
  wE_of (pe_callTy hc hg hm hv pa_w hn hdb he hpl) (ha F1 H g w _ fun vs F2 H2 s1 r1 => hr F2 H2 vs (g.trans s1.gr) s1.ok r1 Q fun v F3 H3 s2 r2 => q _ _ _ (s1.trans s2) r2)
theorem zn_callB {id : String} {r : List V → Hp → VK → Prop} {rs : List PyData} (hc : CallR X (.builtin id) r) (hm : X.mg x = none) (hv : bootBuiltins x = some (.builtin id)) (ha : ZA X (e :: es) σ F O ds O1)
    (hr : ∀ F1 H1 vs, Gr F F1 → WOk F1 O1 H1 → RA X.K F1 vs ds → ∀ Q : VK, (∀ p us F2 H2, H1 p = none → Stp F1 O1 H1 F2 ((p, .lst us) :: O1) H2 → RA X.K F2 us rs → Q (.ref p) H2) → r vs H1 Q) (hg : Gl X x := by rfl) (hn : x ≠ "__name__" := by decide) (hdb : (x == ("__debug__" : Str)) = false := by decide)
    (he : starEach (e :: es) X.env = (false, eval e X.env) :: starEach es X.env := by rfl) (hpl : (backTo pos (starEach es X.env)).any (·.1) = false := by rfl) : ZN X (.Call (.Name x p) (e :: es) [] pos) σ F O rs O1 := fun F1 H g w Q q =>
  wE_of (pe_callB hc hg hm hv pa_w hn hdb he hpl) (ha F1 H g w _ fun vs F2 H2 s1 r1 => hr F2 H2 vs (g.trans s1.gr) s1.ok r1 Q fun p us F3 H3 hp s2 r2 => q p us _ _ (by
    cases z : H p with
    | none => rfl
    | some u => exact absurd hp (s1.dom p (by rw [z]; simp))) (s1.trans s2) r2)
theorem zn_callTy {T : String} {r : List V → Hp → VK → Prop} {rs : List PyData} (hc : CallR X (.type T) r) (hm : X.mg x = none) (hv : bootBuiltins x = some (.type T)) (ha : ZA X (e :: es) σ F O ds O1)
    (hr : ∀ F1 H1 vs, Gr F F1 → WOk F1 O1 H1 → RA X.K F1 vs ds → ∀ Q : VK, (∀ p us F2 H2, H1 p = none → Stp F1 O1 H1 F2 ((p, .lst us) :: O1) H2 → RA X.K F2 us rs → Q (.ref p) H2) → r vs H1 Q) (hg : Gl X x := by rfl) (hn : x ≠ "__name__" := by decide) (hdb : (x == ("__debug__" : Str)) = false := by decide)
    (he : starEach (e :: es) X.env = (false, eval e X.env) :: starEach es X.env := by rfl) (hpl : (backTo pos (starEach es X.env)).any (·.1) = false := by rfl) : ZN X (.Call (.Name x p) (e :: es) [] pos) σ F O rs O1 := fun F1 H g w Q q =>
  wE_of (pe_callTy hc hg hm hv pa_w hn hdb he hpl) (ha F1 H g w _ fun vs F2 H2 s1 r1 => hr F2 H2 vs (g.trans s1.gr) s1.ok r1 Q fun p us F3 H3 hp s2 r2 => q p us _ _ (by
    cases z : H p with
    | none => rfl
    | some u => exact absurd hp (s1.dom p (by rw [z]; simp))) (s1.trans s2) r2)
theorem RA.one {K : PySem.W.Frag} {F : Hp} {vs : List V} (h : RA K F vs [d]) : ∃ v, vs = [v] ∧ R K F v d := by
  obtain ⟨v, ws, rfl, r, t⟩ := h.cons_inv
  rw [t.nil_inv]; exact ⟨v, rfl, r⟩
theorem RA.two {K : PySem.W.Frag} {F : Hp} {vs : List V} (h : RA K F vs [da, db]) : ∃ v w, vs = [v, w] ∧ R K F v da ∧ R K F w db := by
  obtain ⟨v, ws, rfl, r, t⟩ := h.cons_inv
  obtain ⟨w, rfl, r'⟩ := t.one
  exact ⟨v, w, rfl, r, r'⟩
theorem ze_lenL (hm : X.mg "len" = none) (ha : ZE X e σ F O (.list ds) O1) (hg : Gl X "len" := by rfl) (he : starEach [e] X.env = (false, eval e X.env) :: starEach [] X.env := by rfl) (hpl : (backTo pos (starEach [] X.env)).any (·.1) = false := by rfl) : ZE X (.Call (.Name "len" p) [e] [] pos) σ F O (.int (ds.length : Nat)) O1 :=
  ze_callB call_len_seq hm boot_len (za_cons ha za_nil he) (fun F1 H1 vs _ w r Q q => by
    obtain ⟨v, rfl, r1⟩ := r.one
    obtain ⟨l, xs, rfl, e1, a1⟩ := r1.lst_inv
    exact ⟨l, xs, rfl, .inl (.inl (.inl (w.sub _ _ e1))), q _ _ _ (Stp.refl w) (by rw [a1.len]; exact .int _)⟩) hg (by decide) (by decide) he hpl
theorem ze_lenT (hm : X.mg "len" = none) (ha : ZE X e σ F O (.tuple ds) O1) (hg : Gl X "len" := by rfl) (he : starEach [e] X.env = (false, eval e X.env) :: starEach [] X.env := by rfl) (hpl : (backTo pos (starEach [] X.env)).any (·.1) = false := by rfl) : ZE X (.Call (.Name "len" p) [e] [] pos) σ F O (.int (ds.length : Nat)) O1 :=
  ze_callB call_len_seq hm boot_len (za_cons ha za_nil he) (fun F1 H1 vs _ w r Q q => by
    obtain ⟨v, rfl, r1⟩ := r.one
    obtain ⟨l, xs, rfl, e1, a1⟩ := r1.tup_inv
    exact ⟨l, xs, rfl, .inr (w.sub.sqT e1), q _ _ _ (Stp.refl w) (by rw [a1.len]; exact .int _)⟩) hg (by decide) (by decide) he hpl
theorem ze_lenS {s : Str} (hm : X.mg "len" = none) (hz : s.length ≤ sizeLine) (ha : ZE X e σ F O (.str s) O1) (hg : Gl X "len" := by rfl) (he : starEach [e] X.env = (false, eval e X.env) :: starEach [] X.env := by rfl) (hpl : (backTo pos (starEach [] X.env)).any (·.1) = false := by rfl) : ZE X (.Call (.Name "len" p) [e] [] pos) σ F O (.int (s.length : Nat)) O1 :=
  ze_callB call_len_str hm boot_len (za_cons ha za_nil he) (fun F1 H1 vs _ w r Q q => by
    obtain ⟨v, rfl, r1⟩ := r.one
    exact ⟨s, by rw [r1.str_inv], hz, q _ _ _ (Stp.refl w) (.int _)⟩) hg (by decide) (by decide) he hpl
theorem ze_lenO (n m : Nat) {x : Str} {px : Pos} {q : Addr} {vs : List V} (hm : X.mg "len" = none) (hσ : σ[n]? = some (some (.ref q))) (hO : O[m]? = some (q, .lst vs)) (hr : RA X.K F vs ds) (hN : X.N[n]? = some x := by rfl)
    (hv : Vis X.env.scope x := by first | exact Or.inl rfl | exact Or.inr (Or.inl rfl) | exact Or.inr (Or.inr rfl)) (hg : Gl X "len" := by rfl) (hd : (x == ("__debug__" : Str)) = false := by decide) (hcd : (x == ("__classdict__" : Str)) = false := by decide)
    (he : starEach [.Name x px] X.env = (false, eval (.Name x px) X.env) :: starEach [] X.env := by rfl) (hpl : (backTo pos (starEach [] X.env)).any (·.1) = false := by rfl) : ZE X (.Call (.Name "len" p) [.Name x px] [] pos) σ F O (.int (ds.length : Nat)) O := fun F1 H g w Q qq =>
  wE_of (pe_callB call_len_seq hg hm boot_len (pa_cons (pe_var hN hv hd hcd) pa_nil he) (by decide) (by decide) he hpl) ⟨_, hσ, ⟨q, vs, rfl, .inl (.inl (.inl (w.at_ hO).1)), qq _ _ _ (Stp.refl w) (by rw [hr.len]; exact .int _)⟩⟩
theorem ze_intI (hm : X.mg "int" = none) (ha : ZE X e σ F O (.int i) O1) (hg : Gl X "int" := by rfl) (he : starEach [e] X.env = (false, eval e X.env) :: starEach [] X.env := by rfl) (hpl : (backTo pos (starEach [] X.env)).any (·.1) = false := by rfl) : ZE X (.Call (.Name "int" p) [e] [] pos) σ F O (.int i) O1 :=
  ze_callTy call_int1 hm boot_int (za_cons ha za_nil he) (fun F1 H1 vs _ w r Q q => by
    obtain ⟨v, rfl, r1⟩ := r.one
    exact .inl ⟨i, by rw [r1.int_inv], q _ _ _ (Stp.refl w) (.int _)⟩) hg (by decide) (by decide) he hpl
theorem ze_intB (hm : X.mg "int" = none) (ha : ZE X e σ F O (.bool k) O1) (hg : Gl X "int" := by rfl) (he : starEach [e] X.env = (false, eval e X.env) :: starEach [] X.env := by rfl) (hpl : (backTo pos (starEach [] X.env)).any (·.1) = false := by rfl) : ZE X (.Call (.Name "int" p) [e] [] pos) σ F O (.int (if k then 1 else 0)) O1 :=
  ze_callTy call_int1 hm boot_int (za_cons ha za_nil he) (fun F1 H1 vs _ w r Q q => by
    obtain ⟨v, rfl, r1⟩ := r.one
    exact .inr ⟨k, by rw [r1.bl_inv], q _ _ _ (Stp.refl w) (.int _)⟩) hg (by decide) (by decide) he hpl
theorem zn_list (hm : X.mg "list" = none) (ha : ZE X e σ F O (.list ds) O1) (hg : Gl X "list" := by rfl) (he : starEach [e] X.env = (false, eval e X.env) :: starEach [] X.env := by rfl) (hpl : (backTo pos (starEach [] X.env)).any (·.1) = false := by rfl) : ZN X (.Call (.Name "list" p) [e] [] pos) σ F O ds O1 :=
  zn_callTy call_list_of hm (by decide +kernel) (za_cons ha za_nil he) (fun F1 H1 vs _ w r Q q => by
    obtain ⟨v, rfl, r1⟩ := r.one
    obtain ⟨l, xs, rfl, e1, a1⟩ := r1.lst_inv
    exact ⟨l, xs, rfl, .inl (.inl (.inl (w.sub _ _ e1))), fun p hp => q p _ _ _ hp (Stp.alloc w hp (w.sz _ _ e1)) a1⟩) hg (by decide) (by decide) he hpl
theorem ze_sum {ns : List Int} (hc : X.calm = true) (hm : X.mg "sum" = none) (ha : ZE X e σ F O (.list (ns.map .int)) O1) (hg : Gl X "sum" := by rfl) (he : starEach [e] X.env = (false, eval e X.env) :: starEach [] X.env := by rfl) (hpl : (backTo pos (starEach [] X.env)).any (·.1) = false := by rfl) : ZE X (.Call (.Name "sum" p) [e] [] pos) σ F O (.int ns.sum) O1 :=
  ze_callB (cr_sum hc) hm (by decide +kernel) (za_cons ha za_nil he) (fun F1 H1 vs _ w r Q q => by
    obtain ⟨v, rfl, r1⟩ := r.one
    obtain ⟨l, xs, rfl, e1, a1⟩ := r1.lst_inv
    have ex : xs = ns.map V.int := by
      apply List.ext_getElem?
      intro i
      cases z : xs[i]? with
      | none =>
        have := List.getElem?_eq_none_iff.mp z
        rw [List.getElem?_eq_none_iff.mpr (by have := a1.len; simp at this ⊢; omega)]
      | some v =>
        obtain ⟨d, hd, rd⟩ := a1.get' z
        rw [List.getElem?_map] at hd ⊢
        cases y : ns[i]? with
        | none => rw [y] at hd; cases hd
        | some m => rw [y] at hd; cases hd; rw [rd.int_inv]; rfl
    subst ex
    exact ⟨l, ns, rfl, .inl (.inl (w.sub _ _ e1)), q _ _ _ (Stp.refl w) (.int _)⟩) hg (by decide) (by decide) he hpl
end
end Z

end
section
namespace Z
open PySem PySem.Spec PyProof.Rows L2
section
variable {X : Cx} {e a b c : Expr} {es rest' : List Expr} {σ : L2.St} {F H : Hp} {O O1 O2 O3 : Own} {d da db : PyData} {ds : List PyData} {pos : Pos} {i j : Int} {k k1 k2 : Bool}

/-! ### tests -/
theorem zt_val (h : ZE X e σ F O (.bool k) O1) (he : ∀ whole, isTrue e X.env whole = (do let v ← whole; standAt e.pos; holding [v] (truthy v)) := by intro _; rfl) : ZT X e σ F O k O1 := fun F1 H g w Q q =>
  wT_of (pt_val pe_w he) (h F1 H g w _ fun v F2 H2 s1 r1 => ⟨k, r1.bl_inv, q _ _ s1⟩)
theorem zt_not (h : ZT X a σ F O k O1) : ZT X (.UnaryOp .Not a pos) σ F O (!k) O1 := fun F1 H g w Q q => wT_of (pt_not pt_w) (h F1 H g w _ fun F2 H2 s1 => q _ _ s1)
theorem ze_not (h : ZE X a σ F O (.bool k) O1) : ZE X (.UnaryOp .Not a pos) σ F O (.bool (!k)) O1 := fun F1 H g w Q q =>
  wE_of (pe_not pe_w) (h F1 H g w _ fun v F2 H2 s1 r1 => ⟨k, r1.bl_inv, q _ _ _ s1 (.bl _)⟩)
/-- not a, a of any kind whose truth is known: a test -/
theorem zt_truth (h : ZE X e σ F O d O1) (ht : ∀ F2 H2 v, Gr F F2 → WOk F2 O1 H2 → R X.K F2 v d → TruV X.K v H2 k) (he : ∀ whole, isTrue e X.env whole = (do let v ← whole; standAt e.pos; holding [v] (truthy v)) := by intro _; rfl) : ZT X e σ F O k O1 := fun F1 H g w Q q =>
  wT_of (pt_truth pe_w he) (h F1 H g w _ fun v F2 H2 s1 r1 => ⟨k, ht F2 H2 v (g.trans s1.gr) s1.ok r1, q _ _ s1⟩)
theorem ra_empty {K : PySem.W.Frag} {F : Hp} {vs : List V} (h : RA K F vs ds) : vs.isEmpty = ds.isEmpty := by
  have := h.len
  cases vs <;> cases ds <;> first | rfl | (simp at this)
theorem zt_trL (h : ZE X e σ F O (.list ds) O1) (he : ∀ whole, isTrue e X.env whole = (do let v ← whole; standAt e.pos; holding [v] (truthy v)) := by intro _; rfl) : ZT X e σ F O (!ds.isEmpty) O1 := zt_truth h (fun F2 H2 v _ w r => by
  obtain ⟨l, xs, rfl, e1, a1⟩ := r.lst_inv
  exact .inl ⟨xs, .inl (.inl (w.sub _ _ e1)), by rw [ra_empty a1]⟩) he
theorem zt_trT (h : ZE X e σ F O (.tuple ds) O1) (he : ∀ whole, isTrue e X.env whole = (do let v ← whole; standAt e.pos; holding [v] (truthy v)) := by intro _; rfl) : ZT X e σ F O (!ds.isEmpty) O1 := zt_truth h (fun F2 H2 v _ w r => by
  obtain ⟨l, xs, rfl, e1, a1⟩ := r.tup_inv
  exact .inr (.inl ⟨xs, w.sub.sqT e1, by rw [ra_empty a1]⟩)) he
theorem zt_trI (h : ZE X e σ F O (.int i) O1) (he : ∀ whole, isTrue e X.env whole = (do let v ← whole; standAt e.pos; holding [v] (truthy v)) := by intro _; rfl) : ZT X e σ F O (i != 0) O1 := zt_truth h (fun F2 H2 v _ w r => by
  rw [r.int_inv]; exact rfl) he
theorem zt_trS {s : Str} (h : ZE X e σ F O (.str s) O1) (hz : s.length ≤ sizeLine) (he : ∀ whole, isTrue e X.env whole = (do let v ← whole; standAt e.pos; holding [v] (truthy v)) := by intro _; rfl) : ZT X e σ F O ((s.length : Int) != 0) O1 := zt_truth h (fun F2 H2 v _ w r => by
  rw [r.str_inv]; exact ⟨hz, rfl⟩) he
theorem zt_trO (n m : Nat) {x : Str} {p : Addr} {vs : List V} (hσ : σ[n]? = some (some (.ref p))) (hO : O[m]? = some (p, .lst vs)) (hr : RA X.K F vs ds) (hN : X.N[n]? = some x := by rfl)
    (hv : Vis X.env.scope x := by first | exact Or.inl rfl | exact Or.inr (Or.inl rfl) | exact Or.inr (Or.inr rfl)) (hd : (x == ("__debug__" : Str)) = false := by decide) (hcd : (x == ("__classdict__" : Str)) = false := by decide)
    (he : ∀ whole, isTrue (.Name x pos) X.env whole = (do let v ← whole; standAt (Expr.Name x pos).pos; holding [v] (truthy v)) := by intro _; rfl) : ZT X (.Name x pos) σ F O (!ds.isEmpty) O := fun F1 H g w Q q =>
  wT_of (pt_truth (pe_var hN hv hd hcd) he) ⟨_, hσ, _, .inl ⟨vs, .inl (.inl (w.at_ hO).1), by rw [ra_empty hr]⟩, q _ _ (Stp.refl w)⟩
theorem zt_w (h : ZW X e σ F O k O1) : ZT X e σ F O k O1 := fun F1 H g w Q q => wT_of pw_w.pt (h F1 H g w Q q)
theorem zw_and1 (ha : ZT X a σ F O k O1) : ZW X (.BoolOp .And [a] pos) σ F O k O1 := fun F1 H g w Q q => wW_of (pw_and1 pt_w) (ha F1 H g w Q q)
theorem zw_or1 (ha : ZT X a σ F O k O1) : ZW X (.BoolOp .Or [a] pos) σ F O k O1 := fun F1 H g w Q q => wW_of (pw_or1 pt_w) (ha F1 H g w Q q)
theorem zw_and (ha : ZT X a σ F O k1 O1) (hb : k1 = true → ZW X (.BoolOp .And (b :: rest') pos) σ F O1 k2 O1) : ZW X (.BoolOp .And (a :: b :: rest') pos) σ F O (k1 && k2) O1 := fun F1 H g w Q q =>
  wW_of (pw_and pt_w pw_w) (ha F1 H g w _ fun F2 H2 s1 => by
    cases k1 with
    | true => exact hb rfl F2 H2 (g.trans s1.gr) s1.ok _ fun F3 H3 s2 => q _ _ (s1.trans s2)
    | false => exact q _ _ s1)
theorem zw_or (ha : ZT X a σ F O k1 O1) (hb : k1 = false → ZW X (.BoolOp .Or (b :: rest') pos) σ F O1 k2 O1) : ZW X (.BoolOp .Or (a :: b :: rest') pos) σ F O (k1 || k2) O1 := fun F1 H g w Q q =>
  wW_of (pw_or pt_w pw_w) (ha F1 H g w _ fun F2 H2 s1 => by
    cases k1 with
    | false => exact hb rfl F2 H2 (g.trans s1.gr) s1.ok _ fun F3 H3 s2 => q _ _ (s1.trans s2)
    | true => exact q _ _ s1)
/-- stateful: the state behind hangs on the first -/
theorem zw_andS {α : Type} {s1 s2 : α} (G : α → Own) (ha : ZT X a σ F O k1 (G s1)) (hb : k1 = true → ZW X (.BoolOp .And (b :: rest') pos) σ F (G s1) k2 (G s2)) : ZW X (.BoolOp .And (a :: b :: rest') pos) σ F O (k1 && k2) (G (if k1 then s2 else s1)) := fun F1 H g w Q q =>
  wW_of (pw_and pt_w pw_w) (ha F1 H g w _ fun F2 H2 t1 => by
    cases k1 with
    | true => exact hb rfl F2 H2 (g.trans t1.gr) t1.ok _ fun F3 H3 t2 => q _ _ (t1.trans t2)
    | false => exact q _ _ t1)
theorem zw_orS {α : Type} {s1 s2 : α} (G : α → Own) (ha : ZT X a σ F O k1 (G s1)) (hb : k1 = false → ZW X (.BoolOp .Or (b :: rest') pos) σ F (G s1) k2 (G s2)) : ZW X (.BoolOp .Or (a :: b :: rest') pos) σ F O (k1 || k2) (G (if k1 then s1 else s2)) := fun F1 H g w Q q =>
  wW_of (pw_or pt_w pw_w) (ha F1 H g w _ fun F2 H2 t1 => by
    cases k1 with
    | false => exact hb rfl F2 H2 (g.trans t1.gr) t1.ok _ fun F3 H3 t2 => q _ _ (t1.trans t2)
    | true => exact q _ _ t1)
theorem ze_one {op : BoolOp} (h : ZE X a σ F O d O1) : ZE X (.BoolOp op [a] pos) σ F O d O1 := fun F1 H g w Q q => wE_of (pe_one pe_w) (h F1 H g w Q q)
theorem ze_and (ha : ZE X a σ F O (.bool k1) O1) (hb : k1 = true → ZE X (.BoolOp .And (b :: rest') pos) σ F O1 (.bool k2) O1) : ZE X (.BoolOp .And (a :: b :: rest') pos) σ F O (.bool (k1 && k2)) O1 := fun F1 H g w Q q =>
  wE_of (pe_and pe_w pe_w) (ha F1 H g w _ fun v F2 H2 s1 r1 => ⟨k1, r1.bl_inv, by
    cases k1 with
    | true => exact hb rfl F2 H2 (g.trans s1.gr) s1.ok _ fun v F3 H3 s2 r2 => q _ _ _ (s1.trans s2) r2
    | false => exact q _ _ _ s1 (.bl _)⟩)
theorem ze_or (ha : ZE X a σ F O (.bool k1) O1) (hb : k1 = false → ZE X (.BoolOp .Or (b :: rest') pos) σ F O1 (.bool k2) O1) : ZE X (.BoolOp .Or (a :: b :: rest') pos) σ F O (.bool (k1 || k2)) O1 := fun F1 H g w Q q =>
  wE_of (pe_or pe_w pe_w) (ha F1 H g w _ fun v F2 H2 s1 r1 => ⟨k1, r1.bl_inv, by
    cases k1 with
    | false => exact hb rfl F2 H2 (g.trans s1.gr) s1.ok _ fun v F3 H3 s2 r2 => q _ _ _ (s1.trans s2) r2
    | true => exact q _ _ _ s1 (.bl _)⟩)
/-- a if c else b -/
theorem ze_if {α β : Type} (f : α → PyData) (G : β → Own) {x y : α} {s1 s2 : β} (hc : ZT X c σ F O k O1) (ha : k = true → ZE X a σ F O1 (f x) (G s1)) (hb : k = false → ZE X b σ F O1 (f y) (G s2)) : ZE X (.IfExp c a b pos) σ F O (f (if k then x else y)) (G (if k then s1 else s2)) := fun F1 H g w Q q =>
  wE_of (pe_ifExp pt_w pe_w pe_w) (hc F1 H g w _ fun F2 H2 t1 => by
    cases k with
    | true => exact ha rfl F2 H2 (g.trans t1.gr) t1.ok _ fun v F3 H3 t2 r2 => q _ _ _ (t1.trans t2) r2
    | false => exact hb rfl F2 H2 (g.trans t1.gr) t1.ok _ fun v F3 H3 t2 r2 => q _ _ _ (t1.trans t2) r2)
theorem ze_if0 {α : Type} (f : α → PyData) {x y : α} (hc : ZT X c σ F O k O1) (ha : k = true → ZE X a σ F O1 (f x) O2) (hb : k = false → ZE X b σ F O1 (f y) O2) : ZE X (.IfExp c a b pos) σ F O (f (if k then x else y)) O2 := fun F1 H g w Q q =>
  wE_of (pe_ifExp pt_w pe_w pe_w) (hc F1 H g w _ fun F2 H2 t1 => by
    cases k with
    | true => exact ha rfl F2 H2 (g.trans t1.gr) t1.ok _ fun v F3 H3 t2 r2 => q _ _ _ (t1.trans t2) r2
    | false => exact hb rfl F2 H2 (g.trans t1.gr) t1.ok _ fun v F3 H3 t2 r2 => q _ _ _ (t1.trans t2) r2)
/-- a op1 b op2 c, pure operands -/
theorem ze_chain {op op' : CmpOp} {dc : PyData} (h1 : CmpR X op F O da db k1) (h2 : CmpR X op' F O db dc k2) (ha : ZE X a σ F O da O) (hb : ZE X b σ F O db O) (hc : ZE X c σ F O dc O) (hm : lastMarks [op, op'] [b, c] = false := by with_unfolding_all rfl) :
    ZE X (.Compare a [op, op'] [b, c] pos) σ F O (.bool (k1 && k2)) O := fun F1 H g w Q q => by
  obtain ⟨r1, ho1, hr1⟩ := h1.r
  obtain ⟨r2, ho2, hr2⟩ := h2.r
  refine wE_of (pe_chain ho1 ho2 pe_w pe_w pe_w hm) (ha F1 H g w _ fun x F2 H2 s1 q1 => hb F2 H2 (g.trans s1.gr) s1.ok _ fun y F3 H3 s2 q2 => hr1 F3 H3 x y (g.trans (s1.gr.trans s2.gr)) s2.ok (q1.mono s2.gr) q2 _ ⟨k1, rfl, ?_⟩)
  cases k1 with
  | true => exact hc F3 H3 (g.trans (s1.gr.trans s2.gr)) s2.ok _ fun z F4 H4 s3 q3 => hr2 F4 H4 y z (g.trans (s1.gr.trans (s2.gr.trans s3.gr))) s3.ok (q2.mono s3.gr) q3 _ (q _ _ _ (s1.trans (s2.trans s3)) (.bl _))
  | false => exact q _ _ _ (s1.trans s2) (.bl _)
theorem zt_chain {op op' : CmpOp} {dc : PyData} (h1 : CmpR X op F O da db k1) (h2 : CmpR X op' F O db dc k2) (ha : ZE X a σ F O da O) (hb : ZE X b σ F O db O) (hc : ZE X c σ F O dc O) (hm : lastMarks [op, op'] [b, c] = false := by with_unfolding_all rfl) :
    ZT X (.Compare a [op, op'] [b, c] pos) σ F O (k1 && k2) O := fun F1 H g w Q q => by
  obtain ⟨r1, ho1, hr1⟩ := h1.r
  obtain ⟨r2, ho2, hr2⟩ := h2.r
  refine wT_of (pt_chain ho1 ho2 pe_w pe_w pe_w hm) (ha F1 H g w _ fun x F2 H2 s1 q1 => hb F2 H2 (g.trans s1.gr) s1.ok _ fun y F3 H3 s2 q2 => hr1 F3 H3 x y (g.trans (s1.gr.trans s2.gr)) s2.ok (q1.mono s2.gr) q2 _ ⟨k1, rfl, ?_⟩)
  cases k1 with
  | true => exact hc F3 H3 (g.trans (s1.gr.trans s2.gr)) s2.ok _ fun z F4 H4 s3 q3 => hr2 F4 H4 y z (g.trans (s1.gr.trans (s2.gr.trans s3.gr))) s3.ok (q2.mono s3.gr) q3 _ ⟨_, rfl, q _ _ (s1.trans (s2.trans s3))⟩
  | false => exact ⟨_, rfl, q _ _ (s1.trans s2)⟩

/-! ### statements -/
variable {st : Stmt} {rest body els : List Stmt} {D : Ends} {n : Nat} {x : Str} {px : Pos}
theorem zs_nil (h : D.nx σ H) : ZS X [] σ H D := wSs_of pss_nil h
theorem zs_set (w : WOk F O H) (he : ZE X e σ F O d O1) (hN : X.N.Nodup) (hi : X.N[n]? = some x) (hx : Loc X.env.scope x) (kk : ∀ v F1 H1, Stp F O H F1 O1 H1 → R X.K F1 v d → ZS X rest (σ.set n (some v)) H1 D)
    (hs : swapsWith e (some (.Name x px)) pos.line X.env = pure false := by rfl) (hf : X.fn x = true ∨ X.env.scope.names.lookup x = some .local := by first | exact .inl rfl | exact .inr rfl | assumption) : ZS X (.Assign [.Name x px] e pos :: rest) σ H D :=
  wSs_of (pss_cons (ps_set hN hi hx pe_w hs hf) pss_w) (he F H Gr.refl w _ fun v F1 H1 s1 r1 => kk v F1 H1 s1 r1)
theorem zs_setN (w : WOk F O H) (he : ZN X e σ F O ds O1) (hN : X.N.Nodup) (hi : X.N[n]? = some x) (hx : Loc X.env.scope x) (kk : ∀ p vs F1 H1, H p = none → Stp F O H F1 ((p, .lst vs) :: O1) H1 → RA X.K F1 vs ds → ZS X rest (σ.set n (some (.ref p))) H1 D)
    (hs : swapsWith e (some (.Name x px)) pos.line X.env = pure false := by rfl) (hf : X.fn x = true ∨ X.env.scope.names.lookup x = some .local := by first | exact .inl rfl | exact .inr rfl | assumption) : ZS X (.Assign [.Name x px] e pos :: rest) σ H D :=
  wSs_of (pss_cons (ps_set hN hi hx pe_w hs hf) pss_w) (he F H Gr.refl w _ fun p vs F1 H1 hp s1 r1 => kk p vs F1 H1 hp s1 r1)
theorem zs_ret (w : WOk F O H) (he : ZE X e σ F O d O1) (kk : ∀ v F1 H1, Stp F O H F1 O1 H1 → R X.K F1 v d → D.rt v H1) : ZS X (.Return (some e) pos :: rest) σ H D :=
  wSs_of (pss_cons (ps_ret pe_w) pss_w) (he F H Gr.refl w _ fun v F1 H1 s1 r1 => kk v F1 H1 s1 r1)
theorem zs_retN (w : WOk F O H) (he : ZN X e σ F O ds O1) (kk : ∀ p vs F1 H1, H p = none → Stp F O H F1 ((p, .lst vs) :: O1) H1 → RA X.K F1 vs ds → D.rt (.ref p) H1) : ZS X (.Return (some e) pos :: rest) σ H D :=
  wSs_of (pss_cons (ps_ret pe_w) pss_w) (he F H Gr.refl w _ fun p vs F1 H1 hp s1 r1 => kk p vs F1 H1 hp s1 r1)
/-- return of a slot as it stands (a list that is mine) -/
theorem zs_retV {v : V} (hσ : σ[n]? = some (some v)) (kk : D.rt v H) (hN : X.N[n]? = some x := by rfl) (hv : Vis X.env.scope x := by first | exact Or.inl rfl | exact Or.inr (Or.inl rfl) | exact Or.inr (Or.inr rfl)) (hd : (x == ("__debug__" : Str)) = false := by decide)
    (hcd : (x == ("__classdict__" : Str)) = false := by decide) : ZS X (.Return (some (.Name x px)) pos :: rest) σ H D :=
  wSs_of (pss_cons (ps_ret (pe_var hN hv hd hcd)) pss_w) ⟨v, hσ, kk⟩
theorem zs_ret0 (kk : D.rt .non H) : ZS X (.Return none pos :: rest) σ H D := wSs_of (pss_cons ps_retN pss_w) kk
theorem zs_if (w : WOk F O H) (hc : ZT X c σ F O k O1) (h1 : k = true → ∀ F1 H1, Stp F O H F1 O1 H1 → ZS X body σ H1 { D with nx := fun σ' H' => ZS X rest σ' H' D }) (h2 : k = false → ∀ F1 H1, Stp F O H F1 O1 H1 → ZS X els σ H1 { D with nx := fun σ' H' => ZS X rest σ' H' D }) : ZS X (.If c body els pos :: rest) σ H D :=
  wSs_of (pss_cons (ps_if pt_w pss_w pss_w) pss_w) (hc F H Gr.refl w _ fun F1 H1 s1 => by
    cases k with
    | true => exact h1 rfl F1 H1 s1
    | false => exact h2 rfl F1 H1 s1)
theorem zs_brk (h : D.bk σ H) : ZS X (.Break pos :: rest) σ H D := wSs_of (pss_cons ps_break pss_w) h
theorem zs_cont (h : D.ct σ H) : ZS X (.Continue pos :: rest) σ H D := wSs_of (pss_cons ps_continue pss_w) h
theorem zs_pass (h : ZS X rest σ H D) : ZS X (.Pass pos :: rest) σ H D := wSs_of (pss_cons ps_pass pss_w) h
theorem zs_expr (w : WOk F O H) (he : ZE X e σ F O d O1) (kk : ∀ F1 H1, Stp F O H F1 O1 H1 → ZS X rest σ H1 D) (hs : swapsWith e none pos.line X.env = pure false := by rfl) : ZS X (.Expr e pos :: rest) σ H D :=
  wSs_of (pss_cons (ps_expr pe_w hs) pss_w) (he F H Gr.refl w _ fun v F1 H1 s1 r1 => kk F1 H1 s1)

/-! ### targets -/
theorem zg_name {v : V} {Q : L2.St → Hp → Prop} (hN : X.N.Nodup) (hi : X.N[n]? = some x) (hx : Loc X.env.scope x) (q : Q (σ.set n (some v)) H) (hf : X.fn x = true ∨ X.env.scope.names.lookup x = some .local := by first | exact .inl rfl | exact .inr rfl | assumption) : wG X (.Name x px) v σ H Q :=
  wG_of (pg_name hN hi hx hf) q
theorem zg_tup2 {m : Nat} {y : Str} {py : Pos} {kk : Nat} {v : V} {Q : L2.St → Hp → Prop} (hc : X.calm = true) (hN : X.N.Nodup) (hi : X.N[n]? = some x) (hx : Loc X.env.scope x) (hj : X.N[m]? = some y) (hy : Loc X.env.scope y) (r : R X.K F v (.tuple [da, db])) (w : WOk F O H)
    (q : ∀ v1 v2, R X.K F v1 da → R X.K F v2 db → Q ((σ.set n (some v1)).set m (some v2)) H) (hn : (assignEach [.Name x px, .Name y py] X.env).length = 2 := by rfl) (hst : (assignEach [.Name x px, .Name y py] X.env).findIdx? (·.1) = none := by rfl)
    (hs1 : (assignEach (.Name x px :: [.Name y py]) X.env).map (·.2) = assign (.Name x px) X.env :: (assignEach [.Name y py] X.env).map (·.2) := by rfl) (hs2 : (assignEach (.Name y py :: []) X.env).map (·.2) = assign (.Name y py) X.env :: (assignEach [] X.env).map (·.2) := by rfl)
    (hf : X.fn x = true ∨ X.env.scope.names.lookup x = some .local := by first | exact .inl rfl | exact .inr rfl | assumption) (hf2 : X.fn y = true ∨ X.env.scope.names.lookup y = some .local := by first | exact .inl rfl | exact .inr rfl | assumption) : wG X (.Tuple [.Name x px, .Name y py] kk pos) v σ H Q := by
  obtain ⟨l, xs, rfl, e1, a1⟩ := r.tup_inv
  obtain ⟨v1, v2, rfl, r1, r2⟩ := a1.two
  exact wG_of (pg_tup hc (pgs_cons (pg_name hN hi hx hf) (pgs_cons (pg_name hN hj hy hf2) pgs_nil hs2) hs1) hn hst) ⟨l, [v1, v2], rfl, w.sub.sqT e1, rfl, v1, [v2], rfl, v2, [], rfl, rfl, q v1 v2 r1 r2⟩
theorem zg_tup3 {m m3 : Nat} {y z : Str} {py pz : Pos} {kk : Nat} {v : V} {dc : PyData} {Q : L2.St → Hp → Prop} (hc : X.calm = true) (hN : X.N.Nodup) (hi : X.N[n]? = some x) (hx : Loc X.env.scope x) (hj : X.N[m]? = some y) (hy : Loc X.env.scope y) (hj3 : X.N[m3]? = some z) (hz : Loc X.env.scope z) (r : R X.K F v (.tuple [da, db, dc])) (w : WOk F O H)
    (q : ∀ v1 v2 v3, R X.K F v1 da → R X.K F v2 db → R X.K F v3 dc → Q (((σ.set n (some v1)).set m (some v2)).set m3 (some v3)) H) (hn : (assignEach [.Name x px, .Name y py, .Name z pz] X.env).length = 3 := by rfl) (hst : (assignEach [.Name x px, .Name y py, .Name z pz] X.env).findIdx? (·.1) = none := by rfl)
    (hs1 : (assignEach (.Name x px :: [.Name y py, .Name z pz]) X.env).map (·.2) = assign (.Name x px) X.env :: (assignEach [.Name y py, .Name z pz] X.env).map (·.2) := by rfl) (hs2 : (assignEach (.Name y py :: [.Name z pz]) X.env).map (·.2) = assign (.Name y py) X.env :: (assignEach [.Name z pz] X.env).map (·.2) := by rfl)
    (hs3 : (assignEach (.Name z pz :: []) X.env).map (·.2) = assign (.Name z pz) X.env :: (assignEach [] X.env).map (·.2) := by rfl)
    (hf : X.fn x = true ∨ X.env.scope.names.lookup x = some .local := by first | exact .inl rfl | exact .inr rfl | assumption) (hf2 : X.fn y = true ∨ X.env.scope.names.lookup y = some .local := by first | exact .inl rfl | exact .inr rfl | assumption) (hf3 : X.fn z = true ∨ X.env.scope.names.lookup z = some .local := by first | exact .inl rfl | exact .inr rfl | assumption) : wG X (.Tuple [.Name x px, .Name y py, .Name z pz] kk pos) v σ H Q := by
  obtain ⟨l, xs, rfl, e1, a1⟩ := r.tup_inv
  obtain ⟨v1, ws, rfl, r1, a2⟩ := a1.cons_inv
  obtain ⟨v2, v3, rfl, r2, r3⟩ := a2.two
  exact wG_of (pg_tup hc (pgs_cons (pg_name hN hi hx hf) (pgs_cons (pg_name hN hj hy hf2) (pgs_cons (pg_name hN hj3 hz hf3) pgs_nil hs3) hs2) hs1) hn hst) ⟨l, [v1, v2, v3], rfl, w.sub.sqT e1, rfl, v1, [v2, v3], rfl, v2, [v3], rfl, v3, [], rfl, rfl, q v1 v2 v3 r1 r2 r3⟩
/-- target = value -/
theorem zs_asg (w : WOk F O H) {tg : Expr} (he : ZE X e σ F O d O1) (kk : ∀ v F1 H1, Stp F O H F1 O1 H1 → R X.K F1 v d → wG X tg v σ H1 fun σ2 H2 => ZS X rest σ2 H2 D)
    (hs : swapsWithSole [tg] e pos.line X.env = pure false := by rfl) (hw : swappedStores [tg] e X.env = pure none := by rfl) (h1 : (assignEach [tg] X.env).map (·.2) = [assign tg X.env] := by rfl) : ZS X (.Assign [tg] e pos :: rest) σ H D :=
  wSs_of (pss_cons (ps_asg pe_w pg_w hs hw h1) pss_w) (he F H Gr.refl w _ fun v F1 H1 s1 r1 => kk v F1 H1 s1 r1)
/-- x += e, x -= e -/
theorem zs_augAdd (w : WOk F O H) (hσ : σ[n]? = some (some (.int i))) (he : ZE X e σ F O (.int j) O1) (hN : X.N.Nodup) (hi : X.N[n]? = some x) (hx : Loc X.env.scope x) (kk : ∀ F1 H1, Stp F O H F1 O1 H1 → ZS X rest (σ.set n (some (.int (i + j)))) H1 D)
    (hf : X.fn x = true ∨ X.env.scope.names.lookup x = some .local := by first | exact .inl rfl | exact .inr rfl | assumption) : ZS X (.AugAssign (.Name x px) .Add e pos :: rest) σ H D :=
  wSs_of (pss_cons (ps_aug hN hi hx pe_w ip_add hf) pss_w) ⟨_, hσ, he F H Gr.refl w _ fun v F1 H1 s1 r1 => ⟨i, j, rfl, r1.int_inv, kk F1 H1 s1⟩⟩
theorem zs_augSub (w : WOk F O H) (hσ : σ[n]? = some (some (.int i))) (he : ZE X e σ F O (.int j) O1) (hN : X.N.Nodup) (hi : X.N[n]? = some x) (hx : Loc X.env.scope x) (kk : ∀ F1 H1, Stp F O H F1 O1 H1 → ZS X rest (σ.set n (some (.int (i - j)))) H1 D)
    (hf : X.fn x = true ∨ X.env.scope.names.lookup x = some .local := by first | exact .inl rfl | exact .inr rfl | assumption) : ZS X (.AugAssign (.Name x px) .Sub e pos :: rest) σ H D :=
  wSs_of (pss_cons (ps_aug hN hi hx pe_w ip_sub hf) pss_w) ⟨_, hσ, he F H Gr.refl w _ fun v F1 H1 s1 r1 => ⟨i, j, rfl, r1.int_inv, kk F1 H1 s1⟩⟩

/-! ### lists that are mine -/
variable {m : Nat} {p : Addr} {vs : List V} {apos cpos : Pos}
theorem zs_append (w : WOk F O H) (n m : Nat) (hσ : σ[n]? = some (some (.ref p))) (he : ZE X e σ F O d O1) (hO : O1[m]? = some (p, .lst vs)) (hz : vs.length < sizeLine) (kk : ∀ v F1 H1, Stp F O H F1 (O1.set m (p, .lst (vs ++ [v]))) H1 → R X.K F1 v d → ZS X rest σ H1 D)
    (hN : X.N[n]? = some x := by rfl) (hO0 : ∃ o, O[m]? = some (p, .lst o) := by exact ⟨_, rfl⟩) (hv : Vis X.env.scope x := by first | exact Or.inl rfl | exact Or.inr (Or.inl rfl) | exact Or.inr (Or.inr rfl)) (hd : (x == ("__debug__" : Str)) = false := by decide) (hcd : (x == ("__classdict__" : Str)) = false := by decide)
    (hs : swapsWith (.Call (.Attribute (.Name x px) "append" apos) [e] [] cpos) none pos.line X.env = pure false := by rfl)
    (hbase : attributeBase (.Name x px) "append" X.env (eval (.Name x px) X.env) = eval (.Name x px) X.env := by rfl)
    (hfew : ((backTo cpos (starEach (e :: []) X.env)).all (fun x => !x.1) && (backToKw cpos (keywordEach [] X.env)).all (fun x => x.1.isSome)
      && decide ((e :: []).length + ([] : List Keyword).length + (if ([] : List Keyword).isEmpty then 0 else 1) < 30)) = true := by rfl)
    (hline : (apos.endLine == cpos.line) = true := by rfl) (hse : starEach (e :: []) X.env = (false, eval e X.env) :: starEach [] X.env := by rfl) (hplain : (backTo cpos (starEach [] X.env)).any (·.1) = false := by rfl) :
    ZS X (.Expr (.Call (.Attribute (.Name x px) "append" apos) [e] [] cpos) pos :: rest) σ H D := by
  obtain ⟨o0, hO0⟩ := hO0
  refine wSs_of (pss_cons (ps_expr (pe_bm PySem.F.plainAttrs_list PySem.F.slot_list_append PySem.F.type_list_append mt_append (pe_var hN hv hd hcd) (pa_cons pe_w pa_nil hse) hbase hfew hline hse hplain) hs) pss_w) ?_
  refine ⟨_, hσ, .inl ⟨rfl, _, .inl (.inl (w.at_ hO0).1)⟩, he F H Gr.refl w _ fun v F1 H1 s1 r1 => ?_⟩
  exact ⟨p, vs, v, rfl, rfl, (s1.ok.at_ hO).1, hz, kk v _ _ (s1.trans (Stp.write s1.ok hO (by show (vs ++ [v]).length ≤ _; rw [List.length_append]; exact hz))) r1⟩
theorem zs_reverse (w : WOk F O H) (n m : Nat) (hσ : σ[n]? = some (some (.ref p))) (hO : O[m]? = some (p, .lst vs)) (kk : ∀ H1, Stp F O H F (O.set m (p, .lst vs.reverse)) H1 → ZS X rest σ H1 D)
    (hN : X.N[n]? = some x := by rfl) (hv : Vis X.env.scope x := by first | exact Or.inl rfl | exact Or.inr (Or.inl rfl) | exact Or.inr (Or.inr rfl)) (hd : (x == ("__debug__" : Str)) = false := by decide) (hcd : (x == ("__classdict__" : Str)) = false := by decide)
    (hs : swapsWith (.Call (.Attribute (.Name x px) "reverse" apos) [] [] cpos) none pos.line X.env = pure false := by rfl)
    (hbase : attributeBase (.Name x px) "reverse" X.env (eval (.Name x px) X.env) = eval (.Name x px) X.env := by rfl)
    (hline : (apos.endLine == cpos.line) = true := by rfl) : ZS X (.Expr (.Call (.Attribute (.Name x px) "reverse" apos) [] [] cpos) pos :: rest) σ H D := by
  refine wSs_of (pss_cons (ps_expr (pe_bm0 PySem.F.plainAttrs_list PySem.F.slot_list_reverse PySem.F.type_list_reverse mt_reverse (pe_var hN hv hd hcd) hbase hline) hs) pss_w) ?_
  exact ⟨_, hσ, .inl ⟨rfl, _, .inl (.inl (w.at_ hO).1)⟩, p, vs, rfl, rfl, (w.at_ hO).1, kk _ (Stp.write w hO (by show vs.reverse.length ≤ _; rw [List.length_reverse]; exact w.szo _ (List.mem_of_getElem? hO) _ rfl))⟩
theorem zs_setItem (w : WOk F O H) (n m : Nat) {ie : Expr} {ip : Pos} {q : Nat} (hσ : σ[n]? = some (some (.ref p))) (he : ZE X e σ F O d O1) (hi : ZE X ie σ F O1 (.int i) O1) (hO : O1[m]? = some (p, .lst vs)) (hq : ixN vs.length i = some q) (kk : ∀ v F1 H1, Stp F O H F1 (O1.set m (p, .lst (vs.set q v))) H1 → R X.K F1 v d → ZS X rest σ H1 D)
    (hN : X.N[n]? = some x := by rfl) (hv : Vis X.env.scope x := by first | exact Or.inl rfl | exact Or.inr (Or.inl rfl) | exact Or.inr (Or.inr rfl)) (hd : (x == ("__debug__" : Str)) = false := by decide) (hcd : (x == ("__classdict__" : Str)) = false := by decide)
    (hs : swapsWithSole [.Subscript (.Name x px) ie ip] e pos.line X.env = pure false := by rfl) (hw : swappedStores [.Subscript (.Name x px) ie ip] e X.env = pure none := by rfl) (h1 : (assignEach [.Subscript (.Name x px) ie ip] X.env).map (·.2) = [assign (.Subscript (.Name x px) ie ip) X.env] := by rfl)
    (ha : ∀ v, assign (.Subscript (.Name x px) ie ip) X.env v = (do
      let ov ← holding [v] (eval (.Name x px) X.env)
      let iv ← holding [v, ov] (eval ie X.env)
      standAt ip
      holding [v, ov, iv] (setItem ov iv v)
      release [v, ov, iv] []) := by intro _; rfl) : ZS X (.Assign [.Subscript (.Name x px) ie ip] e pos :: rest) σ H D := by
  refine wSs_of (pss_cons (ps_asg pe_w (pg_sub (pe_var hN hv hd hcd) pe_w set_list ha) hs hw h1) pss_w) ?_
  refine he F H Gr.refl w _ fun v F1 H1 s1 r1 => ⟨_, hσ, hi F1 H1 s1.gr s1.ok _ fun iv F2 H2 s2 r2 => ?_⟩
  exact ⟨p, vs, i, q, rfl, r2.int_inv, (s2.ok.at_ hO).1, hq, kk v _ _ (s1.trans (s2.trans (Stp.write s2.ok hO (by show (vs.set q v).length ≤ _; rw [List.length_set]; exact s2.ok.szo _ (List.mem_of_getElem? hO) _ rfl)))) (r1.mono s2.gr)⟩
end
end Z

end
section
namespace Z
open PySem PySem.Spec PyProof.Rows L2

/-! ### what is walked -/
/-- the walk gives the data ds, one after another, while F stays -/
structure Walks (K : PySem.W.Frag) (J : It) (F : Hp) (ds : List PyData) : Prop where
  sz : ds.length ≤ sizeLine
  go : ∀ F3 O3 H3, Gr F F3 → WOk F3 O3 H3 → ∀ i, i < ds.length → J.go i H3
  stop : ∀ F3 O3 H3, Gr F F3 → WOk F3 O3 H3 → ∀ i, ds.length ≤ i → J.stop i H3
  yld : ∀ F3 O3 H3, Gr F F3 → WOk F3 O3 H3 → ∀ i x H' d, ds[i]? = some d → J.yld i H3 x H' → ∃ F', Stp F3 O3 H3 F' O3 H' ∧ R K F' x d
def ZI (X : Cx) (tg iter : Expr) (σ : L2.St) (F : Hp) (O : Own) (ds : List PyData) (O' : Own) : Prop :=
  ∀ F1 H, Gr F F1 → WOk F1 O H → ∀ Q : It → Hp → Prop, (∀ J F2 H2, Stp F1 O H F2 O' H2 → Walks X.K J F2 ds → Q J H2) → wI X tg iter σ H Q
section
variable {K : PySem.W.Frag} {F F' H H' : Hp} {a : Addr} {xs : List V} {ds : List PyData}
theorem walks_list (e : F a = some (.lst xs)) (r : RA K F xs ds) (hz : ds.length ≤ sizeLine) : Walks K (Itl K a) F ds where
  sz := hz
  go := fun F3 O3 H3 g w i hi => ⟨xs, xs[i]'(by rw [r.len]; exact hi), .inl (.inl (w.sub _ _ (g _ _ e))), List.getElem?_eq_getElem _⟩
  stop := fun F3 O3 H3 g w i hi => ⟨xs, .inl (.inl (w.sub _ _ (g _ _ e))), by rw [r.len]; exact hi⟩
  yld := fun F3 O3 H3 g w i x H' d hd y => by
    obtain ⟨rfl, y⟩ := y
    have hx := y xs (.inl (.inl (w.sub _ _ (g _ _ e))))
    exact ⟨F3, Stp.refl w, (r.at_ i x d hx hd).mono g⟩
theorem walks_tup (e : SqT K F a xs) (r : RA K F xs ds) (hz : ds.length ≤ sizeLine) : Walks K (Itt K a) F ds where
  sz := hz
  go := fun F3 O3 H3 g w i hi => ⟨xs, xs[i]'(by rw [r.len]; exact hi), w.sub.sqT (g.sqT e), List.getElem?_eq_getElem _⟩
  stop := fun F3 O3 H3 g w i hi => ⟨xs, w.sub.sqT (g.sqT e), by rw [r.len]; exact hi⟩
  yld := fun F3 O3 H3 g w i x H' d hd y => by
    obtain ⟨rfl, y⟩ := y
    have hx := y xs (w.sub.sqT (g.sqT e))
    exact ⟨F3, Stp.refl w, (r.at_ i x d hx hd).mono g⟩
/-- lo, lo + 1, .. below hi -/
def rangeI (lo hi : Int) : List Int := (List.range (hi - lo).toNat).map fun i => lo + (i : Nat)
theorem rangeI_length (lo hi : Int) : (rangeI lo hi).length = (hi - lo).toNat := by simp [rangeI]
theorem walks_range {lo hi : Int} (hz : (hi - lo).toNat ≤ sizeLine) : Walks K (Itr lo (hi - lo).toNat) F ((rangeI lo hi).map .int) where
  sz := by simpa [rangeI] using hz
  go := fun F3 O3 H3 g w i h => by
    show i < (hi - lo).toNat
    rw [List.length_map, rangeI_length] at h
    exact h
  stop := fun F3 O3 H3 g w i h => by
    show (hi - lo).toNat ≤ i
    rw [List.length_map, rangeI_length] at h
    exact h
  yld := fun F3 O3 H3 g w i x H' d hd y => by
    obtain ⟨rfl, rfl⟩ := y
    refine ⟨F3, Stp.refl w, ?_⟩
    rw [List.getElem?_map] at hd
    cases z : (rangeI lo hi)[i]? with
    | none => rw [z] at hd; cases hd
    | some n =>
      rw [z] at hd; cases hd
      unfold rangeI at z
      rw [List.getElem?_map] at z
      cases y : (List.range (hi - lo).toNat)[i]? with
      | none => rw [y] at z; cases z
      | some q =>
        rw [y] at z; cases z
        have : q = i := by
          have := List.getElem?_eq_some_iff.mp y
          obtain ⟨_, h⟩ := this
          simpa using h.symm
        subst this
        exact .int _
theorem walks_enum (e : F a = some (.lst xs)) (r : RA K F xs ds) (hz : ds.length ≤ sizeLine) : Walks K (Ite K a) F (ds.zipIdx.map fun p => .tuple [.int (p.2 : Nat), p.1]) where
  sz := by simpa using hz
  go := fun F3 O3 H3 g w i hi => ⟨xs, xs[i]'(by rw [r.len]; simpa using hi), .inl (.inl (w.sub _ _ (g _ _ e))), List.getElem?_eq_getElem _⟩
  stop := fun F3 O3 H3 g w i hi => ⟨xs, .inl (.inl (w.sub _ _ (g _ _ e))), by rw [r.len]; simpa using hi⟩
  yld := fun F3 O3 H3 g w i x H' d hd y => by
    obtain ⟨T, v, rfl, hT, rfl, y⟩ := y
    have hx := y xs (.inl (.inl (w.sub _ _ (g _ _ e))))
    obtain ⟨d', hd', rv⟩ := r.get' hx
    have ed : d = .tuple [.int (i : Nat), d'] := by
      rw [List.getElem?_map, List.getElem?_zipIdx, hd'] at hd
      simpa using hd.symm
    subst ed
    have st := Stp.tupF (vs := [.int (i : Nat), v]) w hT
    exact ⟨_, st, ((RA.cons (.int _) (.cons (rv.mono (g.trans st.gr)) .nil)).tup upd_same)⟩
end
section
variable {X : Cx} {e a b c tg iter elt : Expr} {es : List Expr} {σ : L2.St} {F H : Hp} {O O1 O2 O3 : Own} {d da db : PyData} {ds rs : List PyData} {pos p : Pos} {i j : Int} {k k1 k2 : Bool}
theorem zi_list (h : ZE X e σ F O (.list ds) O1) : ZI X tg e σ F O ds O1 := fun F1 H g w Q q =>
  wI_of (pi_list pe_w) (h F1 H g w _ fun v F2 H2 s1 r1 => by
    have hz := r1.size s1.ok
    obtain ⟨l, xs, rfl, e1, a1⟩ := r1.lst_inv
    exact ⟨l, rfl, ⟨xs, .inl (.inl (s1.ok.sub _ _ e1))⟩, q _ _ _ s1 (walks_list e1 a1 hz)⟩)
theorem zi_tup (h : ZE X e σ F O (.tuple ds) O1) (hz : ds.length ≤ sizeLine := by show _ ≤ (16777216 : Nat); exact Nat.le_of_ble_eq_true rfl) : ZI X tg e σ F O ds O1 := fun F1 H g w Q q =>
  wI_of (pi_tup pe_w) (h F1 H g w _ fun v F2 H2 s1 r1 => by
    obtain ⟨l, xs, rfl, e1, a1⟩ := r1.tup_inv
    exact ⟨l, rfl, ⟨xs, s1.ok.sub.sqT e1⟩, q _ _ _ s1 (walks_tup e1 a1 hz)⟩)
theorem szL : (16777216 : Nat) = sizeLine := by show (16777216 : Nat) = _; rw [sizeLine_eq]
theorem zi_range1 (hm : X.mg "range" = none) (ha : ZE X a σ F O (.int i) O1) (hi : -16777216 ≤ i ∧ i ≤ 16777216) (hg : Gl X "range" := by rfl) (hs : starEach [a] X.env = [(false, eval a X.env)] := by rfl) : ZI X tg (.Call (.Name "range" p) [a] [] pos) σ F O ((rangeI 0 i).map .int) O1 := fun F1 H g w Q q =>
  wI_of (pi_range1 hg hm pa_w hs) (za_cons ha za_nil hs F1 H g w _ fun vs F2 H2 s1 r1 => by
    obtain ⟨v, rfl, r⟩ := r1.one
    refine ⟨i, by rw [r.int_inv], by omega, by omega, ?_⟩
    have e0 : i.toNat = (i - 0).toNat := by simp
    rw [e0]
    exact q _ _ _ s1 (walks_range (by rw [← szL]; omega)))
theorem zi_range2 (hm : X.mg "range" = none) (ha : ZE X a σ F O (.int i) O1) (hb : ZE X b σ F O1 (.int j) O2) (hi : -16777216 ≤ i ∧ i ≤ 16777216 ∧ -16777216 ≤ j ∧ j ≤ 16777216 ∧ j - i ≤ 16777216) (hg : Gl X "range" := by rfl) (hs : starEach [a, b] X.env = [(false, eval a X.env), (false, eval b X.env)] := by rfl) (hs2 : starEach [b] X.env = [(false, eval b X.env)] := by rfl) : ZI X tg (.Call (.Name "range" p) [a, b] [] pos) σ F O ((rangeI i j).map .int) O2 := fun F1 H g w Q q =>
  wI_of (pi_range2 hg hm pa_w hs hs2) (za_cons ha (za_cons hb za_nil hs2) (by rw [hs, hs2]) F1 H g w _ fun vs F2 H2 s1 r1 => by
    obtain ⟨v, u, rfl, r, r2⟩ := r1.two
    exact ⟨i, j, by rw [r.int_inv, r2.int_inv], ⟨by omega, by omega, by omega, by omega⟩, q _ _ _ s1 (walks_range (by rw [← szL]; omega))⟩)
theorem zi_enum {tpos : Pos} {elts : List Expr} {kk : Nat} (hm : X.mg "enumerate" = none) (h : ZE X e σ F O (.list ds) O1) (hg : Gl X "enumerate" := by rfl) (hs : starEach [e] X.env = [(false, eval e X.env)] := by rfl) : ZI X (.Tuple elts kk tpos) (.Call (.Name "enumerate" p) [e] [] pos) σ F O (ds.zipIdx.map fun p => .tuple [.int (p.2 : Nat), p.1]) O1 := fun F1 H g w Q q =>
  wI_of (pi_enum hg hm pa_w hs) (za_cons h za_nil hs F1 H g w _ fun vs F2 H2 s1 r1 => by
    obtain ⟨v, rfl, r⟩ := r1.one
    have hz := r.size s1.ok
    obtain ⟨l, xs, rfl, e1, a1⟩ := r.lst_inv
    exact ⟨l, xs, rfl, .inl (.inl (s1.ok.sub _ _ e1)), q _ _ _ s1 (walks_enum e1 a1 hz)⟩)

/-! ### for, while -/
variable {body rest : List Stmt} {D : Ends}
/-- a turn's ends -/
abbrev turnEnds (D : Ends) (F : Hp) (O : Own) (H : Hp) (Rel : L2.St → Hp → Own → Prop) (brk : L2.St → Hp → Prop) : Ends :=
  { nx := fun σ3 H3 => ∃ F3 O3, Stp F O H F3 O3 H3 ∧ Rel σ3 F3 O3, rt := D.rt, bk := brk, ct := fun σ3 H3 => ∃ F3 O3, Stp F O H F3 O3 H3 ∧ Rel σ3 F3 O3 }
theorem wG_mono {v : V} {Q Q' : L2.St → Hp → Prop} (h : wG X tg v σ H Q) (q : ∀ σ H, Q σ H → Q' σ H) : wG X tg v σ H Q' := fun pins s u I r => thn (h pins s u I r) fun _ s' ⟨σ', H', I', h'⟩ => ⟨σ', H', I', q _ _ h'⟩
theorem wSs_mono {D D' : Ends} (h : wSs X body D σ H) (h1 : ∀ σ H, D.nx σ H → D'.nx σ H) (h2 : ∀ v H, D.rt v H → D'.rt v H) (h3 : ∀ σ H, D.bk σ H → D'.bk σ H) (h4 : ∀ σ H, D.ct σ H → D'.ct σ H) : wSs X body D' σ H := fun pins s I => thn (h pins s I) fun fl s' q => by
  cases fl with
  | next => obtain ⟨σ', H', I', q⟩ := q; exact ⟨σ', H', I', h1 _ _ q⟩
  | ret u => obtain ⟨v, σ', H', I', r, q⟩ := q; exact ⟨v, σ', H', I', r, h2 _ _ q⟩
  | brk => obtain ⟨σ', H', I', q⟩ := q; exact ⟨σ', H', I', h3 _ _ q⟩
  | cont => obtain ⟨σ', H', I', q⟩ := q; exact ⟨σ', H', I', h4 _ _ q⟩
theorem zs_for (w : WOk F O H) (hp : PassesOwn (model X.prog X.w) X.A X.env X.xe) (hc : X.calm = true) (hi : ZI X tg iter σ F O ds O1) (Rel : Nat → L2.St → Hp → Own → Prop)
    (h0 : ∀ F1 H1, Stp F O H F1 O1 H1 → Rel 0 σ F1 O1)
    (hb : ∀ i d x σ' F0 F' O' H', ds[i]? = some d → ds.length ≤ sizeLine → Rel i σ' F0 O' → Gr F0 F' → Stp F O H F' O' H' → R X.K F' x d → wG X tg x σ' H' fun σ2 H2 => ZS X body σ2 H2 (turnEnds D F' O' H' (Rel (i + 1)) fun σ3 H3 => ZS X rest σ3 H3 D))
    (hd : ∀ σ' F' O' H', Stp F O H F' O' H' → Rel ds.length σ' F' O' → ZS X rest σ' H' D)
    (hs : ∀ x, foldedSetIterable iter X.env x = pure x := by intro _; rfl) : ZS X (.For tg iter body [] pos :: rest) σ H D := by
  refine wSs_of (pss_cons (ps_for hp hc pi_w pg_w pss_w hs) pss_w) ?_
  refine hi F H Gr.refl w _ fun J F1 H1 s1 wk => ?_
  refine ⟨fun i m σ' H' => m = ds.length - i ∧ i ≤ ds.length ∧ ∃ F' O', Gr F1 F' ∧ Stp F O H F' O' H' ∧ Rel i σ' F' O', ⟨ds.length, by simp, Nat.zero_le _, F1, O1, Gr.refl, s1, h0 F1 H1 s1⟩, ?_⟩
  rintro i m σ' H' ⟨rfl, hle, F', O', g, st, rel⟩
  by_cases hlt : i < ds.length
  · refine .inr ⟨wk.go F' O' H' g st.ok i hlt, fun σ3 H3 => ∃ F3 O3, Gr F1 F3 ∧ Stp F O H F3 O3 H3 ∧ Rel (i + 1) σ3 F3 O3, fun σ3 H3 ⟨F3, O3, g3, s3, r3⟩ => ⟨ds.length - (i + 1), by omega, rfl, hlt, F3, O3, g3, s3, r3⟩, fun x H2 y => ?_⟩
    obtain ⟨F2, s2, rx⟩ := wk.yld F' O' H' g st.ok i x H2 ds[i] (List.getElem?_eq_getElem hlt) y
    refine wG_mono (hb i ds[i] x σ' F' F2 O' H2 (List.getElem?_eq_getElem hlt) wk.sz rel s2.gr (st.trans s2) rx) fun σ3 H3 hz => ?_
    have fin : ∀ σ4 H4, (∃ F3 O3, Stp F2 O' H2 F3 O3 H4 ∧ Rel (i + 1) σ4 F3 O3) → ∃ F3 O3, Gr F1 F3 ∧ Stp F O H F3 O3 H4 ∧ Rel (i + 1) σ4 F3 O3 := fun σ4 H4 ⟨F3, O3, s3, r3⟩ =>
      ⟨F3, O3, g.trans (s2.gr.trans s3.gr), st.trans (s2.trans s3), r3⟩
    exact wSs_mono hz fin (fun _ _ q => q) (fun _ _ q => q) fin
  · have ei : i = ds.length := by omega
    subst ei
    exact .inl ⟨wk.stop F' O' H' g st.ok _ (Nat.le_refl _), hd σ' F' O' H' st rel⟩
/-- while: the word Rel by a measure -/
theorem zs_while (w : WOk F O H) (hp : PassesOwn (model X.prog X.w) X.A X.env X.xe) (Rel : Nat → L2.St → Hp → Own → Prop) (m : Nat) (h0 : Rel m σ F O)
    (hb : ∀ m σ' F' O' H', Stp F O H F' O' H' → Rel m σ' F' O' → ∃ k O2, ZT X c σ' F' O' k O2 ∧ ∀ F2 H2, Stp F' O' H' F2 O2 H2 →
      (k = true → ZS X body σ' H2 (turnEnds D F' O' H' (fun σ3 F3 O3 => ∃ m', m' < m ∧ Rel m' σ3 F3 O3) fun σ3 H3 => ZS X rest σ3 H3 D)) ∧ (k = false → ZS X rest σ' H2 D)) : ZS X (.While c body [] pos :: rest) σ H D := by
  refine wSs_of (pss_cons (ps_while hp pt_w pss_w) pss_w) ?_
  refine ⟨fun m σ' H' => ∃ F' O', Stp F O H F' O' H' ∧ Rel m σ' F' O', ⟨m, F, O, Stp.refl w, h0⟩, ?_⟩
  rintro m σ' H' ⟨F', O', st, rel⟩
  obtain ⟨k, O2, zt, hk⟩ := hb m σ' F' O' H' st rel
  refine zt F' H' Gr.refl st.ok _ fun F2 H2 s2 => ?_
  obtain ⟨h1, h2⟩ := hk F2 H2 s2
  cases k with
  | false => exact h2 rfl
  | true =>
    refine ⟨fun σ4 H4 => ∃ m', m' < m ∧ ∃ F3 O3, Stp F O H F3 O3 H4 ∧ Rel m' σ4 F3 O3, fun σ4 H4 ⟨m', hm, F3, O3, s3, r3⟩ => ⟨m', hm, F3, O3, s3, r3⟩, ?_⟩
    have fin : ∀ σ4 H4, (∃ F3 O3, Stp F' O' H' F3 O3 H4 ∧ ∃ m', m' < m ∧ Rel m' σ4 F3 O3) → ∃ m', m' < m ∧ ∃ F3 O3, Stp F O H F3 O3 H4 ∧ Rel m' σ4 F3 O3 := fun σ4 H4 ⟨F3, O3, s3, m', hm, r3⟩ => ⟨m', hm, F3, O3, st.trans s3, r3⟩
    exact wSs_mono (h1 rfl) fin (fun _ _ q => q) (fun _ _ q => q) fin

/-! ### comprehensions -/
/-- the reading of a comprehension of one for: own state S i and result r i of the i-th item -/
theorem lc_read {wi : TI} {g : TG} {tt : TT} {te : TE} {vs : List Nat} {K : PySem.W.Frag} (S : Nat → Own) (r : Nat → Option PyData)
    (hi : ∀ F1 H, Gr F F1 → WOk F1 O H → ∀ Q : It → Hp → Prop, (∀ J F2 H2, Stp F1 O H F2 (S 0) H2 → Walks K J F2 ds → Q J H2) → wi σ H Q)
    (hb : ∀ i d x F' H', ds[i]? = some d → Gr F F' → WOk F' (S i) H' → R K F' x d → ∀ (Q1 : V → Hp → Prop) (Q0 : Hp → Prop), (∀ v F2 H2 y, r i = some y → Stp F' (S i) H' F2 (S (i + 1)) H2 → R K F2 v y → Q1 v H2) → (∀ F2 H2, r i = none → Stp F' (S i) H' F2 (S (i + 1)) H2 → Q0 H2) →
      g x (wipe σ vs) H' fun σ2 H2 => wipe σ2 vs = wipe σ vs ∧ tt σ2 H2 fun b H3 => if b = true then te σ2 H3 Q1 else Q0 H3)
    {F1 H : Hp} (g1 : Gr F F1) (w : WOk F1 O H) {Q : VK} (q : ∀ p us F2 H2, H p = none → Stp F1 O H F2 ((p, .lst us) :: S ds.length) H2 → RA K F2 us ((List.range ds.length).filterMap r) → Q (.ref p) H2) : tLc wi g tt te vs σ H Q := by
  refine hi F1 H g1 w _ fun J F2 H2 s1 wk => fun D hD => ?_
  have hD0 : H D = none := by
    cases z : H D with
    | none => rfl
    | some u => exact absurd hD (s1.dom D (by rw [z]; simp))
  refine ⟨fun i m H' => m = ds.length - i ∧ i ≤ ds.length ∧ ∃ F' us, us.length ≤ i ∧ Gr F2 F' ∧ Stp F1 O H F' ((D, .lst us) :: S i) H' ∧ RA K F' us ((List.range i).filterMap r), ⟨ds.length, by simp, Nat.zero_le _, F2, [], Nat.le_refl _, Gr.refl, s1.trans (Stp.alloc s1.ok hD (Nat.zero_le _)), .nil⟩, ?_⟩
  rintro i m H' ⟨rfl, hle, F', us, hu, g2, st, ra⟩
  by_cases hlt : i < ds.length
  · refine .inr ⟨wk.go F' _ H' g2 st.ok i hlt, fun H3 => ∃ F3 us', us'.length ≤ i + 1 ∧ Gr F2 F3 ∧ Stp F1 O H F3 ((D, .lst us') :: S (i + 1)) H3 ∧ RA K F3 us' ((List.range (i + 1)).filterMap r), fun H3 ⟨F3, us', h1, h2, h3, h4⟩ => ⟨ds.length - (i + 1), by omega, rfl, hlt, F3, us', h1, h2, h3, h4⟩, fun x H3 y => ?_⟩
    obtain ⟨F3, s2, rx⟩ := wk.yld F' _ H' g2 st.ok i x H3 ds[i] (List.getElem?_eq_getElem hlt) y
    have g3 : Gr F F3 := g1.trans (s1.gr.trans (g2.trans s2.gr))
    refine hb i ds[i] x F3 H3 (List.getElem?_eq_getElem hlt) g3 s2.ok.tail rx _ _ (fun v F4 H4 y hy s3 r3 => ?_) fun F4 H4 hy s3 => ?_
    · have s4 := Stp.cons s2.ok s3
      have s5 := st.trans (s2.trans s4)
      have hz : us.length < sizeLine := Nat.lt_of_le_of_lt hu (Nat.lt_of_lt_of_le hlt wk.sz)
      have s6 := Stp.write (o' := .lst (us ++ [v])) s5.ok (k := 0) rfl (by show (us ++ [v]).length ≤ _; rw [List.length_append]; exact hz)
      refine ⟨us, (s5.ok.own (D, .lst us) List.mem_cons_self).1, hz, F4, us ++ [v], ?_, g2.trans (s2.gr.trans s3.gr), s5.trans s6, ?_⟩
      · rw [List.length_append]; exact Nat.succ_le_succ hu
      · rw [List.range_succ, List.filterMap_append]
        have e1 : [i].filterMap r = [y] := by rw [List.filterMap_cons, hy]; rfl
        rw [e1]
        exact (ra.mono (s2.gr.trans s3.gr)).snoc r3
    · have s4 := Stp.cons s2.ok s3
      refine ⟨F4, us, Nat.le_succ_of_le hu, g2.trans (s2.gr.trans s3.gr), st.trans (s2.trans s4), ?_⟩
      rw [List.range_succ, List.filterMap_append]
      have e1 : [i].filterMap r = [] := by rw [List.filterMap_cons, hy]; rfl
      rw [e1, List.append_nil]
      exact ra.mono (s2.gr.trans s3.gr)
  · have ei : i = ds.length := by omega
    subst ei
    exact .inl ⟨wk.stop F' _ H' g2 st.ok _ (Nat.le_refl _), q D us F' H' hD0 st ra⟩

variable {scope : Scope} {ifs : List Expr} {x y : Str} {px py spos : Pos} {n n2 : Nat}
/-- the block of a comprehension -/
abbrev blkX (X : Cx) (scope : Scope) (s : Shared) (H : Hp) (C : Addr) (cl : List (Str × Addr)) (fp : List Addr) : Cx := X.blk s H scope (compEnvC scope cl C X.env) fp
def uE (X : Cx) (scope : Scope) (e : Expr) : TE := fun σ H Q => ∀ s H0 C cl fp, wE (blkX X scope s H0 C cl fp) e σ H Q
def uT (X : Cx) (scope : Scope) (e : Expr) : TT := fun σ H Q => ∀ s H0 C cl fp, wT (blkX X scope s H0 C cl fp) e σ H Q
theorem pe_u (s : Shared) (H : Hp) (C : Addr) (cl : List (Str × Addr)) (fp : List Addr) : PE (blkX X scope s H C cl fp) e (uE X scope e) := ⟨fun pins s' _ _ _ I h => h s H C cl fp pins s' I⟩
theorem pt_u (s : Shared) (H : Hp) (C : Addr) (cl : List (Str × Addr)) (fp : List Addr) : PT (blkX X scope s H C cl fp) e (uT X scope e) := ⟨fun pins s' _ _ _ I h => h s H C cl fp pins s' I⟩
/-- a comprehension's body over items of a list of Lean values: each keeps the state and gives f a, where pr a -/
structure Blk1 (X : Cx) (scope : Scope) (n : Nat) (elt : Expr) (ifs : List Expr) (σ : L2.St) (F : Hp) {α β γ : Type} (G : β → Own) (enc : α → PyData) (encR : γ → PyData) (xs : List α) (f : β → α → Option γ × β) (tt : TT) : Prop where
  pts : ∀ s H C cl fp, PTs (blkX X scope s H C cl fp) ifs tt
  run : ∀ st a v F' H', a ∈ xs → Gr F F' → WOk F' (G st) H' → R X.K F' v (enc a) → ∀ (Q1 : V → Hp → Prop) (Q0 : Hp → Prop),
    (∀ v F2 H2 y, (f st a).1 = some y → Stp F' (G st) H' F2 (G (f st a).2) H2 → R X.K F2 v (encR y) → Q1 v H2) → (∀ F2 H2, (f st a).1 = none → Stp F' (G st) H' F2 (G (f st a).2) H2 → Q0 H2) →
    tt (σ.set n (some v)) H' fun b H3 => if b = true then uE X scope elt (σ.set n (some v)) H3 Q1 else Q0 H3
def runS {α β γ : Type} (f : β → α → Option γ × β) : β → List α → List γ × β
  | s, [] => ([], s)
  | s, a :: as => ((match (f s a).1 with | some y => y :: (runS f (f s a).2 as).1 | none => (runS f (f s a).2 as).1), (runS f (f s a).2 as).2)
def stS {α β γ : Type} (f : β → α → Option γ × β) (s : β) (xs : List α) : Nat → β
  | 0 => s
  | i + 1 => match xs[i]? with | some a => (f (stS f s xs i) a).2 | none => stS f s xs i
theorem stS_cons {α β γ : Type} (f : β → α → Option γ × β) (s : β) (a : α) (xs : List α) : ∀ i, stS f s (a :: xs) (i + 1) = stS f (f s a).2 xs i
  | 0 => rfl
  | i + 1 => by
    show (match (a :: xs)[i + 1]? with | some b => (f (stS f s (a :: xs) (i + 1)) b).2 | none => stS f s (a :: xs) (i + 1)) = _
    rw [stS_cons f s a xs i, List.getElem?_cons_succ]
    rfl
theorem stS_run {α β γ : Type} (f : β → α → Option γ × β) : ∀ (xs : List α) (s : β), stS f s xs xs.length = (runS f s xs).2
  | [], s => rfl
  | a :: xs, s => by
    rw [List.length_cons, stS_cons, stS_run f xs]
    rfl
theorem runS_eq {α β γ : Type} (f : β → α → Option γ × β) (enc : γ → PyData) : ∀ (xs : List α) (s : β), (List.range xs.length).filterMap (fun i => (xs[i]?).bind fun a => (f (stS f s xs i) a).1.map enc) = (runS f s xs).1.map enc
  | [], s => rfl
  | a :: xs, s => by
    rw [List.length_cons, List.range_succ_eq_map, List.filterMap_cons, List.filterMap_map]
    have ih := runS_eq f enc xs (f s a).2
    have e1 : ((fun i => ((a :: xs)[i]?).bind fun b => (f (stS f s (a :: xs) i) b).1.map enc) ∘ Nat.succ) = fun i => (xs[i]?).bind fun b => (f (stS f (f s a).2 xs i) b).1.map enc := by
      funext i
      show ((a :: xs)[i + 1]?).bind _ = _
      rw [List.getElem?_cons_succ, stS_cons]
    rw [e1, ih]
    have e2 : (((a :: xs)[0]?).bind fun b => (f (stS f s (a :: xs) 0) b).1.map enc) = (f s a).1.map enc := rfl
    rw [e2]
    cases h : (f s a).1 with
    | none => simp only [Option.map_none, runS, h]
    | some y => simp only [Option.map_some, runS, h, List.map_cons]
variable {α β γ : Type} {G : β → Own} {enc : α → PyData} {encR : γ → PyData} {xs : List α} {f : β → α → Option γ × β} {st0 : β} {tt : TT}
theorem lc1_read {g : TG} (hg0 : g = gName n) (hi : ZI X tg iter σ F O (xs.map enc) (G st0)) (B : Blk1 X scope n elt ifs σ F G enc encR xs f tt) {F1 H : Hp} (g1 : Gr F F1) (w : WOk F1 O H) {Q : VK}
    (q : ∀ p us F2 H2, H p = none → Stp F1 O H F2 ((p, .lst us) :: G (runS f st0 xs).2) H2 → RA X.K F2 us ((runS f st0 xs).1.map encR) → Q (.ref p) H2) : tLc (wI X tg iter) g tt (uE X scope elt) [n] σ H Q := by
  subst hg0
  refine lc_read (fun i => G (stS f st0 xs i)) (fun i => (xs[i]?).bind fun a => (f (stS f st0 xs i) a).1.map encR) (fun F1 H g1 w Q q => hi F1 H g1 w Q q) (fun i d v F' H' hd gg ww rr Q1 Q0 h1 h0 => ?_) g1 w (fun p us F2 H2 hp s2 ra => ?_)
  · rw [List.getElem?_map] at hd
    cases ha : xs[i]? with
    | none => rw [ha] at hd; cases hd
    | some a =>
      rw [ha] at hd; cases hd
      have es : stS f st0 xs (i + 1) = (f (stS f st0 xs i) a).2 := by show (match xs[i]? with | some a => _ | none => _) = _; rw [ha]
      rw [ha] at h1 h0
      rw [es] at h1 h0
      have e1 : (wipe σ [n]).set n (some v) = σ.set n (some v) := by
        show (σ.set n none).set n (some v) = _
        rw [List.set_set]
      refine ⟨?_, ?_⟩
      · show ((wipe σ [n]).set n (some v)).set n none = σ.set n none
        rw [e1, List.set_set]
      · rw [e1]
        refine B.run _ a v F' H' (List.mem_of_getElem? ha) gg ww rr Q1 Q0 (fun v F2 H2 y hy s r => h1 v F2 H2 (encR y) (by show Option.map encR _ = _; rw [hy]; rfl) s r) fun F2 H2 hy s => h0 F2 H2 (by show Option.map encR _ = _; rw [hy]; rfl) s
  · rw [List.length_map] at s2 ra
    rw [stS_run] at s2
    rw [runS_eq] at ra
    exact q p us F2 H2 hp s2 ra
theorem zn_lc1 (hc : X.calm = true) (hN : X.N.Nodup) (hi : ZI X (.Name x px) iter σ F O (xs.map enc) (G st0)) (B : Blk1 X scope n elt ifs σ F G enc encR xs f tt) (ok : BlkOk X.N X.env.scope scope [(x, n)])
    (hg : ∀ s H C cl fp, PG (blkX X scope s H C cl fp) (.Name x px) (gName n)) (hs : ∀ x, foldedSetIterable iter X.env x = pure x := by intro _; rfl) :
    ZN X (.ListComp elt [⟨.Name x px, iter, ifs, 0⟩] scope pos) σ F O ((runS f st0 xs).1.map encR) (G (runS f st0 xs).2) := fun F1 H g1 w Q q =>
  wE_of (pe_lc hc hN pi_w ok hg B.pts pe_u hs) (lc1_read rfl hi B g1 w q)
theorem zs_setLc1 (w : WOk F O H) {i : Nat} {rest : List Stmt} {D : Ends} (hc : X.calm = true) (hN : X.N.Nodup) (hi : ZI X (.Name x px) iter σ F O (xs.map enc) (G st0)) (B : Blk1 X scope n elt ifs σ F G enc encR xs f tt) (ok : BlkOk X.N X.env.scope scope [(x, n)])
    (hg : ∀ s H C cl fp, PG (blkX X scope s H C cl fp) (.Name x px) (gName n)) (hy : X.N[i]? = some y) (hyl : X.env.scope.names.lookup y = some .local)
    (kk : ∀ p us F1 H1, H p = none → Stp F O H F1 ((p, .lst us) :: G (runS f st0 xs).2) H1 → RA X.K F1 us ((runS f st0 xs).1.map encR) → ZS X rest (σ.set i (some (.ref p))) H1 D)
    (hsw : swapsWith (.ListComp elt [⟨.Name x px, iter, ifs, 0⟩] scope pos) (some (.Name y py)) spos.line X.env = pure true) (hs : ∀ x, foldedSetIterable iter X.env x = pure x := by intro _; rfl) :
    ZS X (.Assign [.Name y py] (.ListComp elt [⟨.Name x px, iter, ifs, 0⟩] scope pos) spos :: rest) σ H D :=
  wSs_of (pss_cons (ps_setLc hc hN hy hyl hsw pi_w ok hg B.pts pe_u hs) pss_w) (lc1_read (Q := fun v H' => ZS X rest (σ.set i (some v)) H' D) rfl hi B Gr.refl w fun p us F2 H2 hp s ra => kk p us F2 H2 hp s ra)

/-! the bodies: pure or with a state, with or without a test -/
theorem blk_map {f0 : α → γ} {O : Own} (he : ∀ s H0 C cl fp a v F', a ∈ xs → Gr F F' → R X.K F' v (enc a) → ZE (blkX X scope s H0 C cl fp) elt (σ.set n (some v)) F' O (encR (f0 a)) O) :
    Blk1 X scope n elt [] σ F (fun (_ : Unit) => O) enc encR xs (fun _ a => (some (f0 a), ())) tYes where
  pts := fun s H C cl fp => pts_nil
  run := fun st a v F' H' ha g w r Q1 Q0 h1 h0 => by
    show (if true = true then uE X scope elt (σ.set n (some v)) H' Q1 else Q0 H')
    rw [if_pos rfl]
    intro s H0 C cl fp
    exact he s H0 C cl fp a v F' ha g r F' H' Gr.refl w _ fun u F2 H2 s2 r2 => h1 u F2 H2 _ rfl s2 r2
theorem blk_filter {f0 : α → γ} {O : Own} {c : Expr} {pr : α → Bool} (hc : ∀ s H0 C cl fp a v F', a ∈ xs → Gr F F' → R X.K F' v (enc a) → ZT (blkX X scope s H0 C cl fp) c (σ.set n (some v)) F' O (pr a) O)
    (he : ∀ s H0 C cl fp a v F', a ∈ xs → pr a = true → Gr F F' → R X.K F' v (enc a) → ZE (blkX X scope s H0 C cl fp) elt (σ.set n (some v)) F' O (encR (f0 a)) O) :
    Blk1 X scope n elt [c] σ F (fun (_ : Unit) => O) enc encR xs (fun _ a => (if pr a then some (f0 a) else none, ())) (uT X scope c) where
  pts := fun s H C cl fp => pts_one (pt_u s H C cl fp)
  run := fun st a v F' H' ha g w r Q1 Q0 h1 h0 => by
    intro s H0 C cl fp
    refine hc s H0 C cl fp a v F' ha g r F' H' Gr.refl w _ fun F2 H2 s2 => ?_
    cases hp : pr a with
    | true =>
      rw [if_pos rfl]
      intro s H0 C cl fp
      exact he s H0 C cl fp a v F2 ha hp (g.trans s2.gr) (r.mono s2.gr) F2 H2 Gr.refl s2.ok _ fun u F3 H3 s3 r3 => h1 u F3 H3 _ (by rw [hp]; rfl) (s2.trans s3) r3
    | false =>
      rw [if_neg (by decide)]
      exact h0 F2 H2 (by rw [hp]; rfl) s2
theorem blk_state {f0 : β → α → γ × β} (he : ∀ s H0 C cl fp st a v F', a ∈ xs → Gr F F' → R X.K F' v (enc a) → ZE (blkX X scope s H0 C cl fp) elt (σ.set n (some v)) F' (G st) (encR (f0 st a).1) (G (f0 st a).2)) :
    Blk1 X scope n elt [] σ F G enc encR xs (fun st a => (some (f0 st a).1, (f0 st a).2)) tYes where
  pts := fun s H C cl fp => pts_nil
  run := fun st a v F' H' ha g w r Q1 Q0 h1 h0 => by
    show (if true = true then uE X scope elt (σ.set n (some v)) H' Q1 else Q0 H')
    rw [if_pos rfl]
    intro s H0 C cl fp
    exact he s H0 C cl fp st a v F' ha g r F' H' Gr.refl w _ fun u F2 H2 s2 r2 => h1 u F2 H2 _ rfl s2 r2
theorem runS_map {f0 : α → γ} : ∀ xs : List α, (runS (fun (_ : Unit) a => (some (f0 a), ())) () xs).1 = xs.map f0
  | [] => rfl
  | a :: xs => by show _ :: _ = _; rw [runS_map xs]; rfl
theorem runS_filter {f0 : α → γ} {pr : α → Bool} : ∀ xs : List α, (runS (fun (_ : Unit) a => (if pr a then some (f0 a) else none, ())) () xs).1 = (xs.filter pr).map f0
  | [] => rfl
  | a :: xs => by
    show (match (if pr a then some (f0 a) else none) with | some y => _ | none => _) = _
    rw [List.filter_cons]
    cases hp : pr a with
    | true => rw [if_pos rfl, if_pos rfl, List.map_cons, ← runS_filter xs]
    | false => rw [if_neg (by decide), if_neg (by decide), ← runS_filter xs]
/-- the state threaded: the results, the last state -/
def mapS (f0 : β → α → γ × β) : β → List α → List γ × β
  | s, [] => ([], s)
  | s, a :: as => ((f0 s a).1 :: (mapS f0 (f0 s a).2 as).1, (mapS f0 (f0 s a).2 as).2)
theorem runS_state {f0 : β → α → γ × β} : ∀ (xs : List α) (s : β), runS (fun st a => (some (f0 st a).1, (f0 st a).2)) s xs = mapS f0 s xs
  | [], s => rfl
  | a :: xs, s => by
    show (_ :: _, _) = (_ :: _, _)
    rw [runS_state xs]
end
end Z

end
section
namespace Z
open PySem PySem.Spec PyProof.Rows L2

/-! ### Lean values as data -/
abbrev eI : Int → PyData := PyData.int
abbrev eB : Bool → PyData := PyData.bool
abbrev eS : Str → PyData := PyData.str
abbrev eU : Unit → PyData := fun _ => PyData.none
abbrev eL {α : Type} (e : α → PyData) (xs : List α) : PyData := .list (xs.map e)
abbrev eTL {α : Type} (e : α → PyData) (xs : List α) : PyData := .tuple (xs.map e)
abbrev eT2 {α β : Type} (e1 : α → PyData) (e2 : β → PyData) (p : α × β) : PyData := .tuple [e1 p.1, e2 p.2]
abbrev eT3 {α β γ : Type} (e1 : α → PyData) (e2 : β → PyData) (e3 : γ → PyData) (p : α × β × γ) : PyData := .tuple [e1 p.1, e2 p.2.1, e3 p.2.2]
abbrev eT4 {α β γ δ : Type} (e1 : α → PyData) (e2 : β → PyData) (e3 : γ → PyData) (e4 : δ → PyData) (p : α × β × γ × δ) : PyData := .tuple [e1 p.1, e2 p.2.1, e3 p.2.2.1, e4 p.2.2.2]
def eO {α : Type} (e : α → PyData) : Option α → PyData
  | none => .none
  | some x => e x
theorem atI_0 {α : Type} {a : α} {l : List α} : atI (a :: l) 0 = some a := by simp [atI, ixN]
theorem atI_1 {α : Type} {a b : α} {l : List α} : atI (a :: b :: l) 1 = some b := by
  have : (1 : Int) < (l.length : Int) + 1 + 1 := by omega
  simp [atI, ixN, this]
theorem atI_2 {α : Type} {a b c : α} {l : List α} : atI (a :: b :: c :: l) 2 = some c := by
  have : (2 : Int) < (l.length : Int) + 1 + 1 + 1 := by omega
  simp [atI, ixN, this]
theorem atI_3 {α : Type} {a b c d : α} {l : List α} : atI (a :: b :: c :: d :: l) 3 = some d := by
  have : (3 : Int) < (l.length : Int) + 1 + 1 + 1 + 1 := by omega
  simp [atI, ixN, this]
theorem atI_4 {α : Type} {a b c d e : α} {l : List α} : atI (a :: b :: c :: d :: e :: l) 4 = some e := by
  have : (4 : Int) < (l.length : Int) + 1 + 1 + 1 + 1 + 1 := by omega
  simp [atI, ixN, this]
/-- xs[i] -/
def ixL {α : Type} [Inhabited α] (xs : List α) (i : Int) : α := (atI xs i).getD default
theorem ixN_in {n : Nat} {i : Int} (h : -(n : Int) ≤ i ∧ i < n) : ∃ j, ixN n i = some j ∧ j < n := by
  unfold ixN
  by_cases h0 : 0 ≤ i
  · rw [if_pos h0, if_pos h.2]
    exact ⟨_, rfl, by omega⟩
  · rw [if_neg h0, if_pos h.1]
    exact ⟨_, rfl, by omega⟩
theorem atI_in {α : Type} [Inhabited α] {xs : List α} {i : Int} (h : -(xs.length : Int) ≤ i ∧ i < xs.length) : atI xs i = some (ixL xs i) := by
  obtain ⟨j, hj, hl⟩ := ixN_in h
  unfold ixL atI
  rw [hj]
  show xs[j]? = some (xs[j]?.getD default)
  rw [List.getElem?_eq_getElem hl]; rfl
theorem atI_map {α : Type} [Inhabited α] {xs : List α} {i : Int} {e : α → PyData} (h : -(xs.length : Int) ≤ i ∧ i < xs.length) : atI (xs.map e) i = some (e (ixL xs i)) := by
  have h1 := atI_in h
  unfold atI at h1 ⊢
  rw [List.length_map]
  cases q : ixN xs.length i with
  | none => rw [q] at h1; cases h1
  | some j =>
    rw [q] at h1
    show (xs.map e)[j]? = _
    have h1 : xs[j]? = some (ixL xs i) := h1
    rw [List.getElem?_map, h1]; rfl
theorem ixL_mem {α : Type} [Inhabited α] {xs : List α} {i : Int} (h : -(xs.length : Int) ≤ i ∧ i < xs.length) : ixL xs i ∈ xs := by
  have h1 := atI_in h
  unfold atI at h1
  cases q : ixN xs.length i with
  | none => rw [q] at h1; cases h1
  | some j =>
    rw [q] at h1
    have h1 : xs[j]? = some (ixL xs i) := h1
    exact List.mem_of_getElem? h1
theorem cutD_map {α : Type} {xs : List α} {e : α → PyData} {lo hi : Option Int} : cutD (xs.map e) lo hi = (cutD xs lo hi).map e := by
  unfold cutD
  rw [List.length_map, List.map_take, List.map_drop]

section
variable {X : Cx} {e a b c tg iter elt : Expr} {es : List Expr} {σ : L2.St} {F H : Hp} {O O1 O2 O3 : Own} {d da db : PyData} {ds rs : List PyData} {pos p : Pos} {i j : Int} {k k1 k2 : Bool}
theorem zn_eq {rs' : List PyData} (h : ZN X e σ F O rs O1) (q : rs = rs') : ZN X e σ F O rs' O1 := q ▸ h
theorem zn_ze {α : Type} {enc : α → PyData} {xs : List α} (h : ZN X e σ F O (xs.map enc) O1) : ZE X e σ F O (eL enc xs) O1 := h.ze
/-- typed -/
theorem ze_ixLt {α : Type} [Inhabited α] {enc : α → PyData} {xs : List α} (ha : ZE X a σ F O (eL enc xs) O1) (hb : ZE X b σ F O1 (.int i) O2) (h : -(xs.length : Int) ≤ i ∧ i < xs.length) (hs : PlainIx b := by exact fun _ _ => rfl) : ZE X (.Subscript a b pos) σ F O (enc (ixL xs i)) O2 :=
  ze_ixL ha hb (atI_map h) hs
theorem ze_ixTt {α : Type} [Inhabited α] {enc : α → PyData} {xs : List α} (ha : ZE X a σ F O (eTL enc xs) O1) (hb : ZE X b σ F O1 (.int i) O2) (h : -(xs.length : Int) ≤ i ∧ i < xs.length) (hs : PlainIx b := by exact fun _ _ => rfl) : ZE X (.Subscript a b pos) σ F O (enc (ixL xs i)) O2 :=
  ze_ixT ha hb (atI_map h) hs
theorem ze_ixOt {α : Type} [Inhabited α] {enc : α → PyData} {xs : List α} (n m : Nat) {x : Str} {px : Pos} {p : Addr} {vs : List V} (hσ : σ[n]? = some (some (.ref p))) (hb : ZE X b σ F O (.int i) O1) (hO : O1[m]? = some (p, .lst vs)) (hr : RA X.K F vs (xs.map enc)) (h : -(xs.length : Int) ≤ i ∧ i < xs.length)
    (hN : X.N[n]? = some x := by rfl) (hv : Vis X.env.scope x := by first | exact Or.inl rfl | exact Or.inr (Or.inl rfl) | exact Or.inr (Or.inr rfl)) (hs : PlainIx b := by exact fun _ _ => rfl) (hd : (x == ("__debug__" : Str)) = false := by decide)
    (hcd : (x == ("__classdict__" : Str)) = false := by decide) : ZE X (.Subscript (.Name x px) b pos) σ F O (enc (ixL xs i)) O1 := ze_ixO n m hσ hb hO hr (atI_map h) hN hv hs hd hcd
variable {lo hi : Option Expr} {p2 : Pos} {l u : Option Int}
theorem zn_slt {α : Type} {enc : α → PyData} {xs : List α} (ha : ZE X a σ F O (eL enc xs) O1) (hl : ZO X lo σ F O1 l O2) (hu : ZO X hi σ F O2 u O3) : ZN X (.Subscript a (.Slice lo hi none p2) pos) σ F O ((cutD xs l u).map enc) O3 := zn_eq (zn_sl ha hl hu) cutD_map
theorem zn_slOt {α : Type} {enc : α → PyData} {xs : List α} (n m : Nat) {x : Str} {px : Pos} {p : Addr} {vs : List V} (hσ : σ[n]? = some (some (.ref p))) (hl : ZO X lo σ F O l O2) (hu : ZO X hi σ F O2 u O3) (hO : O3[m]? = some (p, .lst vs)) (hr : RA X.K F vs (xs.map enc))
    (hN : X.N[n]? = some x := by rfl) (hv : Vis X.env.scope x := by first | exact Or.inl rfl | exact Or.inr (Or.inl rfl) | exact Or.inr (Or.inr rfl)) (hd : (x == ("__debug__" : Str)) = false := by decide)
    (hcd : (x == ("__classdict__" : Str)) = false := by decide) : ZN X (.Subscript (.Name x px) (.Slice lo hi none p2) pos) σ F O ((cutD xs l u).map enc) O3 := zn_eq (zn_slO n m hσ hl hu hO hr hN hv hd hcd) cutD_map
theorem ze_lenLt {α : Type} {enc : α → PyData} {xs : List α} (hm : X.mg "len" = none) (ha : ZE X e σ F O (eL enc xs) O1) (hg : Gl X "len" := by rfl) (he : starEach [e] X.env = (false, eval e X.env) :: starEach [] X.env := by rfl) (hpl : (backTo pos (starEach [] X.env)).any (·.1) = false := by rfl) : ZE X (.Call (.Name "len" p) [e] [] pos) σ F O (eI (xs.length : Nat)) O1 :=
  ze_eq (ze_lenL hm ha hg he hpl) (by rw [List.length_map])
theorem ze_lenTt {α : Type} {enc : α → PyData} {xs : List α} (hm : X.mg "len" = none) (ha : ZE X e σ F O (eTL enc xs) O1) (hg : Gl X "len" := by rfl) (he : starEach [e] X.env = (false, eval e X.env) :: starEach [] X.env := by rfl) (hpl : (backTo pos (starEach [] X.env)).any (·.1) = false := by rfl) : ZE X (.Call (.Name "len" p) [e] [] pos) σ F O (eI (xs.length : Nat)) O1 :=
  ze_eq (ze_lenT hm ha hg he hpl) (by rw [List.length_map])
theorem ze_lenOt {α : Type} {enc : α → PyData} {xs : List α} (n m : Nat) {x : Str} {px : Pos} {q : Addr} {vs : List V} (hm : X.mg "len" = none) (hσ : σ[n]? = some (some (.ref q))) (hO : O[m]? = some (q, .lst vs)) (hr : RA X.K F vs (xs.map enc)) (hN : X.N[n]? = some x := by rfl)
    (hv : Vis X.env.scope x := by first | exact Or.inl rfl | exact Or.inr (Or.inl rfl) | exact Or.inr (Or.inr rfl)) (hg : Gl X "len" := by rfl) (hd : (x == ("__debug__" : Str)) = false := by decide) (hcd : (x == ("__classdict__" : Str)) = false := by decide)
    (he : starEach [.Name x px] X.env = (false, eval (.Name x px) X.env) :: starEach [] X.env := by rfl) (hpl : (backTo pos (starEach [] X.env)).any (·.1) = false := by rfl) : ZE X (.Call (.Name "len" p) [.Name x px] [] pos) σ F O (eI (xs.length : Nat)) O :=
  ze_eq (ze_lenO n m hm hσ hO hr hN hv hg hd hcd he hpl) (by rw [List.length_map])
theorem zn_catt {α : Type} {enc : α → PyData} {xs ys : List α} (ha : ZE X a σ F O (eL enc xs) O1) (hb : ZE X b σ F O1 (eL enc ys) O2) (h : xs.length + ys.length ≤ sizeLine) : ZN X (.BinOp a .Add b pos) σ F O ((xs ++ ys).map enc) O2 :=
  zn_eq (zn_cat ha hb (by rw [List.length_map, List.length_map]; exact h)) (List.map_append).symm
theorem zt_trLt {α : Type} {enc : α → PyData} {xs : List α} (h : ZE X e σ F O (eL enc xs) O1) (he : ∀ whole, isTrue e X.env whole = (do let v ← whole; standAt e.pos; holding [v] (truthy v)) := by intro _; rfl) : ZT X e σ F O (!xs.isEmpty) O1 := zt_eq (zt_trL h he) (by rw [List.isEmpty_map])
theorem zt_trOt {α : Type} {enc : α → PyData} {xs : List α} (n m : Nat) {x : Str} {p : Addr} {vs : List V} (hσ : σ[n]? = some (some (.ref p))) (hO : O[m]? = some (p, .lst vs)) (hr : RA X.K F vs (xs.map enc)) (hN : X.N[n]? = some x := by rfl)
    (hv : Vis X.env.scope x := by first | exact Or.inl rfl | exact Or.inr (Or.inl rfl) | exact Or.inr (Or.inr rfl)) (hd : (x == ("__debug__" : Str)) = false := by decide) (hcd : (x == ("__classdict__" : Str)) = false := by decide)
    (he : ∀ whole, isTrue (.Name x pos) X.env whole = (do let v ← whole; standAt (Expr.Name x pos).pos; holding [v] (truthy v)) := by intro _; rfl) : ZT X (.Name x pos) σ F O (!xs.isEmpty) O := zt_eq (zt_trO n m hσ hO hr hN hv hd hcd he) (by rw [List.isEmpty_map])

/-! ### comprehensions over names, typed -/
variable {scope : Scope} {ifs : List Expr} {x y : Str} {px py spos : Pos} {n : Nat} {α β γ : Type} {enc : α → PyData} {encR : γ → PyData} {xs : List α}
theorem zn_lcM {f0 : α → γ} (hc : X.calm = true) (hN : X.N.Nodup) (hi : ZI X (.Name x px) iter σ F O (xs.map enc) O1) (he : ∀ s H0 C cl fp a v F', a ∈ xs → Gr F F' → R X.K F' v (enc a) → ZE (blkX X scope s H0 C cl fp) elt (σ.set n (some v)) F' O1 (encR (f0 a)) O1)
    (ok : BlkOk X.N X.env.scope scope [(x, n)]) (hg : ∀ s H C cl fp, PG (blkX X scope s H C cl fp) (.Name x px) (gName n)) (hs : ∀ x, foldedSetIterable iter X.env x = pure x := by intro _; rfl) :
    ZN X (.ListComp elt [⟨.Name x px, iter, [], 0⟩] scope pos) σ F O ((xs.map f0).map encR) O1 :=
  zn_eq (zn_lc1 hc hN hi (blk_map he) ok hg hs) (by rw [runS_map])
theorem zn_lcF {f0 : α → γ} {pr : α → Bool} {c : Expr} (hc : X.calm = true) (hN : X.N.Nodup) (hi : ZI X (.Name x px) iter σ F O (xs.map enc) O1) (ht : ∀ s H0 C cl fp a v F', a ∈ xs → Gr F F' → R X.K F' v (enc a) → ZT (blkX X scope s H0 C cl fp) c (σ.set n (some v)) F' O1 (pr a) O1)
    (he : ∀ s H0 C cl fp a v F', a ∈ xs → pr a = true → Gr F F' → R X.K F' v (enc a) → ZE (blkX X scope s H0 C cl fp) elt (σ.set n (some v)) F' O1 (encR (f0 a)) O1)
    (ok : BlkOk X.N X.env.scope scope [(x, n)]) (hg : ∀ s H C cl fp, PG (blkX X scope s H C cl fp) (.Name x px) (gName n)) (hs : ∀ x, foldedSetIterable iter X.env x = pure x := by intro _; rfl) :
    ZN X (.ListComp elt [⟨.Name x px, iter, [c], 0⟩] scope pos) σ F O (((xs.filter pr).map f0).map encR) O1 :=
  zn_eq (zn_lc1 hc hN hi (blk_filter ht he) ok hg hs) (by rw [runS_filter])
theorem zn_lcS {G : β → Own} {st0 : β} {f0 : β → α → γ × β} (hc : X.calm = true) (hN : X.N.Nodup) (hi : ZI X (.Name x px) iter σ F O (xs.map enc) (G st0)) (he : ∀ s H0 C cl fp st a v F', a ∈ xs → Gr F F' → R X.K F' v (enc a) → ZE (blkX X scope s H0 C cl fp) elt (σ.set n (some v)) F' (G st) (encR (f0 st a).1) (G (f0 st a).2))
    (ok : BlkOk X.N X.env.scope scope [(x, n)]) (hg : ∀ s H C cl fp, PG (blkX X scope s H C cl fp) (.Name x px) (gName n)) (hs : ∀ x, foldedSetIterable iter X.env x = pure x := by intro _; rfl) :
    ZN X (.ListComp elt [⟨.Name x px, iter, [], 0⟩] scope pos) σ F O ((mapS f0 st0 xs).1.map encR) (G (mapS f0 st0 xs).2) := by
  have h := zn_lc1 (pos := pos) hc hN hi (blk_state he) ok hg hs
  rw [runS_state] at h
  exact h
variable {i0 : Nat} {rest : List Stmt} {D : Ends}
theorem zs_setLcM (w : WOk F O H) {f0 : α → γ} (hc : X.calm = true) (hN : X.N.Nodup) (hi : ZI X (.Name x px) iter σ F O (xs.map enc) O1) (he : ∀ s H0 C cl fp a v F', a ∈ xs → Gr F F' → R X.K F' v (enc a) → ZE (blkX X scope s H0 C cl fp) elt (σ.set n (some v)) F' O1 (encR (f0 a)) O1)
    (ok : BlkOk X.N X.env.scope scope [(x, n)]) (hg : ∀ s H C cl fp, PG (blkX X scope s H C cl fp) (.Name x px) (gName n)) (hy : X.N[i0]? = some y) (hyl : X.env.scope.names.lookup y = some .local)
    (hsw : swapsWith (.ListComp elt [⟨.Name x px, iter, [], 0⟩] scope pos) (some (.Name y py)) spos.line X.env = pure true)
    (kk : ∀ p us F1 H1, H p = none → Stp F O H F1 ((p, .lst us) :: O1) H1 → RA X.K F1 us ((xs.map f0).map encR) → ZS X rest (σ.set i0 (some (.ref p))) H1 D) (hs : ∀ x, foldedSetIterable iter X.env x = pure x := by intro _; rfl) :
    ZS X (.Assign [.Name y py] (.ListComp elt [⟨.Name x px, iter, [], 0⟩] scope pos) spos :: rest) σ H D :=
  zs_setLc1 w hc hN hi (blk_map he) ok hg hy hyl (fun p us F1 H1 hp s r => kk p us F1 H1 hp s (by rw [runS_map] at r; exact r)) hsw hs
theorem zs_setLcF (w : WOk F O H) {f0 : α → γ} {pr : α → Bool} {c : Expr} (hc : X.calm = true) (hN : X.N.Nodup) (hi : ZI X (.Name x px) iter σ F O (xs.map enc) O1) (ht : ∀ s H0 C cl fp a v F', a ∈ xs → Gr F F' → R X.K F' v (enc a) → ZT (blkX X scope s H0 C cl fp) c (σ.set n (some v)) F' O1 (pr a) O1)
    (he : ∀ s H0 C cl fp a v F', a ∈ xs → pr a = true → Gr F F' → R X.K F' v (enc a) → ZE (blkX X scope s H0 C cl fp) elt (σ.set n (some v)) F' O1 (encR (f0 a)) O1)
    (ok : BlkOk X.N X.env.scope scope [(x, n)]) (hg : ∀ s H C cl fp, PG (blkX X scope s H C cl fp) (.Name x px) (gName n)) (hy : X.N[i0]? = some y) (hyl : X.env.scope.names.lookup y = some .local)
    (hsw : swapsWith (.ListComp elt [⟨.Name x px, iter, [c], 0⟩] scope pos) (some (.Name y py)) spos.line X.env = pure true)
    (kk : ∀ p us F1 H1, H p = none → Stp F O H F1 ((p, .lst us) :: O1) H1 → RA X.K F1 us (((xs.filter pr).map f0).map encR) → ZS X rest (σ.set i0 (some (.ref p))) H1 D) (hs : ∀ x, foldedSetIterable iter X.env x = pure x := by intro _; rfl) :
    ZS X (.Assign [.Name y py] (.ListComp elt [⟨.Name x px, iter, [c], 0⟩] scope pos) spos :: rest) σ H D :=
  zs_setLc1 w hc hN hi (blk_filter ht he) ok hg hy hyl (fun p us F1 H1 hp s r => kk p us F1 H1 hp s (by rw [runS_filter] at r; exact r)) hsw hs
theorem zs_setLcS (w : WOk F O H) {G : β → Own} {st0 : β} {f0 : β → α → γ × β} (hc : X.calm = true) (hN : X.N.Nodup) (hi : ZI X (.Name x px) iter σ F O (xs.map enc) (G st0)) (he : ∀ s H0 C cl fp st a v F', a ∈ xs → Gr F F' → R X.K F' v (enc a) → ZE (blkX X scope s H0 C cl fp) elt (σ.set n (some v)) F' (G st) (encR (f0 st a).1) (G (f0 st a).2))
    (ok : BlkOk X.N X.env.scope scope [(x, n)]) (hg : ∀ s H C cl fp, PG (blkX X scope s H C cl fp) (.Name x px) (gName n)) (hy : X.N[i0]? = some y) (hyl : X.env.scope.names.lookup y = some .local)
    (hsw : swapsWith (.ListComp elt [⟨.Name x px, iter, [], 0⟩] scope pos) (some (.Name y py)) spos.line X.env = pure true)
    (kk : ∀ p us F1 H1, H p = none → Stp F O H F1 ((p, .lst us) :: G (mapS f0 st0 xs).2) H1 → RA X.K F1 us ((mapS f0 st0 xs).1.map encR) → ZS X rest (σ.set i0 (some (.ref p))) H1 D) (hs : ∀ x, foldedSetIterable iter X.env x = pure x := by intro _; rfl) :
    ZS X (.Assign [.Name y py] (.ListComp elt [⟨.Name x px, iter, [], 0⟩] scope pos) spos :: rest) σ H D :=
  zs_setLc1 w hc hN hi (blk_state he) ok hg hy hyl (fun p us F1 H1 hp s r => kk p us F1 H1 hp (by rw [runS_state] at s; exact s) (by rw [runS_state] at r; exact r)) hsw hs

/-! ### typed loops -/
/-- a loop without an early end: a fold -/
theorem zs_forF (w : WOk F O H) {body : List Stmt} {f : β → α → β} {b0 : β} (hp : PassesOwn (model X.prog X.w) X.A X.env X.xe) (hc : X.calm = true) (hi : ZI X tg iter σ F O (xs.map enc) O1) (Rel : Nat → β → L2.St → Hp → Own → Prop)
    (h0 : ∀ F1 H1, Stp F O H F1 O1 H1 → Rel 0 b0 σ F1 O1)
    (hb : ∀ i b a v σ' F0 F' O' H', xs[i]? = some a → b = (xs.take i).foldl f b0 → xs.length ≤ sizeLine → Rel i b σ' F0 O' → Gr F0 F' → Stp F O H F' O' H' → R X.K F' v (enc a) → wG X tg v σ' H' fun σ2 H2 => ZS X body σ2 H2 (turnEnds D F' O' H' (Rel (i + 1) (f b a)) fun _ _ => False))
    (hd : ∀ σ' F' O' H', Stp F O H F' O' H' → Rel xs.length (xs.foldl f b0) σ' F' O' → ZS X rest σ' H' D)
    (hs : ∀ x, foldedSetIterable iter X.env x = pure x := by intro _; rfl) : ZS X (.For tg iter body [] pos :: rest) σ H D := by
  refine zs_for w hp hc hi (fun i σ' F' O' => Rel i ((xs.take i).foldl f b0) σ' F' O') (fun F1 H1 s => h0 F1 H1 s) (fun i d x σ' F0 F' O' H' hd hz rel g st r => ?_) (fun σ' F' O' H' st rel => hd σ' F' O' H' st (by rw [List.length_map, List.take_length] at rel; exact rel)) hs
  rw [List.getElem?_map] at hd
  cases ha : xs[i]? with
  | none => rw [ha] at hd; cases hd
  | some a =>
    rw [ha] at hd; cases hd
    have e1 : (xs.take (i + 1)).foldl f b0 = f ((xs.take i).foldl f b0) a := by
      rw [List.take_add_one, ha, List.foldl_append]; rfl
    rw [List.length_map] at hz
    refine wG_mono (hb i _ a x σ' F0 F' O' H' ha rfl hz rel g st r) fun σ2 H2 q => wSs_mono q (fun σ3 H3 ⟨F3, O3, s3, r3⟩ => ⟨F3, O3, s3, by rw [e1]; exact r3⟩) (fun _ _ q => q) (fun _ _ q => q.elim) (fun σ3 H3 ⟨F3, O3, s3, r3⟩ => ⟨F3, O3, s3, by rw [e1]; exact r3⟩)
/-- a turn's outcome: on, out by break, out by return -/
inductive Turn (β ρ : Type) where
  | nx (b : β) | bk (b : β) | rt (r : ρ)
inductive Out (β ρ : Type) where
  | nx (b : β) | rt (r : ρ)
def loopT {α β ρ : Type} (f : β → α → Turn β ρ) : β → List α → Out β ρ
  | b, [] => .nx b
  | b, x :: xs => match f b x with
    | .nx b' => loopT f b' xs
    | .bk b' => .nx b'
    | .rt r => .rt r
theorem loopT_nx {α β ρ : Type} {f : β → α → Turn β ρ} {b b' : β} {x : α} {xs : List α} (h : f b x = .nx b') : loopT f b (x :: xs) = loopT f b' xs := by
  show (match f b x with | .nx b' => _ | .bk b' => _ | .rt r => _) = _
  rw [h]
theorem loopT_bk {α β ρ : Type} {f : β → α → Turn β ρ} {b b' : β} {x : α} {xs : List α} (h : f b x = .bk b') : loopT f b (x :: xs) = .nx b' := by
  show (match f b x with | .nx b' => _ | .bk b' => _ | .rt r => _) = _
  rw [h]
theorem loopT_rt {α β ρ : Type} {f : β → α → Turn β ρ} {b : β} {r : ρ} {x : α} {xs : List α} (h : f b x = .rt r) : loopT f b (x :: xs) = .rt r := by
  show (match f b x with | .nx b' => _ | .bk b' => _ | .rt r => _) = _
  rw [h]
theorem zs_forT (w : WOk F O H) {body : List Stmt} {ρ : Type} {f : β → α → Turn β ρ} {b0 : β} (hp : PassesOwn (model X.prog X.w) X.A X.env X.xe) (hc : X.calm = true) (hi : ZI X tg iter σ F O (xs.map enc) O1) (Rel : Nat → β → L2.St → Hp → Own → Prop)
    (h0 : ∀ F1 H1, Stp F O H F1 O1 H1 → Rel 0 b0 σ F1 O1)
    (hb : ∀ i b a v σ' F0 F' O' H', xs[i]? = some a → loopT f b0 xs = loopT f b (a :: xs.drop (i + 1)) → xs.length ≤ sizeLine → Rel i b σ' F0 O' → Gr F0 F' → Stp F O H F' O' H' → R X.K F' v (enc a) → wG X tg v σ' H' fun σ2 H2 => ZS X body σ2 H2
      { nx := fun σ3 H3 => ∃ b' F3 O3, f b a = .nx b' ∧ Stp F' O' H' F3 O3 H3 ∧ Rel (i + 1) b' σ3 F3 O3, rt := D.rt, bk := fun σ3 H3 => ∃ b' j F3 O3, f b a = .bk b' ∧ Stp F' O' H' F3 O3 H3 ∧ Rel j b' σ3 F3 O3, ct := fun σ3 H3 => ∃ b' F3 O3, f b a = .nx b' ∧ Stp F' O' H' F3 O3 H3 ∧ Rel (i + 1) b' σ3 F3 O3 })
    (hd : ∀ j b' σ' F' O' H', loopT f b0 xs = .nx b' → Stp F O H F' O' H' → Rel j b' σ' F' O' → ZS X rest σ' H' D)
    (hs : ∀ x, foldedSetIterable iter X.env x = pure x := by intro _; rfl) : ZS X (.For tg iter body [] pos :: rest) σ H D := by
  refine zs_for w hp hc hi (fun i σ' F' O' => ∃ b, loopT f b0 xs = loopT f b (xs.drop i) ∧ Rel i b σ' F' O') (fun F1 H1 s => ⟨b0, rfl, h0 F1 H1 s⟩) (fun i d x σ' F0 F' O' H' hd' hz ⟨b, e, rel⟩ g st r => ?_) (fun σ' F' O' H' st ⟨b, e, rel⟩ => hd _ b σ' F' O' H' ?_ st rel) hs
  · rw [List.getElem?_map] at hd'
    cases ha : xs[i]? with
    | none => rw [ha] at hd'; cases hd'
    | some a =>
      rw [ha] at hd'; cases hd'
      obtain ⟨hi', ea⟩ := List.getElem?_eq_some_iff.mp ha
      have e1 : xs.drop i = a :: xs.drop (i + 1) := by rw [List.drop_eq_getElem_cons hi', ea]
      rw [e1] at e
      rw [List.length_map] at hz
      have onn : ∀ σ3 H3, (∃ b' F3 O3, f b a = .nx b' ∧ Stp F' O' H' F3 O3 H3 ∧ Rel (i + 1) b' σ3 F3 O3) → ∃ F3 O3, Stp F' O' H' F3 O3 H3 ∧ ∃ b, loopT f b0 xs = loopT f b (xs.drop (i + 1)) ∧ Rel (i + 1) b σ3 F3 O3 := fun σ3 H3 ⟨b', F3, O3, hf, s3, r3⟩ => ⟨F3, O3, s3, b', e.trans (loopT_nx hf), r3⟩
      refine wG_mono (hb i b a x σ' F0 F' O' H' ha e hz rel g st r) fun σ2 H2 q => wSs_mono q onn (fun _ _ q => q) (fun σ3 H3 ⟨b', j, F3, O3, hf, s3, r3⟩ => hd j b' σ3 F3 O3 H3 (e.trans (loopT_bk hf)) (st.trans s3) r3) onn
  · rw [e, List.length_map, List.drop_length]; rfl
def outE {β ρ τ : Type} (o : Out β ρ) (f : β → τ) (g : ρ → τ) : τ := match o with
  | .nx b => f b
  | .rt r => g r
theorem outE_nx {β ρ τ : Type} {o : Out β ρ} {f : β → τ} {g : ρ → τ} {b : β} (h : o = .nx b) : outE o f g = f b := by rw [h]; rfl
theorem outE_rt {β ρ τ : Type} {o : Out β ρ} {f : β → τ} {g : ρ → τ} {r : ρ} (h : o = .rt r) : outE o f g = g r := by rw [h]; rfl
/-- the joining of two ways -/
theorem zs_ifJ (w : WOk F O H) {body els : List Stmt} (hc : ZT X c σ F O k O1) (J : L2.St → Hp → Prop) (h1 : k = true → ∀ F1 H1, Stp F O H F1 O1 H1 → ZS X body σ H1 { D with nx := J }) (h2 : k = false → ∀ F1 H1, Stp F O H F1 O1 H1 → ZS X els σ H1 { D with nx := J })
    (h3 : ∀ σ' H', J σ' H' → ZS X rest σ' H' D) : ZS X (.If c body els pos :: rest) σ H D :=
  zs_if w hc (fun hk F1 H1 s => wSs_mono (h1 hk F1 H1 s) (fun σ' H' q => h3 σ' H' q) (fun _ _ q => q) (fun _ _ q => q) (fun _ _ q => q)) (fun hk F1 H1 s => wSs_mono (h2 hk F1 H1 s) (fun σ' H' q => h3 σ' H' q) (fun _ _ q => q) (fun _ _ q => q) (fun _ _ q => q))
theorem cond_t {α : Type} {c : Bool} {a b : α} (h : c = true) : cond c a b = a := by rw [h]; rfl
theorem cond_f {α : Type} {c : Bool} {a b : α} (h : c = false) : cond c a b = b := by rw [h]; rfl
end
theorem keys_erase : ∀ (O : Own) (m : Nat), keys (O.eraseIdx m) = (keys O).eraseIdx m
  | [], _ => rfl
  | _ :: _, 0 => rfl
  | q :: O, m + 1 => congrArg (q.1 :: ·) (keys_erase O m)
/-- what is mine at place m, made behind the start, becomes what stays -/
theorem Stp.freezeAt {F F' H H' : Hp} {O O' : Own} {p : Addr} {o : HO} (m : Nat) (x : Stp F O H F' O' H') (hm : O'[m]? = some (p, o)) (h : H p = none) : Stp F O H (upd F' p o) (O'.eraseIdx m) H' := by
  have hk : keys (O'.eraseIdx m) = (keys O').eraseIdx m := keys_erase O' m
  have nd := x.ok.nd
  have hkm : (keys O')[m]? = some p := by unfold keys; rw [List.getElem?_map, hm]; rfl
  have hne : ∀ q ∈ O'.eraseIdx m, q.1 ≠ p := fun q hq e => by
    have h1 : p ∈ keys (O'.eraseIdx m) := List.mem_map.mpr ⟨q, hq, e⟩
    rw [hk] at h1
    obtain ⟨i, hi, h2⟩ := List.mem_eraseIdx_iff_getElem?.mp h1
    obtain ⟨l1, g1⟩ := List.getElem?_eq_some_iff.mp hkm
    obtain ⟨l2, g2⟩ := List.getElem?_eq_some_iff.mp h2
    exact hi ((List.getElem_inj nd).mp (g2.trans g1.symm))
  have hsub : ∀ q ∈ O'.eraseIdx m, q ∈ O' := fun q hq => List.mem_of_mem_eraseIdx hq
  have hp := x.ok.at_ hm
  refine ⟨⟨fun b u e => ?_, fun q hq => ?_, ?_, fun b xs e => ?_, fun q hq => x.ok.szo q (hsub q hq)⟩, fun b u e => ?_, x.keep, fun b u e => ?_, fun b hb => x.ky b ?_, x.dom⟩
  · by_cases hb : b = p
    · subst hb; rw [upd_same] at e; cases e; exact hp.1
    · rw [upd_ne hb] at e; exact x.ok.sub b u e
  · have hq' := x.ok.own q (hsub q hq)
    rw [upd_ne (hne q hq)]; exact hq'
  · rw [hk]; exact (List.eraseIdx_sublist _ _).nodup nd
  · by_cases hb : b = p
    · subst hb
      rw [upd_same] at e; cases e
      exact x.ok.szo (b, .lst xs) (List.mem_of_getElem? hm) xs rfl
    · rw [upd_ne hb] at e; exact x.ok.sz b xs e
  · have g := x.gr b u e
    rw [upd_ne (ne_of_none g hp.2)]; exact g
  · by_cases hb : b = p
    · subst hb; exact .inr h
    · rw [upd_ne hb] at e; exact x.fr b u e
  · obtain ⟨q, hq, rfl⟩ := List.mem_map.mp hb
    exact List.mem_map.mpr ⟨q, hsub q hq, rfl⟩
theorem Stp.dropAt {F F' H H' : Hp} {O O' : Own} (m : Nat) (x : Stp F O H F' O' H') : Stp F O H F' (O'.eraseIdx m) H' := by
  have hk : keys (O'.eraseIdx m) = (keys O').eraseIdx m := keys_erase O' m
  have hsub : ∀ q ∈ O'.eraseIdx m, q ∈ O' := fun q hq => List.mem_of_mem_eraseIdx hq
  refine ⟨⟨x.ok.sub, fun q hq => x.ok.own q (hsub q hq), by rw [hk]; exact (List.eraseIdx_sublist _ _).nodup x.ok.nd, x.ok.sz, fun q hq => x.ok.szo q (hsub q hq)⟩, x.gr, x.keep, x.fr, fun b hb => x.ky b ?_, x.dom⟩
  obtain ⟨q, hq, rfl⟩ := List.mem_map.mp hb
  exact List.mem_map.mpr ⟨q, hsub q hq, rfl⟩
theorem Stp.newAt {F F' H H' : Hp} {O O' : Own} (x : Stp F O H F' O' H') {p : Addr} (h : H' p = none) : H p = none := by
  cases z : H p with
  | none => rfl
  | some u => exact absurd h (x.dom p (by rw [z]; simp))
end Z

end
section
namespace Z
open PySem PySem.Spec PyProof.Rows L2

/-! ### the store of draws -/
structure Sto where
  ix : Nat
  dig : Nat
  step : Nat
  seed : Int
def stoL (c : V) (s : Sto) : List V := [c, .int s.ix, .int s.dig, .int s.step, .int s.seed]
abbrev stoO (a : Addr) (c : V) (s : Sto) : Addr × HO := (a, .lst (stoL c s))
def stoD (cs : List Int) (s : Sto) : List PyData := [eL eI cs, eI s.ix, eI s.dig, eI s.step, eI s.seed]
theorem sto_ra {K : PySem.W.Frag} {F : Hp} {c : V} {cs : List Int} {s : Sto} (h : R K F c (eL eI cs)) : RA K F (stoL c s) (stoD cs s) := .cons h (.cons (.int _) (.cons (.int _) (.cons (.int _) (.cons (.int _) .nil))))
/-- data in, the store turned, data out -/
def spS (K : PySem.W.Frag) (A : List Int → Sto → List PyData → PyData → Sto → Prop) : Sp := fun vs H Q _ => ∃ (F : Hp) (a : Addr) (c : V) (cs : List Int) (s : Sto) (ws : List V) (ds : List PyData) (r : PyData) (s' : Sto),
  vs = .ref a :: ws ∧ WOk F [stoO a c s] H ∧ R K F c (eL eI cs) ∧ RA K F ws ds ∧ A cs s ds r s' ∧ ∀ v F' H', Stp F [stoO a c s] H F' [stoO a c s'] H' → R K F' v r → Q v H'
section
variable {X : Cx} {e a b c tg iter elt : Expr} {es : List Expr} {σ : L2.St} {F H : Hp} {O O1 O2 O3 : Own} {d da db : PyData} {ds rs : List PyData} {pos p : Pos} {i j : Int} {k k1 k2 : Bool} {x : Str} {n : Nat} {ps : List Str}
theorem ze_callS {A : List Int → Sto → List PyData → PyData → Sto → Prop} {cs : List Int} {s s' : Sto} {q : Addr} {cv : V} {sx : Str} {sp : Pos} (l m : Nat) (G : Fn X.prog X.w X.K X.mg X.base n x ps (spS X.K A)) (hr : Room n X.A) (hσ : σ[l]? = some (some (.ref q))) (hc : R X.K F cv (eL eI cs)) (ha : ZA X es σ F O ds O1) (hO : O1[m]? = some (stoO q cv s)) (hA : A cs s ds d s')
    (hN : X.N[l]? = some sx := by rfl) (hv : Vis X.env.scope sx := by first | exact Or.inl rfl | exact Or.inr (Or.inl rfl) | exact Or.inr (Or.inr rfl)) (hg : Gl X x := by rfl) (hdb : (x == ("__debug__" : Str)) = false := by decide) (hd : (sx == ("__debug__" : Str)) = false := by decide) (hcd : (sx == ("__classdict__" : Str)) = false := by decide)
    (he : starEach (.Name sx sp :: es) X.env = (false, eval (.Name sx sp) X.env) :: starEach es X.env := by rfl) (hpl : (backTo pos (starEach es X.env)).any (·.1) = false := by rfl) : ZE X (.Call (.Name x p) (.Name sx sp :: es) [] pos) σ F O d (O1.set m (stoO q cv s')) := fun F1 H g w Q qq => by
  obtain ⟨f, fd, G, hm, hk, hb⟩ := G.ex
  refine wE_of (pe_call G hr hg hm hk hb .nil (E := E0) pass0 (pa_cons (pe_var hN hv hd hcd) pa_w he) hdb he hpl) ⟨_, hσ, ha F1 H g w _ fun vs F2 H2 s1 r1 => ?_⟩
  show spS X.K A ((V.ref q :: vs) ++ []) H2 Q E0
  rw [List.append_nil]
  exact ⟨F2, q, cv, cs, s, vs, ds, d, s', rfl, s1.ok.one hO, hc.mono (g.trans s1.gr), r1, hA, fun v F' H' s2 r2 => qq _ _ _ (s1.trans (Stp.moreAt s1.ok hO s2)) r2⟩

/-! ### more built-ins -/
theorem ze_abs (hm : X.mg "abs" = none) (ha : ZE X e σ F O (.int i) O1) (hg : Gl X "abs" := by rfl) (he : starEach [e] X.env = (false, eval e X.env) :: starEach [] X.env := by rfl) (hpl : (backTo pos (starEach [] X.env)).any (·.1) = false := by rfl) : ZE X (.Call (.Name "abs" p) [e] [] pos) σ F O (eI (i.natAbs : Nat)) O1 :=
  ze_callB call_abs hm (by decide +kernel) (za_cons ha za_nil he) (fun F1 H1 vs _ w r Q q => by
    obtain ⟨v, rfl, r1⟩ := r.one
    refine ⟨i, by rw [r1.int_inv], q _ _ _ (Stp.refl w) ?_⟩
    have e1 : (if i < 0 then -i else i) = ((i.natAbs : Nat) : Int) := by split <;> omega
    rw [e1]
    exact .int _) hg (by decide) (by decide) he hpl
theorem ze_fdivW (ha : ZE X a σ F O (.int i) O1) (hb : ZE X b σ F O1 (.int j) O2) (h : 0 < j) (h2 : j < 2 ^ 64) : ZE X (.BinOp a .FloorDiv b pos) σ F O (.int (i / j)) O2 := ze_opC op_fdivW (wide_div (b := 64) h (by omega) (by decide) (by decide)) ha hb
theorem ze_mulR (ha : ZE X a σ F O (.int i) O1) (hb : ZE X b σ F O1 (.int j) O2) (h : -(2 ^ 64) < j ∧ j < 2 ^ 64) : ZE X (.BinOp a .Mult b pos) σ F O (.int (i * j)) O2 := ze_mul ha hb (.inr h)
theorem ze_mulL (ha : ZE X a σ F O (.int i) O1) (hb : ZE X b σ F O1 (.int j) O2) (h : -(2 ^ 64) < i ∧ i < 2 ^ 64) : ZE X (.BinOp a .Mult b pos) σ F O (.int (i * j)) O2 := ze_mul ha hb (.inl h)
/-- the script, as it lies -/
theorem walks_sqL {K : PySem.W.Frag} {F : Hp} {a : Addr} {xs : List V} {ds : List PyData} (e : SqL K F a xs) (r : RA K F xs ds) (hz : ds.length ≤ sizeLine) : Walks K (Itl K a) F ds where
  sz := hz
  go := fun F3 O3 H3 g w i hi => ⟨xs, xs[i]'(by rw [r.len]; exact hi), w.sub.sqL (g.sqL e), List.getElem?_eq_getElem _⟩
  stop := fun F3 O3 H3 g w i hi => ⟨xs, w.sub.sqL (g.sqL e), by rw [r.len]; exact hi⟩
  yld := fun F3 O3 H3 g w i x H' d hd y => by
    obtain ⟨rfl, y⟩ := y
    have hx := y xs (w.sub.sqL (g.sqL e))
    exact ⟨F3, Stp.refl w, (r.at_ i x d hx hd).mono g⟩
theorem ra_ints {K : PySem.W.Frag} {F : Hp} : ∀ ns : List Int, RA K F (ns.map V.int) (ns.map PyData.int)
  | [] => .nil
  | n :: ns => .cons (.int n) (ra_ints ns)
theorem ints_ra {K : PySem.W.Frag} {F : Hp} : ∀ {ns : List Int} {vs : List V}, RA K F vs (ns.map PyData.int) → vs = ns.map V.int
  | [], vs, h => h.nil_inv
  | n :: ns, vs, h => by
    obtain ⟨v, ws, rfl, r, t⟩ := RA.cons_inv h
    rw [r.int_inv, ints_ra t]; rfl
theorem strs_ra {K : PySem.W.Frag} {F : Hp} : ∀ {ns : List Str} {vs : List V}, RA K F vs (ns.map PyData.str) → vs = ns.map V.str
  | [], vs, h => h.nil_inv
  | n :: ns, vs, h => by
    obtain ⟨v, ws, rfl, r, t⟩ := RA.cons_inv h
    rw [r.str_inv, strs_ra t]; rfl
theorem zi_sqL {q : Addr} {xs : List V} {y : Str} {py : Pos} (hσ : σ[n]? = some (some (.ref q))) (hq : SqL X.K F q xs) (r : RA X.K F xs ds) (hz : ds.length ≤ sizeLine) (hN : X.N[n]? = some y := by rfl) (hv : Vis X.env.scope y := by first | exact Or.inl rfl | exact Or.inr (Or.inl rfl) | exact Or.inr (Or.inr rfl))
    (hd : (y == ("__debug__" : Str)) = false := by decide) (hcd : (y == ("__classdict__" : Str)) = false := by decide) : ZI X tg (.Name y py) σ F O ds O := fun F1 H g w Q qq =>
  wI_of (pi_list (pe_var hN hv hd hcd)) ⟨_, hσ, q, rfl, ⟨xs, w.sub.sqL (g.sqL hq)⟩, qq _ _ _ (Stp.refl w) (walks_sqL (g.sqL hq) (r.mono g) hz)⟩

/-! ### in -/
theorem inV_int (i : Int) : ∀ ns : List Int, inV (.int i) (ns.map V.int) = decide (i ∈ ns)
  | [] => by simp [inV]
  | n :: ns => by
    have ih := inV_int i ns
    unfold inV at ih ⊢
    rw [List.map_cons, List.any_cons, ih]
    show (n == i || decide (i ∈ ns)) = _
    rw [Bool.eq_iff_iff, Bool.or_eq_true, beq_iff_eq, decide_eq_true_iff, decide_eq_true_iff, List.mem_cons]
    exact or_congr_left eq_comm
theorem inV_str (i : Str) : ∀ ns : List Str, inV (.str i) (ns.map V.str) = decide (i ∈ ns)
  | [] => by simp [inV]
  | n :: ns => by
    have ih := inV_str i ns
    unfold inV at ih ⊢
    rw [List.map_cons, List.any_cons, ih]
    show (n == i || decide (i ∈ ns)) = _
    rw [Bool.eq_iff_iff, Bool.or_eq_true, beq_iff_eq, decide_eq_true_iff, decide_eq_true_iff, List.mem_cons]
    exact or_congr_left eq_comm
theorem all_flat_int : ∀ ns : List Int, (ns.map V.int).all flatV = true
  | [] => rfl
  | n :: ns => by rw [List.map_cons, List.all_cons, all_flat_int ns]; rfl
theorem all_flat_str : ∀ ns : List Str, (ns.map V.str).all flatV = true
  | [] => rfl
  | n :: ns => by rw [List.map_cons, List.all_cons, all_flat_str ns]; rfl
theorem cm_inI {ns : List Int} : CmpR X .In F O (.int i) (eL eI ns) (decide (i ∈ ns)) := ⟨_, op_in_seq, fun _ _ _ _ _ w r1 r2 Q q => by
  obtain ⟨l, xs, rfl, e1, a1⟩ := r2.lst_inv
  have ex := ints_ra a1
  subst ex
  rw [r1.int_inv]
  exact ⟨l, _, rfl, .inl (.inl (.inl (w.sub _ _ e1))), rfl, all_flat_int ns, by show Q (V.bl (if false = true then _ else _)) _; rw [if_neg (by decide), inV_int]; exact q⟩⟩
theorem cm_ninI {ns : List Int} : CmpR X .NotIn F O (.int i) (eL eI ns) (!decide (i ∈ ns)) := ⟨_, op_notIn_seq, fun _ _ _ _ _ w r1 r2 Q q => by
  obtain ⟨l, xs, rfl, e1, a1⟩ := r2.lst_inv
  have ex := ints_ra a1
  subst ex
  rw [r1.int_inv]
  exact ⟨l, _, rfl, .inl (.inl (.inl (w.sub _ _ e1))), rfl, all_flat_int ns, by show Q (V.bl (if true = true then _ else _)) _; rw [if_pos rfl, inV_int]; exact q⟩⟩
theorem cm_inS {y : Str} {ns : List Str} : CmpR X .In F O (.str y) (eL eS ns) (decide (y ∈ ns)) := ⟨_, op_in_seq, fun _ _ _ _ _ w r1 r2 Q q => by
  obtain ⟨l, xs, rfl, e1, a1⟩ := r2.lst_inv
  have ex := strs_ra a1
  subst ex
  rw [r1.str_inv]
  exact ⟨l, _, rfl, .inl (.inl (.inl (w.sub _ _ e1))), rfl, all_flat_str ns, by show Q (V.bl (if false = true then _ else _)) _; rw [if_neg (by decide), inV_str]; exact q⟩⟩
theorem cm_ninS {y : Str} {ns : List Str} : CmpR X .NotIn F O (.str y) (eL eS ns) (!decide (y ∈ ns)) := ⟨_, op_notIn_seq, fun _ _ _ _ _ w r1 r2 Q q => by
  obtain ⟨l, xs, rfl, e1, a1⟩ := r2.lst_inv
  have ex := strs_ra a1
  subst ex
  rw [r1.str_inv]
  exact ⟨l, _, rfl, .inl (.inl (.inl (w.sub _ _ e1))), rfl, all_flat_str ns, by show Q (V.bl (if true = true then _ else _)) _; rw [if_pos rfl, inV_str]; exact q⟩⟩
theorem cm_inTS {y : Str} {ns : List Str} : CmpR X .In F O (.str y) (eTL eS ns) (decide (y ∈ ns)) := ⟨_, op_in_seq, fun _ _ _ _ _ w r1 r2 Q q => by
  obtain ⟨l, xs, rfl, e1, a1⟩ := r2.tup_inv
  have ex := strs_ra a1
  subst ex
  rw [r1.str_inv]
  exact ⟨l, _, rfl, .inr (w.sub.sqT e1), rfl, all_flat_str ns, by show Q (V.bl (if false = true then _ else _)) _; rw [if_neg (by decide), inV_str]; exact q⟩⟩
/-! ### sorted of ints -/
def sortI (xs : List Int) : List Int := xs.mergeSort (fun a b => decide (a ≤ b))
theorem sortI_perm (xs : List Int) : (sortI xs).Perm xs := List.mergeSort_perm _ _
theorem sortI_sorted (xs : List Int) : (sortI xs).Pairwise (· ≤ ·) := by
  have h := List.pairwise_mergeSort (le := fun a b : Int => decide (a ≤ b)) (fun a b c => by simp; omega) (fun a b => by simp; omega) xs
  exact h.imp (by intro a b; simp)
theorem sorted_unique {xs ys : List Int} (h : xs.Perm ys) (hx : xs.Pairwise (· ≤ ·)) (hy : ys.Pairwise (· ≤ ·)) : xs = ys := List.Perm.eq_of_pairwise (fun a b _ _ h1 h2 => Int.le_antisymm h1 h2) hx hy h
theorem zn_sortI {ns : List Int} (hm : X.mg "sorted" = none) (ha : ZE X e σ F O (eL eI ns) O1) (hg : Gl X "sorted" := by rfl) (he : starEach [e] X.env = (false, eval e X.env) :: starEach [] X.env := by rfl) (hpl : (backTo pos (starEach [] X.env)).any (·.1) = false := by rfl) : ZN X (.Call (.Name "sorted" p) [e] [] pos) σ F O ((sortI ns).map eI) O1 :=
  zn_callB cr_sortedI hm (by decide +kernel) (za_cons ha za_nil he) (fun F1 H1 vs _ w r Q q => by
    obtain ⟨v, rfl, r1⟩ := r.one
    obtain ⟨l, xs, rfl, e1, a1⟩ := r1.lst_inv
    have ex := ints_ra a1
    subst ex
    refine ⟨l, ns, rfl, .inl (.inl (w.sub _ _ e1)), fun ns' p hp hs hn => ?_⟩
    have ee : ns' = sortI ns := sorted_unique (hp.trans (sortI_perm ns).symm) hs (sortI_sorted ns)
    rw [ee]
    have hz := w.sz _ _ e1
    exact q p _ _ _ hn (Stp.alloc w hn (by show ((sortI ns).map V.int).length ≤ _; rw [List.length_map, (sortI_perm ns).length_eq]; rw [List.length_map] at hz; exact hz)) (ra_ints _)) hg (by decide) (by decide) he hpl
theorem ze_ifc {α : Type} (f : α → PyData) {x y : α} (hc : ZT X c σ F O k O1) (ha : k = true → ZE X a σ F O1 (f x) O2) (hb : k = false → ZE X b σ F O1 (f y) O2) : ZE X (.IfExp c a b pos) σ F O (f (cond k x y)) O2 := by
  have h := ze_if0 (pos := pos) f hc ha hb
  have e1 : (if k = true then x else y) = cond k x y := by cases k <;> rfl
  rw [e1] at h
  exact h
def setL {α : Type} (xs : List α) (i : Int) (v : α) : List α := match ixN xs.length i with
  | some q => xs.set q v
  | none => xs
theorem setL_eq {α : Type} {xs : List α} {i : Int} {v : α} {q : Nat} (h : ixN xs.length i = some q) : setL xs i v = xs.set q v := by
  unfold setL
  rw [h]
theorem setL_length {α : Type} (xs : List α) (i : Int) (v : α) : (setL xs i v).length = xs.length := by
  unfold setL
  split
  · rw [List.length_set]
  · rfl
def repL {α : Type} (xs : List α) (i : Int) : List α := (List.replicate i.toNat xs).flatten
theorem zn_rept {α : Type} {enc : α → PyData} {xs : List α} (ha : ZE X a σ F O (eL enc xs) O1) (hb : ZE X b σ F O1 (.int i) O2) (h0 : 0 ≤ i) (h1 : i < 2 ^ 62) (h : xs.length * i.toNat ≤ sizeLine) : ZN X (.BinOp a .Mult b pos) σ F O ((repL xs i).map enc) O2 :=
  zn_eq (zn_rep ha hb h0 h1 (by rw [List.length_map]; exact h)) (by unfold repL; rw [List.map_flatten, List.map_replicate])
theorem bls_ra {K : PySem.W.Frag} {F : Hp} : ∀ {ns : List Bool} {vs : List V}, RA K F vs (ns.map PyData.bool) → vs = ns.map V.bl
  | [], vs, h => h.nil_inv
  | n :: ns, vs, h => by
    obtain ⟨v, ws, rfl, r, t⟩ := RA.cons_inv h
    rw [r.bl_inv, bls_ra t]; rfl
theorem ze_all {ns : List Bool} (hc : X.calm = true) (hm : X.mg "all" = none) (ha : ZE X e σ F O (eL eB ns) O1) (hg : Gl X "all" := by rfl) (he : starEach [e] X.env = (false, eval e X.env) :: starEach [] X.env := by rfl) (hpl : (backTo pos (starEach [] X.env)).any (·.1) = false := by rfl) : ZE X (.Call (.Name "all" p) [e] [] pos) σ F O (.bool (ns.all id)) O1 :=
  ze_callB (cr_all hc) hm (by decide +kernel) (za_cons ha za_nil he) (fun F1 H1 vs _ w r Q q => by
    obtain ⟨v, rfl, r1⟩ := r.one
    obtain ⟨l, xs, rfl, e1, a1⟩ := r1.lst_inv
    have ex := bls_ra a1
    subst ex
    exact ⟨l, ns, rfl, .inl (.inl (w.sub _ _ e1)), q _ _ _ (Stp.refl w) (.bl _)⟩) hg (by decide) (by decide) he hpl
theorem ze_any {ns : List Bool} (hc : X.calm = true) (hm : X.mg "any" = none) (ha : ZE X e σ F O (eL eB ns) O1) (hg : Gl X "any" := by rfl) (he : starEach [e] X.env = (false, eval e X.env) :: starEach [] X.env := by rfl) (hpl : (backTo pos (starEach [] X.env)).any (·.1) = false := by rfl) : ZE X (.Call (.Name "any" p) [e] [] pos) σ F O (.bool (ns.any id)) O1 :=
  ze_callB (cr_any hc) hm (by decide +kernel) (za_cons ha za_nil he) (fun F1 H1 vs _ w r Q q => by
    obtain ⟨v, rfl, r1⟩ := r.one
    obtain ⟨l, xs, rfl, e1, a1⟩ := r1.lst_inv
    have ex := bls_ra a1
    subst ex
    exact ⟨l, ns, rfl, .inl (.inl (w.sub _ _ e1)), q _ _ _ (Stp.refl w) (.bl _)⟩) hg (by decide) (by decide) he hpl
def ixS (x : Str) (i : Int) : Str := ⟨#[(atI x.cps.toList i).getD 0]⟩
theorem ze_ixSt {x : Str} (ha : ZE X a σ F O (.str x) O1) (hb : ZE X b σ F O1 (.int i) O2) (hz : x.length ≤ sizeLine) (h : -(x.length : Int) ≤ i ∧ i < x.length) (hs : PlainIx b := by exact fun _ _ => rfl) : ZE X (.Subscript a b pos) σ F O (.str (ixS x i)) O2 := by
  have hl : x.cps.toList.length = x.length := rfl
  obtain ⟨j, hj, hlt⟩ := ixN_in (n := x.cps.toList.length) (i := i) (by rw [hl]; exact h)
  have h1 : atI x.cps.toList i = some ((atI x.cps.toList i).getD 0) := by
    unfold atI
    rw [hj]
    show x.cps.toList[j]? = some (x.cps.toList[j]?.getD 0)
    rw [List.getElem?_eq_getElem hlt]; rfl
  exact ze_ixS ha hb hz h1 hs
theorem zn_lstt {α : Type} {enc : α → PyData} {xs : List α} (h : ZA X es σ F O (xs.map enc) O1) (hz : xs.length ≤ sizeLine := by show _ ≤ (16777216 : Nat); exact Nat.le_of_ble_eq_true rfl) : ZN X (.List es pos) σ F O (xs.map enc) O1 := zn_lst h (by rw [List.length_map]; exact hz)
theorem ze_tupt {α : Type} {enc : α → PyData} {xs : List α} {kk} (h : ZA X es σ F O (xs.map enc) O1) (hz : xs.length ≤ sizeLine := by show _ ≤ (16777216 : Nat); exact Nat.le_of_ble_eq_true rfl) : ZE X (.Tuple es kk pos) σ F O (eTL enc xs) O1 := ze_tup h (by rw [List.length_map]; exact hz)
end
end Z

end
section
namespace Z
open PySem PySem.Spec PyProof.Rows L2

/-! ### isinstance -/
def tyName : PyData → String
  | .none => "NoneType" | .bool _ => "bool" | .int _ => "int" | .str _ => "str" | .list _ => "list" | .tuple _ => "tuple" | .dict _ => "dict"
section
variable {K : PySem.W.Frag} {F H : Hp} {v : V} {d : PyData}
theorem R.tyX (h : R K F v d) (g : Gr F H) : TyX K H v (.type (tyName d)) := by
  cases h with
  | non => exact .base .non
  | bl b => exact .base (.bl b)
  | int i => exact .base (.int i)
  | str x => exact .base (.str x)
  | lst e _ _ => exact .base (.lst (g _ _ e))
  | tup e _ _ => exact .base (.tup (g _ _ e))
end
section
variable {X : Cx} {e a b c tg iter elt : Expr} {es : List Expr} {σ : L2.St} {F H : Hp} {O O1 O2 O3 : Own} {d da db : PyData} {ds rs : List PyData} {pos p : Pos} {i j : Int} {k k1 k2 : Bool} {x y : Str} {n m : Nat}
theorem ze_isi {T : String} {px : Pos} (hm : X.mg "isinstance" = none) (hT : X.mg (Str.ofString T) = none) (ha : ZE X e σ F O d O1) (hk : kitB (tyName d) T = some k) (hv : bootBuiltins (Str.ofString T) = some (.type T) := by decide +kernel) (hg : Gl X "isinstance" := by rfl) (hgT : Gl X (Str.ofString T) := by rfl)
    (hn : Str.ofString T ≠ "__name__" := by decide) (hd : (Str.ofString T == ("__debug__" : Str)) = false := by decide)
    (he : starEach (e :: [.Name (Str.ofString T) px]) X.env = (false, eval e X.env) :: starEach [.Name (Str.ofString T) px] X.env := by rfl) (he2 : starEach (.Name (Str.ofString T) px :: []) X.env = (false, eval (.Name (Str.ofString T) px) X.env) :: starEach [] X.env := by rfl)
    (hpl : (backTo pos (starEach [.Name (Str.ofString T) px] X.env)).any (·.1) = false := by rfl) : ZE X (.Call (.Name "isinstance" p) [e, .Name (Str.ofString T) px] [] pos) σ F O (.bool k) O1 := fun F1 H g w Q q =>
  wE_of (pe_callB call_isi hg hm boot_isinstance (pa_cons pe_w (pa_cons (pe_bltn (v := .ty T) hgT hT hv rfl hn hd) pa_nil he2) he) (by decide) (by decide) he hpl)
    (ha F1 H g w _ fun v F2 H2 s1 r1 => ⟨v, .ty T, .type (tyName d), .type T, k, rfl, .ty T, r1.tyX s1.ok.sub, kit_ty hk, q _ _ _ s1 (.bl k)⟩)

/-! ### ways that are known -/
variable {rest body els : List Stmt} {D : Ends}
theorem zs_ifT (w : WOk F O H) (hc : ZT X c σ F O true O1) (h1 : ∀ F1 H1, Stp F O H F1 O1 H1 → ZS X body σ H1 { D with nx := fun σ' H' => ZS X rest σ' H' D }) : ZS X (.If c body els pos :: rest) σ H D := zs_if w hc (fun _ => h1) fun h => Bool.noConfusion h
theorem zs_ifF (w : WOk F O H) (hc : ZT X c σ F O false O1) (h1 : ∀ F1 H1, Stp F O H F1 O1 H1 → ZS X els σ H1 { D with nx := fun σ' H' => ZS X rest σ' H' D }) : ZS X (.If c body els pos :: rest) σ H D := zs_if w hc (fun h => Bool.noConfusion h) fun _ => h1

/-! ### pop -/
variable {q : Addr} {vs : List V} {px apos cpos : Pos}
theorem ze_popO (n m : Nat) {v : V} (hσ : σ[n]? = some (some (.ref q))) (hO : O[m]? = some (q, .lst (vs ++ [v]))) (hr : R X.K F v d) (hN : X.N[n]? = some x := by rfl)
    (hv : Vis X.env.scope x := by first | exact Or.inl rfl | exact Or.inr (Or.inl rfl) | exact Or.inr (Or.inr rfl)) (hd : (x == ("__debug__" : Str)) = false := by decide) (hcd : (x == ("__classdict__" : Str)) = false := by decide)
    (hbase : attributeBase (.Name x px) "pop" X.env (eval (.Name x px) X.env) = eval (.Name x px) X.env := by rfl)
    (hline : (apos.endLine == cpos.line) = true := by rfl) : ZE X (.Call (.Attribute (.Name x px) "pop" apos) [] [] cpos) σ F O d (O.set m (q, .lst vs)) := fun F1 H g w Q qq => by
  have hH := (w.at_ hO).1
  refine wE_of (pe_bm0 PySem.F.plainAttrs_list PySem.F.slot_list_pop PySem.F.type_list_pop mt_pop (pe_var hN hv hd hcd) hbase hline) ⟨_, hσ, .inl ⟨rfl, _, .inl (.inl hH)⟩, q, vs ++ [v], v, rfl, rfl, hH, by simp, ?_⟩
  have hz := w.szo _ (List.mem_of_getElem? hO) _ rfl
  rw [List.dropLast_concat]
  exact qq _ _ _ (Stp.write w hO (by show vs.length ≤ _; rw [List.length_append] at hz; omega)) (hr.mono g)

/-! ### xs.index(y) of ints -/
theorem idxOf_before : ∀ (ns : List Int) (i : Int) (m : Nat) (t : Int), m < ns.idxOf i → ns[m]? = some t → t ≠ i
  | [], i, m, t, h, _ => by simp at h
  | a :: ns, i, 0, t, h, e => by
    have e : a = t := by simpa using e
    subst e
    intro z; subst z
    rw [List.idxOf_cons_self] at h; exact absurd h (Nat.lt_irrefl _)
  | a :: ns, i, m + 1, t, h, e => by
    by_cases ha : a = i
    · subst ha; rw [List.idxOf_cons_self] at h; omega
    · rw [List.idxOf_cons] at h
      have hb : (a == i) = false := beq_eq_false_iff_ne.mpr ha
      rw [hb] at h
      have h : m + 1 < ns.idxOf i + 1 := h
      exact idxOf_before ns i m t (by omega) (by simpa using e)
theorem ze_indexI {ns : List Int} (ha : ZE X a σ F O (eL eI ns) O1) (hb : ZE X b σ F O1 (eI i) O2) (hi : i ∈ ns)
    (hbase : attributeBase a "index" X.env (eval a X.env) = eval a X.env := by rfl)
    (hfew : ((backTo cpos (starEach (b :: []) X.env)).all (fun x => !x.1) && (backToKw cpos (keywordEach [] X.env)).all (fun x => x.1.isSome)
      && decide ((b :: []).length + ([] : List Keyword).length + (if ([] : List Keyword).isEmpty then 0 else 1) < 30)) = true := by rfl)
    (hline : (apos.endLine == cpos.line) = true := by rfl) (hse : starEach (b :: []) X.env = (false, eval b X.env) :: starEach [] X.env := by rfl) (hplain : (backTo cpos (starEach [] X.env)).any (·.1) = false := by rfl) :
    ZE X (.Call (.Attribute a "index" apos) [b] [] cpos) σ F O (eI (ns.idxOf i : Nat)) O2 := fun F1 H g w Q qq => by
  refine wE_of (pe_bm PySem.F.plainAttrs_list PySem.F.slot_list_index PySem.F.type_list_index mt_index pe_w (pa_cons pe_w pa_nil hse) hbase hfew hline hse hplain) (ha F1 H g w _ fun v F2 H2 s1 r1 => ?_)
  obtain ⟨l, xs, rfl, e1, a1⟩ := r1.lst_inv
  have ex := ints_ra a1
  subst ex
  refine ⟨.inl ⟨rfl, _, .inl (.inl (s1.ok.sub _ _ e1))⟩, hb F2 H2 (g.trans s1.gr) s1.ok _ fun u F3 H3 s2 r2 => ?_⟩
  have hlt := List.idxOf_lt_length_iff.mpr hi
  refine ⟨l, ns.map V.int, u, ns.idxOf i, .int i, rfl, rfl, .inl (.inl (s2.ok.sub _ _ (s2.gr _ _ e1))), by rw [r2.int_inv]; rfl, all_flat_int ns, ?_, ?_, ?_, qq _ _ _ (s1.trans s2) (.int _)⟩
  · rw [List.getElem?_map, List.getElem?_eq_getElem hlt, List.getElem_idxOf]; rfl
  · rw [r2.int_inv]; show (i == i) = true; exact beq_self_eq_true _
  · intro m' z' hm hz
    rw [List.getElem?_map] at hz
    cases hq : ns[m']? with
    | none => rw [hq] at hz; cases hz
    | some t =>
      rw [hq] at hz; cases hz
      rw [r2.int_inv]
      show (t == i) = false
      exact beq_eq_false_iff_ne.mpr fun e => idxOf_before ns i m' t hm hq e
end

/-! ### how many values -/
mutual
def dsz : PyData → Nat
  | .list xs => 1 + dszL xs
  | .tuple xs => 1 + dszL xs
  | .none => 1 | .bool _ => 1 | .int _ => 1 | .str _ => 1 | .dict _ => 1
def dszL : List PyData → Nat
  | [] => 0
  | d :: ds => dsz d + dszL ds
end
theorem dszL_app : ∀ xs ys : List PyData, dszL (xs ++ ys) = dszL xs + dszL ys
  | [], ys => by simp [dszL]
  | x :: xs, ys => by rw [List.cons_append]; simp only [dszL]; rw [dszL_app xs ys]; omega
theorem dsz_list (xs : List PyData) : dsz (.list xs) = 1 + dszL xs := by simp [dsz]
theorem dsz_tuple (xs : List PyData) : dsz (.tuple xs) = 1 + dszL xs := by simp [dsz]
theorem dsz_pos (d : PyData) : 1 ≤ dsz d := by cases d <;> simp [dsz]
theorem dszL_map_le {α : Type} {e : α → PyData} {c : Nat} : ∀ {xs : List α}, (∀ x ∈ xs, dsz (e x) ≤ c) → dszL (xs.map e) ≤ c * xs.length
  | [], _ => by simp [dszL]
  | x :: xs, h => by
    have h1 := h x List.mem_cons_self
    have h2 := dszL_map_le (xs := xs) fun y hy => h y (List.mem_cons_of_mem _ hy)
    rw [List.map_cons, List.length_cons, Nat.mul_succ]
    simp only [dszL]; omega
theorem dsz_L {α : Type} {e : α → PyData} {c : Nat} {xs : List α} (h : ∀ x ∈ xs, dsz (e x) ≤ c) : dsz (eL e xs) ≤ 1 + c * xs.length := by
  show dsz (.list _) ≤ _
  rw [dsz_list]
  have := dszL_map_le h
  omega
theorem dsz_T2 {α β : Type} {e1 : α → PyData} {e2 : β → PyData} {p : α × β} {c1 c2 : Nat} (h1 : dsz (e1 p.1) ≤ c1) (h2 : dsz (e2 p.2) ≤ c2) : dsz (eT2 e1 e2 p) ≤ 1 + c1 + c2 := by
  show dsz (.tuple _) ≤ _
  rw [dsz_tuple]
  simp only [dszL]; omega
theorem dsz_I (i : Int) : dsz (eI i) ≤ 1 := by simp [dsz]
theorem dsz_B (i : Bool) : dsz (eB i) ≤ 1 := by simp [dsz]
theorem dsz_S (i : Str) : dsz (eS i) ≤ 1 := by simp [dsz]
theorem dsz_O {α : Type} {e : α → PyData} {o : Option α} {c : Nat} (h : ∀ x, o = some x → dsz (e x) ≤ c) (hc : 1 ≤ c) : dsz (eO e o) ≤ c := by
  cases o with
  | none => simp [eO, dsz]; exact hc
  | some x => exact h x rfl
end Z

end
section
namespace Z
open PySem PySem.Spec PyProof.Rows L2

/-! ### what is mine, lent as data for the time of a call -/
def frz (F : Hp) (O : Own) : Hp := fun b => match O.find? (fun q => decide (q.1 = b)) with
  | some q => some q.2
  | none => F b
def unf (F : Hp) (O : Own) : Hp := fun b => if b ∈ keys O then none else F b
section
variable {K : PySem.W.Frag} {F F' F1 F2 H H' : Hp} {v : V} {d : PyData} {a p : Addr} {vs : List V} {ds : List PyData} {O O' : Own} {o o' : HO}
theorem frz_cases (F : Hp) (O : Own) (b : Addr) : (∃ q ∈ O, q.1 = b ∧ frz F O b = some q.2) ∨ (b ∉ keys O ∧ frz F O b = F b) := by
  unfold frz
  cases e : O.find? (fun q => decide (q.1 = b)) with
  | some q => exact .inl ⟨q, List.mem_of_find?_eq_some e, by have := List.find?_some e; simpa using this, rfl⟩
  | none =>
    refine .inr ⟨fun h => ?_, rfl⟩
    obtain ⟨q, hq, rfl⟩ := List.mem_map.mp h
    have := List.find?_eq_none.mp e q hq
    simp at this
theorem WOk.frz (w : WOk F O H) : WOk (frz F O) [] H where
  sub := fun b u e => by
    rcases frz_cases F O b with ⟨q, hq, rfl, h⟩ | ⟨_, h⟩
    · rw [h] at e; cases e; exact (w.own q hq).1
    · rw [h] at e; exact w.sub b u e
  own := fun _ h => nomatch h
  nd := List.nodup_nil
  sz := fun b xs e => by
    rcases frz_cases F O b with ⟨q, hq, rfl, h⟩ | ⟨_, h⟩
    · rw [h] at e; exact w.szo q hq xs (Option.some.inj e)
    · rw [h] at e; exact w.sz b xs e
  szo := fun _ h => nomatch h
theorem Gr.frz (w : WOk F O H) : Gr F (frz F O) := fun b o e => by
  rcases frz_cases F O b with ⟨q, hq, rfl, h⟩ | ⟨_, h⟩
  · rw [(w.own q hq).2] at e; cases e
  · rw [h]; exact e
theorem frz_at (w : WOk F O H) {k : Nat} (h : O[k]? = some (a, o)) : frz F O a = some o := by
  rcases frz_cases F O a with ⟨q, hq, e, h2⟩ | ⟨n, _⟩
  · have h1 := (w.own q hq).1
    rw [e, (w.at_ h).1] at h1
    rw [h2, ← h1]
  · exact absurd (w.key h) n
theorem Stp.unf (w : WOk F O H) (x : Stp (frz F O) [] H F' [] H') : Stp F O H (unf F' O) O H' where
  ok := {
    sub := fun b u e => by
      unfold Z.unf at e
      split at e
      · cases e
      · exact x.ok.sub b u e
    own := fun q hq => ⟨x.keep _ _ (w.own q hq).1 (by intro z; cases z), by
      unfold Z.unf
      exact if_pos (show q.1 ∈ keys O from List.mem_map.mpr ⟨q, hq, rfl⟩)⟩
    nd := w.nd
    sz := fun b xs e => by
      unfold Z.unf at e
      split at e
      · cases e
      · exact x.ok.sz b xs e
    szo := w.szo }
  gr := fun b o e => by
    have hb : b ∉ keys O := fun h => by
      obtain ⟨q, hq, rfl⟩ := List.mem_map.mp h
      rw [(w.own q hq).2] at e; cases e
    unfold Z.unf
    rw [if_neg hb]
    exact x.gr b o (Gr.frz w b o e)
  keep := fun b o e _ => x.keep b o e (by intro z; cases z)
  fr := fun b o e => by
    unfold Z.unf at e
    split at e
    · cases e
    · rename_i hb
      rcases x.fr b o e with h | h
      · rcases frz_cases F O b with ⟨q, hq, rfl, _⟩ | ⟨_, h2⟩
        · exact absurd (List.mem_map.mpr ⟨q, hq, rfl⟩) hb
        · rw [h2] at h; exact .inl h
      · exact .inr h
  ky := fun _ h => .inl h
  dom := x.dom
theorem Gr.frz2 (g : Gr F F1) : Gr (Z.frz F O) (Z.frz F1 O) := fun b o e => by
  unfold Z.frz at e ⊢
  split at e
  · exact e
  · exact g b o e
end
section
variable {X : Cx} {e a b c tg iter elt : Expr} {es : List Expr} {σ : L2.St} {F H : Hp} {O O1 O2 O3 : Own} {d da db : PyData} {ds rs : List PyData} {pos p : Pos} {i j : Int} {k k1 k2 : Bool} {x : Str} {n : Nat} {ps : List Str}
theorem ze_eqB (h : ZE X e σ F O (.bool k1) O1) (q : k1 = k) : ZE X e σ F O (.bool k) O1 := q ▸ h
/-- a call whose first argument is a value that stands on what is mine -/
theorem ze_callDZ {A : List PyData → PyData → Prop} {sx : Str} {sp : Pos} {v : V} (l : Nat) (G : Fn X.prog X.w X.K X.mg X.base n x ps (spD X.K A)) (hr : Room n X.A) (hσ : σ[l]? = some (some v)) (hv0 : ∀ F1 H1, Gr F F1 → WOk F1 O H1 → R X.K (frz F1 O) v d) (ha : ZA X es σ F O ds O) (hA : A (d :: ds) (.bool k))
    (hN : X.N[l]? = some sx := by rfl) (hv : Vis X.env.scope sx := by first | exact Or.inl rfl | exact Or.inr (Or.inl rfl) | exact Or.inr (Or.inr rfl)) (hg : Gl X x := by rfl) (hdb : (x == ("__debug__" : Str)) = false := by decide) (hd : (sx == ("__debug__" : Str)) = false := by decide) (hcd : (sx == ("__classdict__" : Str)) = false := by decide)
    (he : starEach (.Name sx sp :: es) X.env = (false, eval (.Name sx sp) X.env) :: starEach es X.env := by rfl) (hpl : (backTo pos (starEach es X.env)).any (·.1) = false := by rfl) : ZE X (.Call (.Name x p) (.Name sx sp :: es) [] pos) σ F O (.bool k) O := fun F1 H g w Q qq => by
  obtain ⟨f, fd, G, hm, hk, hb⟩ := G.ex
  refine wE_of (pe_call G hr hg hm hk hb .nil (E := E0) pass0 (pa_cons (pe_var hN hv hd hcd) pa_w he) hdb he hpl) ⟨_, hσ, ha F1 H g w _ fun vs F2 H2 s1 r1 => ?_⟩
  show spD X.K A ((v :: vs) ++ []) H2 Q E0
  rw [List.append_nil]
  refine ⟨frz F2 O, d :: ds, .bool k, s1.ok.frz, .cons (hv0 F2 H2 (g.trans s1.gr) s1.ok) (r1.mono (Gr.frz s1.ok)), hA, fun u F' H' s2 r2 => qq _ _ _ (s1.trans (Stp.unf s1.ok s2)) ?_⟩
  rw [r2.bl_inv]; exact .bl _
theorem ze_callDO {A : List PyData → PyData → Prop} {sx : Str} {sp : Pos} {q : Addr} {us : List V} {d0 : List PyData} (l m : Nat) (G : Fn X.prog X.w X.K X.mg X.base n x ps (spD X.K A)) (hr : Room n X.A) (hσ : σ[l]? = some (some (.ref q))) (hO : O[m]? = some (q, .lst us)) (hra : RA X.K F us d0) (ha : ZA X es σ F O ds O) (hA : A (.list d0 :: ds) (.bool k))
    (hN : X.N[l]? = some sx := by rfl) (hv : Vis X.env.scope sx := by first | exact Or.inl rfl | exact Or.inr (Or.inl rfl) | exact Or.inr (Or.inr rfl)) (hg : Gl X x := by rfl) (hdb : (x == ("__debug__" : Str)) = false := by decide) (hd : (sx == ("__debug__" : Str)) = false := by decide) (hcd : (sx == ("__classdict__" : Str)) = false := by decide)
    (he : starEach (.Name sx sp :: es) X.env = (false, eval (.Name sx sp) X.env) :: starEach es X.env := by rfl) (hpl : (backTo pos (starEach es X.env)).any (·.1) = false := by rfl) : ZE X (.Call (.Name x p) (.Name sx sp :: es) [] pos) σ F O (.bool k) O :=
  ze_callDZ l G hr hσ (fun F1 H1 g w => (hra.mono (g.trans (Gr.frz w))).lst (frz_at w hO)) ha hA hN hv hg hdb hd hcd he hpl

instance instInhPyData : Inhabited PyData := ⟨.none⟩
instance instInhStr : Inhabited Str := ⟨⟨#[]⟩⟩
/-! ### the store of a script -/
def sto0 (ns : List Int) : Sto := ⟨0, 0, 0, ns.foldl (fun b a : Int => (b * 1000003 + a % 2305843009213693951 + 1) % 2305843009213693951) (17 + (ns.length : Int))⟩
def spMk (K : PySem.W.Frag) : Sp := fun vs H Q _ => ∃ (F : Hp) (a : Addr) (ns : List Int), vs = [.ref a] ∧ WOk F [] H ∧ SqL K F a (ns.map V.int) ∧ ns.length ≤ 63 ∧ ∀ p c F' H', H p = none → Stp F [] H F' [stoO p c (sto0 ns)] H' → R K F' c (eL eI ns) → Q (.ref p) H'
theorem zn_callMk {ns : List Int} {q : Addr} {sx : Str} {sp : Pos} (l : Nat) (G : Fn X.prog X.w X.K X.mg X.base n x ps (spMk X.K)) (hr : Room n X.A) (hσ : σ[l]? = some (some (.ref q))) (hS : SqL X.K F q (ns.map V.int)) (hl : ns.length ≤ 63)
    (hN : X.N[l]? = some sx := by rfl) (hv : Vis X.env.scope sx := by first | exact Or.inl rfl | exact Or.inr (Or.inl rfl) | exact Or.inr (Or.inr rfl)) (hg : Gl X x := by rfl) (hdb : (x == ("__debug__" : Str)) = false := by decide) (hd : (sx == ("__debug__" : Str)) = false := by decide) (hcd : (sx == ("__classdict__" : Str)) = false := by decide)
    (he : starEach (.Name sx sp :: []) X.env = (false, eval (.Name sx sp) X.env) :: starEach [] X.env := by rfl) (hpl : (backTo pos (starEach [] X.env)).any (·.1) = false := by rfl) : ZN X (.Call (.Name x p) [.Name sx sp] [] pos) σ F [] (stoD ns (sto0 ns)) [] := fun F1 H g w Q qq => by
  obtain ⟨f, fd, G, hm, hk, hb⟩ := G.ex
  refine wE_of (pe_call G hr hg hm hk hb .nil (E := E0) pass0 (pa_cons (pe_var hN hv hd hcd) pa_nil he) hdb he hpl) ⟨_, hσ, ?_⟩
  exact ⟨F1, q, ns, rfl, w, g.sqL hS, hl, fun p c F' H' hp s2 r2 => qq p _ _ _ hp s2 (sto_ra r2)⟩
theorem sto_inv {K : PySem.W.Frag} {us : List V} {ns : List Int} {s : Sto} (h : RA K F us (stoD ns s)) : ∃ c, us = stoL c s ∧ R K F c (eL eI ns) := by
  obtain ⟨c, us, rfl, rc, h⟩ := h.cons_inv
  obtain ⟨i1, us, rfl, q1, h⟩ := h.cons_inv
  obtain ⟨i2, us, rfl, q2, h⟩ := h.cons_inv
  obtain ⟨i3, us, rfl, q3, h⟩ := h.cons_inv
  obtain ⟨i4, us, rfl, q4, h⟩ := h.cons_inv
  obtain rfl := h.nil_inv
  obtain rfl := q1.int_inv
  obtain rfl := q2.int_inv
  obtain rfl := q3.int_inv
  obtain rfl := q4.int_inv
  exact ⟨c, rfl, rc⟩
def spLaw (K : PySem.W.Frag) : Sp := fun vs H Q _ => ∃ (a : Addr) (ns : List Int), vs = [.ref a] ∧ ns.length ≤ 63 ∧ SqL K H a (ns.map V.int) ∧ ∀ H', Q (.bl true) H'
/-- a world to start from: nothing but the script -/
theorem law_start {K : PySem.W.Frag} {H : Hp} {a : Addr} {vs : List V} (hl : vs.length ≤ 63) (h : SqL K H a vs) : ∃ F, WOk F [] H ∧ SqL K F a vs := by
  have one : ∀ o, H a = some o → (∀ xs, o = .lst xs → xs.length ≤ sizeLine) → WOk (fun b => if b = a then some o else none) [] H := fun o e hz =>
    { sub := fun b u e2 => by
        dsimp only at e2
        split at e2
        · rename_i hb; cases e2; rw [hb]; exact e
        · cases e2
      own := fun _ h => (nomatch h)
      nd := List.nodup_nil
      sz := fun b xs e2 => by
        split at e2
        · cases e2; exact hz xs rfl
        · cases e2
      szo := fun _ h => (nomatch h) }
  have hlz : vs.length ≤ sizeLine := by rw [← szL]; omega
  rcases h with (h | ⟨o, h⟩) | h
  · exact ⟨_, one _ h (fun xs e => by cases e; exact hlz), .inl (.inl (if_pos rfl))⟩
  · exact ⟨_, one _ h (fun xs e => by cases e), .inl (.inr ⟨o, if_pos rfl⟩)⟩
  · exact ⟨fun _ => none, { sub := fun _ _ e => (nomatch e), own := fun _ h => (nomatch h), nd := List.nodup_nil, sz := fun _ _ e => (nomatch e), szo := fun _ h => (nomatch h) }, .inr h⟩
end
end Z

end
section
namespace Z
open PySem PySem.Spec PyProof.Rows L2

theorem rangeI_at {lo hi x : Int} {i : Nat} (h : (rangeI lo hi)[i]? = some x) : x = lo + (i : Int) ∧ lo ≤ x ∧ x < hi := by
  have hl := (List.getElem?_eq_some_iff.mp h).1
  rw [rangeI_length] at hl
  unfold rangeI at h
  rw [List.getElem?_map, List.getElem?_range hl] at h
  have h : lo + (i : Int) = x := Option.some.inj h
  omega
theorem rangeI_mem {lo hi x : Int} : x ∈ rangeI lo hi ↔ lo ≤ x ∧ x < hi := by
  constructor
  · intro h
    obtain ⟨i, hi⟩ := List.mem_iff_getElem?.mp h
    have := rangeI_at hi
    omega
  · intro h
    refine List.mem_iff_getElem?.mpr ⟨(x - lo).toNat, ?_⟩
    unfold rangeI
    rw [List.getElem?_map, List.getElem?_range (by omega)]
    show some (lo + ((x - lo).toNat : Int)) = some x
    congr 1; omega
theorem foldl_inv {α β : Type} {f : β → α → β} (P : β → Prop) : ∀ {xs : List α} {b : β}, P b → (∀ b a, a ∈ xs → P b → P (f b a)) → P (xs.foldl f b)
  | [], _, h, _ => h
  | x :: xs, b, h, hf => foldl_inv P (xs := xs) (hf b x List.mem_cons_self h) fun b a ha => hf b a (List.mem_cons_of_mem _ ha)
section
variable {X : Cx} {e a b c tg iter elt : Expr} {es : List Expr} {σ : L2.St} {F H : Hp} {O O1 O2 O3 : Own} {d da db : PyData} {ds rs : List PyData} {pos apos cpos : Pos} {i j : Int} {k k1 k2 : Bool} {x : Str} {n m : Nat} {D : Ends} {rest : List Stmt} {p : Addr} {vs : List V} {v : V}
theorem ze_to {d' : PyData} {O1' : Own} (h : ZE X e σ F O d O1) (hd : d = d') (hO : O1 = O1') : ZE X e σ F O d' O1' := hd ▸ hO ▸ h
/-- an expression that tells a value and leaves the heap (a place in what is mine) -/
def ZP (X : Cx) (a : Expr) (σ : L2.St) (F : Hp) (O : Own) (v : V) : Prop := ∀ F1 H1, Gr F F1 → WOk F1 O H1 → ∀ Q : VK, Q v H1 → wE X a σ H1 Q
theorem zp_ixO (n m : Nat) {px : Pos} (hσ : σ[n]? = some (some (.ref p))) (hb : ZE X b σ F O (.int i) O) (hO : O[m]? = some (p, .lst vs)) (h : atI vs i = some v)
    (hN : X.N[n]? = some x := by rfl) (hv : Vis X.env.scope x := by first | exact Or.inl rfl | exact Or.inr (Or.inl rfl) | exact Or.inr (Or.inr rfl)) (hs : PlainIx b := by exact fun _ _ => rfl) (hd : (x == ("__debug__" : Str)) = false := by decide)
    (hcd : (x == ("__classdict__" : Str)) = false := by decide) : ∀ F1 H1, Gr F F1 → WOk F1 O H1 → ∀ Q : VK, (∀ F2 H2, Stp F1 O H1 F2 O H2 → Q v H2) → wE X (.Subscript (.Name x px) b pos) σ H1 Q := fun F1 H g w Q q =>
  wE_of (pe_ix ix_list (pe_var hN hv hd hcd) pe_w hs) ⟨_, hσ, hb F1 H g w _ fun y F2 H2 s1 r1 => ⟨p, vs, i, v, rfl, r1.int_inv, .inl (.inl (s1.ok.at_ hO).1), h, q _ _ s1⟩⟩
/-- a[i].append(e) where a[i] is mine -/
theorem zs_appendP (w : WOk F O H) {q : Addr} (m : Nat) (hp : ∀ F1 H1, Gr F F1 → WOk F1 O H1 → ∀ Q : VK, (∀ F2 H2, Stp F1 O H1 F2 O H2 → Q (.ref q) H2) → wE X a σ H1 Q) (he : ZE X e σ F O d O) (hO : O[m]? = some (q, .lst vs)) (hz : vs.length < sizeLine) (kk : ∀ v F1 H1, Stp F O H F1 (O.set m (q, .lst (vs ++ [v]))) H1 → R X.K F1 v d → ZS X rest σ H1 D)
    (hs : swapsWith (.Call (.Attribute a "append" apos) [e] [] cpos) none pos.line X.env = pure false := by rfl)
    (hbase : attributeBase a "append" X.env (eval a X.env) = eval a X.env := by rfl)
    (hfew : ((backTo cpos (starEach (e :: []) X.env)).all (fun x => !x.1) && (backToKw cpos (keywordEach [] X.env)).all (fun x => x.1.isSome)
      && decide ((e :: []).length + ([] : List Keyword).length + (if ([] : List Keyword).isEmpty then 0 else 1) < 30)) = true := by rfl)
    (hline : (apos.endLine == cpos.line) = true := by rfl) (hse : starEach (e :: []) X.env = (false, eval e X.env) :: starEach [] X.env := by rfl) (hplain : (backTo cpos (starEach [] X.env)).any (·.1) = false := by rfl) :
    ZS X (.Expr (.Call (.Attribute a "append" apos) [e] [] cpos) pos :: rest) σ H D := by
  refine wSs_of (pss_cons (ps_expr (pe_bm PySem.F.plainAttrs_list PySem.F.slot_list_append PySem.F.type_list_append mt_append pe_w (pa_cons pe_w pa_nil hse) hbase hfew hline hse hplain) hs) pss_w) ?_
  refine hp F H Gr.refl w _ fun F0 H0 s0 => ⟨.inl ⟨rfl, _, .inl (.inl (s0.ok.at_ hO).1)⟩, he F0 H0 s0.gr s0.ok _ fun v F1 H1 s1 r1 => ?_⟩
  exact ⟨q, vs, v, rfl, rfl, (s1.ok.at_ hO).1, hz, kk v _ _ ((s0.trans s1).trans (Stp.write s1.ok hO (by show (vs ++ [v]).length ≤ _; rw [List.length_append]; exact hz))) r1⟩
theorem zs_reverseP (w : WOk F O H) {q : Addr} (m : Nat) (hp : ∀ F1 H1, Gr F F1 → WOk F1 O H1 → ∀ Q : VK, (∀ F2 H2, Stp F1 O H1 F2 O H2 → Q (.ref q) H2) → wE X a σ H1 Q) (hO : O[m]? = some (q, .lst vs)) (kk : ∀ F1 H1, Stp F O H F1 (O.set m (q, .lst vs.reverse)) H1 → ZS X rest σ H1 D)
    (hs : swapsWith (.Call (.Attribute a "reverse" apos) [] [] cpos) none pos.line X.env = pure false := by rfl)
    (hbase : attributeBase a "reverse" X.env (eval a X.env) = eval a X.env := by rfl)
    (hline : (apos.endLine == cpos.line) = true := by rfl) : ZS X (.Expr (.Call (.Attribute a "reverse" apos) [] [] cpos) pos :: rest) σ H D := by
  refine wSs_of (pss_cons (ps_expr (pe_bm0 PySem.F.plainAttrs_list PySem.F.slot_list_reverse PySem.F.type_list_reverse mt_reverse pe_w hbase hline) hs) pss_w) ?_
  refine hp F H Gr.refl w _ fun F0 H0 s0 => ⟨.inl ⟨rfl, _, .inl (.inl (s0.ok.at_ hO).1)⟩, q, vs, rfl, rfl, (s0.ok.at_ hO).1, kk _ _ (s0.trans (Stp.write s0.ok hO (by show vs.reverse.length ≤ _; rw [List.length_reverse]; exact s0.ok.szo _ (List.mem_of_getElem? hO) _ rfl)))⟩
/-- a display whose first thing is a new list: both are mine -/
theorem zs_setLst1 (w : WOk F O H) (he : ZN X e σ F O rs O1) (hes : ∀ p0 us, ZA X es σ F ((p0, .lst us) :: O1) ds ((p0, .lst us) :: O1)) (hN : X.N.Nodup) (hi : X.N[n]? = some x) (hx : Loc X.env.scope x)
    (kk : ∀ p p0 us vs F1 H1, H p = none → H p0 = none → Stp F O H F1 ((p, .lst (.ref p0 :: vs)) :: (p0, .lst us) :: O1) H1 → RA X.K F1 us rs → RA X.K F1 vs ds → ZS X rest (σ.set n (some (.ref p))) H1 D)
    (hz : ds.length + 1 ≤ sizeLine := by show _ ≤ (16777216 : Nat); exact Nat.le_of_ble_eq_true rfl) {px : Pos}
    (hs : swapsWith (.List (e :: es) cpos) (some (.Name x px)) pos.line X.env = pure false := by rfl) (hf : X.fn x = true ∨ X.env.scope.names.lookup x = some .local := by first | exact .inl rfl | exact .inr rfl | assumption) (hse : starEach (e :: es) X.env = (false, eval e X.env) :: starEach es X.env := by rfl) : ZS X (.Assign [.Name x px] (.List (e :: es) cpos) pos :: rest) σ H D := by
  refine wSs_of (pss_cons (ps_set hN hi hx (pe_lst (pa_cons pe_w pa_w hse)) hs hf) pss_w) ?_
  refine he F H Gr.refl w _ fun p0 us F1 H1 hp0 s1 r1 => hes p0 us F1 H1 s1.gr s1.ok _ fun vs F2 H2 s2 r2 => ?_
  have hl : (V.ref p0 :: vs).length ≤ sizeLine := by rw [List.length_cons, r2.len]; exact hz
  refine ⟨hl, fun p hp => kk p p0 us vs _ _ ?_ hp0 ((s1.trans s2).trans (Stp.alloc s2.ok hp hl)) (r1.mono s2.gr) r2⟩
  cases z : H p with
  | none => rfl
  | some u => exact absurd hp ((s1.trans s2).dom p (by rw [z]; simp))
end
end Z

end
section
namespace Z
open PySem PySem.Spec PyProof.Rows L2
section
variable {X : Cx} {e a b c tg iter elt tg1 iter1 : Expr} {es : List Expr} {σ : L2.St} {F H : Hp} {O O1 O2 O3 : Own} {d da db : PyData} {ds rs : List PyData} {pos p : Pos} {i j : Int} {k k1 k2 : Bool} {x y : Str} {n m : Nat} {px py spos : Pos} {scope : Scope} {ifs : List Expr}
variable {α α1 β γ : Type} {G : β → Own} {enc : α → PyData} {enc1 : α1 → PyData} {encR : γ → PyData} {xs : List α} {st0 : β} {own : List (Str × Nat)} {vs1 : List Nat}
def uG (X : Cx) (scope : Scope) (tg : Expr) : TG := fun v σ H Q => ∀ s H0 C cl fp, wG (blkX X scope s H0 C cl fp) tg v σ H Q
def uI (X : Cx) (scope : Scope) (tg iter : Expr) : TI := fun σ H Rr => ∀ s H0 C cl fp, wI (blkX X scope s H0 C cl fp) tg iter σ H Rr
theorem pg_u (s : Shared) (H : Hp) (C : Addr) (cl : List (Str × Addr)) (fp : List Addr) : PG (blkX X scope s H C cl fp) tg (uG X scope tg) := ⟨fun pins s' _ _ _ u _ I r h => h s H C cl fp pins s' u I r⟩
theorem pi_u (s : Shared) (H : Hp) (C : Addr) (cl : List (Str × Addr)) (fp : List Addr) : PI (blkX X scope s H C cl fp) tg iter (uI X scope tg iter) := ⟨fun pins s' _ _ _ I h => h s H C cl fp pins s' I⟩
/-- how a target is bound to an item -/
structure Bd (X : Cx) (scope : Scope) (tg : Expr) (vs : List Nat) (σ0 : L2.St) (enc : α → PyData) (xs : List α) (B : α → L2.St → Hp → Prop) : Prop where
  wp : ∀ a σ2 F', B a σ2 F' → wipe σ2 vs = wipe σ0 vs
  mono : ∀ a σ2 F' F'', B a σ2 F' → Gr F' F'' → B a σ2 F''
  tgt : ∀ s H0 C cl fp a v F' O' H' Q, a ∈ xs → WOk F' O' H' → R X.K F' v (enc a) → (∀ σ2, B a σ2 F' → Q σ2 H') → wG (blkX X scope s H0 C cl fp) tg v (wipe σ0 vs) H' Q
def genF (pr : β → α → Bool) (f0 : β → α → γ) (s1 s2 : β → α → β) : β → α → Option γ × β := fun st a => if pr st a then (some (f0 st a), s2 st a) else (none, s1 st a)
theorem lcX_read {B : α → L2.St → Hp → Prop} {f : β → α → Option γ × β} {tt : TT} (hi : ZI X tg iter σ F O (xs.map enc) (G st0)) (bd : Bd X scope tg (own.map (·.2)) σ enc xs B)
    (hb : ∀ st a σ2 F' H', a ∈ xs → Gr F F' → WOk F' (G st) H' → B a σ2 F' → ∀ (Q1 : V → Hp → Prop) (Q0 : Hp → Prop), (∀ v F2 H2 y, (f st a).1 = some y → Stp F' (G st) H' F2 (G (f st a).2) H2 → R X.K F2 v (encR y) → Q1 v H2) → (∀ F2 H2, (f st a).1 = none → Stp F' (G st) H' F2 (G (f st a).2) H2 → Q0 H2) →
      tt σ2 H' fun b H3 => if b = true then uE X scope elt σ2 H3 Q1 else Q0 H3)
    {F1 H : Hp} (g1 : Gr F F1) (w : WOk F1 O H) {Q : VK}
    (q : ∀ p us F2 H2, H p = none → Stp F1 O H F2 ((p, .lst us) :: G (runS f st0 xs).2) H2 → RA X.K F2 us ((runS f st0 xs).1.map encR) → Q (.ref p) H2) : tLc (wI X tg iter) (uG X scope tg) tt (uE X scope elt) (own.map (·.2)) σ H Q := by
  refine lc_read (fun i => G (stS f st0 xs i)) (fun i => (xs[i]?).bind fun a => (f (stS f st0 xs i) a).1.map encR) (fun F1 H g1 w Q q => hi F1 H g1 w Q q) (fun i d v F' H' hd gg ww rr Q1 Q0 h1 h0 => ?_) g1 w (fun p us F2 H2 hp s2 ra => ?_)
  · rw [List.getElem?_map] at hd
    cases ha : xs[i]? with
    | none => rw [ha] at hd; cases hd
    | some a =>
      rw [ha] at hd; cases hd
      have es : stS f st0 xs (i + 1) = (f (stS f st0 xs i) a).2 := by show (match xs[i]? with | some a => _ | none => _) = _; rw [ha]
      rw [ha] at h1 h0
      rw [es] at h1 h0
      intro s H0 C cl fp
      refine bd.tgt s H0 C cl fp a v F' _ H' _ (List.mem_of_getElem? ha) ww rr fun σ2 b2 => ⟨bd.wp a σ2 F' b2, ?_⟩
      exact hb _ a σ2 F' H' (List.mem_of_getElem? ha) gg ww b2 Q1 Q0 (fun v F2 H2 y hy s r => h1 v F2 H2 (encR y) (by show Option.map encR _ = _; rw [hy]; rfl) s r) fun F2 H2 hy s => h0 F2 H2 (by show Option.map encR _ = _; rw [hy]; rfl) s
  · rw [List.length_map] at s2 ra
    rw [stS_run] at s2
    rw [runS_eq] at ra
    exact q p us F2 H2 hp s2 ra
/-- test and item as such a body -/
theorem body_t {B : α → L2.St → Hp → Prop} {pr : β → α → Bool} {f0 : β → α → γ} {s1 s2 : β → α → β} {c : Expr} (bd : Bd X scope tg (own.map (·.2)) σ enc xs B)
    (ht : ∀ s H0 C cl fp st a σ2 F', a ∈ xs → Gr F F' → B a σ2 F' → ZT (blkX X scope s H0 C cl fp) c σ2 F' (G st) (pr st a) (G (s1 st a)))
    (he : ∀ s H0 C cl fp st a σ2 F', a ∈ xs → pr st a = true → Gr F F' → B a σ2 F' → ZE (blkX X scope s H0 C cl fp) elt σ2 F' (G (s1 st a)) (encR (f0 st a)) (G (s2 st a))) :
    ∀ st a σ2 F' H', a ∈ xs → Gr F F' → WOk F' (G st) H' → B a σ2 F' → ∀ (Q1 : V → Hp → Prop) (Q0 : Hp → Prop), (∀ v F2 H2 y, (genF pr f0 s1 s2 st a).1 = some y → Stp F' (G st) H' F2 (G (genF pr f0 s1 s2 st a).2) H2 → R X.K F2 v (encR y) → Q1 v H2) → (∀ F2 H2, (genF pr f0 s1 s2 st a).1 = none → Stp F' (G st) H' F2 (G (genF pr f0 s1 s2 st a).2) H2 → Q0 H2) →
      uT X scope c σ2 H' fun b H3 => if b = true then uE X scope elt σ2 H3 Q1 else Q0 H3 := fun st a σ2 F' H' ha g w b2 Q1 Q0 h1 h0 => by
  intro s H0 C cl fp
  unfold genF at h1 h0
  refine ht s H0 C cl fp st a σ2 F' ha g b2 F' H' Gr.refl w _ fun F2 H2 s2' => ?_
  cases hp : pr st a with
  | true =>
    rw [if_pos rfl]
    intro s H0 C cl fp
    refine he s H0 C cl fp st a σ2 F2 ha hp (g.trans s2'.gr) (bd.mono _ _ _ _ b2 s2'.gr) F2 H2 Gr.refl s2'.ok _ fun u F3 H3 s3 r3 => h1 u F3 H3 (f0 st a) (by rw [hp]; rfl) ?_ r3
    rw [hp]
    exact s2'.trans s3
  | false =>
    rw [if_neg (by decide)]
    refine h0 F2 H2 (by rw [hp]; rfl) ?_
    rw [hp]
    exact s2'
theorem body_n {B : α → L2.St → Hp → Prop} {f0 : β → α → γ} {s2 : β → α → β}
    (he : ∀ s H0 C cl fp st a σ2 F', a ∈ xs → Gr F F' → B a σ2 F' → ZE (blkX X scope s H0 C cl fp) elt σ2 F' (G st) (encR (f0 st a)) (G (s2 st a))) :
    ∀ st a σ2 F' H', a ∈ xs → Gr F F' → WOk F' (G st) H' → B a σ2 F' → ∀ (Q1 : V → Hp → Prop) (Q0 : Hp → Prop), (∀ v F2 H2 y, ((fun st a => (some (f0 st a), s2 st a)) st a : Option γ × β).1 = some y → Stp F' (G st) H' F2 (G ((fun st a => (some (f0 st a), s2 st a)) st a : Option γ × β).2) H2 → R X.K F2 v (encR y) → Q1 v H2) → (∀ F2 H2, ((fun st a => (some (f0 st a), s2 st a)) st a : Option γ × β).1 = none → Stp F' (G st) H' F2 (G ((fun st a => (some (f0 st a), s2 st a)) st a : Option γ × β).2) H2 → Q0 H2) →
      tYes σ2 H' fun b H3 => if b = true then uE X scope elt σ2 H3 Q1 else Q0 H3 := fun st a σ2 F' H' ha g w b2 Q1 Q0 h1 h0 => by
  show (if true = true then uE X scope elt σ2 H' Q1 else Q0 H')
  rw [if_pos rfl]
  intro s H0 C cl fp
  exact he s H0 C cl fp st a σ2 F' ha g b2 F' H' Gr.refl w _ fun u F2 H2 s2 r2 => h1 u F2 H2 _ rfl s2 r2
theorem zn_lcXt {B : α → L2.St → Hp → Prop} {pr : β → α → Bool} {f0 : β → α → γ} {s1 s2 : β → α → β} {c : Expr} (hc : X.calm = true) (hN : X.N.Nodup) (hi : ZI X tg iter σ F O (xs.map enc) (G st0)) (bd : Bd X scope tg (own.map (·.2)) σ enc xs B)
    (ht : ∀ s H0 C cl fp st a σ2 F', a ∈ xs → Gr F F' → B a σ2 F' → ZT (blkX X scope s H0 C cl fp) c σ2 F' (G st) (pr st a) (G (s1 st a)))
    (he : ∀ s H0 C cl fp st a σ2 F', a ∈ xs → pr st a = true → Gr F F' → B a σ2 F' → ZE (blkX X scope s H0 C cl fp) elt σ2 F' (G (s1 st a)) (encR (f0 st a)) (G (s2 st a)))
    (ok : BlkOk X.N X.env.scope scope own) (hs : ∀ x, foldedSetIterable iter X.env x = pure x := by intro _; rfl) :
    ZN X (.ListComp elt [⟨tg, iter, [c], 0⟩] scope pos) σ F O ((runS (genF pr f0 s1 s2) st0 xs).1.map encR) (G (runS (genF pr f0 s1 s2) st0 xs).2) := fun F1 H g1 w Q q =>
  wE_of (pe_lc hc hN pi_w ok pg_u (fun s H C cl fp => pts_one (pt_u s H C cl fp)) pe_u hs) (lcX_read hi bd (body_t bd ht he) g1 w q)
theorem zn_lcXn {B : α → L2.St → Hp → Prop} {f0 : β → α → γ} {s2 : β → α → β} (hc : X.calm = true) (hN : X.N.Nodup) (hi : ZI X tg iter σ F O (xs.map enc) (G st0)) (bd : Bd X scope tg (own.map (·.2)) σ enc xs B)
    (he : ∀ s H0 C cl fp st a σ2 F', a ∈ xs → Gr F F' → B a σ2 F' → ZE (blkX X scope s H0 C cl fp) elt σ2 F' (G st) (encR (f0 st a)) (G (s2 st a)))
    (ok : BlkOk X.N X.env.scope scope own) (hs : ∀ x, foldedSetIterable iter X.env x = pure x := by intro _; rfl) :
    ZN X (.ListComp elt [⟨tg, iter, [], 0⟩] scope pos) σ F O ((mapS (fun st a => (f0 st a, s2 st a)) st0 xs).1.map encR) (G (mapS (fun st a => (f0 st a, s2 st a)) st0 xs).2) := by
  have h : ZN X (.ListComp elt [⟨tg, iter, [], 0⟩] scope pos) σ F O ((runS (fun st a => (some (f0 st a), s2 st a)) st0 xs).1.map encR) (G (runS (fun st a => (some (f0 st a), s2 st a)) st0 xs).2) := fun F1 H g1 w Q q =>
    wE_of (pe_lc hc hN pi_w ok pg_u (fun s H C cl fp => pts_nil) pe_u hs) (lcX_read hi bd (body_n he) g1 w q)
  rw [runS_state (f0 := fun st a => (f0 st a, s2 st a))] at h
  exact h
/-- a comprehension that goes into a plain local -/
theorem zs_setLcXt (w : WOk F O H) {i0 : Nat} {rest : List Stmt} {D : Ends} {B : α → L2.St → Hp → Prop} {pr : β → α → Bool} {f0 : β → α → γ} {s1 s2 : β → α → β} {c : Expr} (hc : X.calm = true) (hN : X.N.Nodup) (hi : ZI X tg iter σ F O (xs.map enc) (G st0)) (bd : Bd X scope tg (own.map (·.2)) σ enc xs B)
    (ht : ∀ s H0 C cl fp st a σ2 F', a ∈ xs → Gr F F' → B a σ2 F' → ZT (blkX X scope s H0 C cl fp) c σ2 F' (G st) (pr st a) (G (s1 st a)))
    (he : ∀ s H0 C cl fp st a σ2 F', a ∈ xs → pr st a = true → Gr F F' → B a σ2 F' → ZE (blkX X scope s H0 C cl fp) elt σ2 F' (G (s1 st a)) (encR (f0 st a)) (G (s2 st a)))
    (ok : BlkOk X.N X.env.scope scope own) (hy : X.N[i0]? = some y) (hyl : X.env.scope.names.lookup y = some .local)
    (hsw : swapsWith (.ListComp elt [⟨tg, iter, [c], 0⟩] scope pos) (some (.Name y py)) spos.line X.env = pure true)
    (kk : ∀ p us F1 H1, H p = none → Stp F O H F1 ((p, .lst us) :: G (runS (genF pr f0 s1 s2) st0 xs).2) H1 → RA X.K F1 us ((runS (genF pr f0 s1 s2) st0 xs).1.map encR) → ZS X rest (σ.set i0 (some (.ref p))) H1 D) (hs : ∀ x, foldedSetIterable iter X.env x = pure x := by intro _; rfl) :
    ZS X (.Assign [.Name y py] (.ListComp elt [⟨tg, iter, [c], 0⟩] scope pos) spos :: rest) σ H D :=
  wSs_of (pss_cons (ps_setLc hc hN hy hyl hsw pi_w ok pg_u (fun s H C cl fp => pts_one (pt_u s H C cl fp)) pe_u hs) pss_w) (lcX_read (Q := fun v H' => ZS X rest (σ.set i0 (some v)) H' D) hi bd (body_t bd ht he) Gr.refl w fun p us F2 H2 hp s ra => kk p us F2 H2 hp s ra)
theorem zs_setLcXn (w : WOk F O H) {i0 : Nat} {rest : List Stmt} {D : Ends} {B : α → L2.St → Hp → Prop} {f0 : β → α → γ} {s2 : β → α → β} (hc : X.calm = true) (hN : X.N.Nodup) (hi : ZI X tg iter σ F O (xs.map enc) (G st0)) (bd : Bd X scope tg (own.map (·.2)) σ enc xs B)
    (he : ∀ s H0 C cl fp st a σ2 F', a ∈ xs → Gr F F' → B a σ2 F' → ZE (blkX X scope s H0 C cl fp) elt σ2 F' (G st) (encR (f0 st a)) (G (s2 st a)))
    (ok : BlkOk X.N X.env.scope scope own) (hy : X.N[i0]? = some y) (hyl : X.env.scope.names.lookup y = some .local)
    (hsw : swapsWith (.ListComp elt [⟨tg, iter, [], 0⟩] scope pos) (some (.Name y py)) spos.line X.env = pure true)
    (kk : ∀ p us F1 H1, H p = none → Stp F O H F1 ((p, .lst us) :: G (mapS (fun st a => (f0 st a, s2 st a)) st0 xs).2) H1 → RA X.K F1 us ((mapS (fun st a => (f0 st a, s2 st a)) st0 xs).1.map encR) → ZS X rest (σ.set i0 (some (.ref p))) H1 D) (hs : ∀ x, foldedSetIterable iter X.env x = pure x := by intro _; rfl) :
    ZS X (.Assign [.Name y py] (.ListComp elt [⟨tg, iter, [], 0⟩] scope pos) spos :: rest) σ H D :=
  wSs_of (pss_cons (ps_setLc hc hN hy hyl hsw pi_w ok pg_u (fun s H C cl fp => pts_nil) pe_u hs) pss_w) (lcX_read (Q := fun v H' => ZS X rest (σ.set i0 (some v)) H' D) hi bd (body_n he) Gr.refl w fun p us F2 H2 hp s ra => kk p us F2 H2 hp (by rw [runS_state (f0 := fun st a => (f0 st a, s2 st a))] at s; exact s) (by rw [runS_state (f0 := fun st a => (f0 st a, s2 st a))] at ra; exact ra))

theorem tYes_if {σ : L2.St} {H : Hp} {p q : Hp → Prop} (h : p H) : tYes σ H fun b H3 => if b = true then p H3 else q H3 := by
  show (if true = true then p H else q H)
  rw [if_pos rfl]; exact h
/-! ### two fors, without a state -/
/-- the reading: the first item's list, then the second's .. -/
theorem lc2_read {wi wi1 : TI} {g g1 : TG} {te : TE} {tt1 : TT} {vs : List Nat} {K : PySem.W.Frag} {xs : List α} {ys : α → List α1} {r : α → α1 → Option PyData} {B : α → L2.St → Hp → Prop}
    (hi : ∀ F1 H, Gr F F1 → WOk F1 O H → ∀ Q : It → Hp → Prop, (∀ J F2 H2, Stp F1 O H F2 O H2 → Walks K J F2 (xs.map enc) → Q J H2) → wi σ H Q)
    (hg : ∀ a x F' O' H' Q, a ∈ xs → WOk F' O' H' → R K F' x (enc a) → (∀ σ2, wipe σ2 vs = wipe σ vs → B a σ2 F' → Q σ2 H') → g x (wipe σ vs) H' Q)
    (hBm : ∀ a σ2 F' F'', B a σ2 F' → Gr F' F'' → B a σ2 F'')
    (hi1 : ∀ a σ2 F1 H, a ∈ xs → Gr F F1 → B a σ2 F1 → WOk F1 O H → ∀ Q : It → Hp → Prop, (∀ J F2 H2, Stp F1 O H F2 O H2 → Walks K J F2 ((ys a).map enc1) → Q J H2) → wi1 σ2 H Q)
    (hb : ∀ a b σ2 x F' H', a ∈ xs → b ∈ ys a → Gr F F' → WOk F' O H' → B a σ2 F' → R K F' x (enc1 b) → ∀ (Q1 : V → Hp → Prop) (Q0 : Hp → Prop), (∀ v F2 H2 y, r a b = some y → Stp F' O H' F2 O H2 → R K F2 v y → Q1 v H2) → (∀ F2 H2, r a b = none → Stp F' O H' F2 O H2 → Q0 H2) →
      g1 x (wipe σ2 vs1) H' fun σ3 H3 => wipe σ3 vs1 = wipe σ2 vs1 ∧ tt1 σ3 H3 fun b H4 => if b = true then te σ3 H4 Q1 else Q0 H4)
    (hz : (xs.flatMap fun a => (ys a).filterMap (r a)).length ≤ sizeLine)
    {F1 H : Hp} (gg1 : Gr F F1) (w : WOk F1 O H) {Q : VK} (q : ∀ p us F2 H2, H p = none → Stp F1 O H F2 ((p, .lst us) :: O) H2 → RA K F2 us (xs.flatMap fun a => (ys a).filterMap (r a)) → Q (.ref p) H2) : tLc2 wi g tYes wi1 g1 tt1 te vs vs1 σ H Q := by
  refine hi F1 H gg1 w _ fun J F2 H2 s1 wk => fun D hD => ?_
  have hD0 : H D = none := by
    cases z : H D with
    | none => rfl
    | some u => exact absurd hD (s1.dom D (by rw [z]; simp))
  have hsplit : ∀ i, i < xs.length → ∃ a, xs[i]? = some a ∧ ((xs.take (i + 1)).flatMap fun a => (ys a).filterMap (r a)) = ((xs.take i).flatMap fun a => (ys a).filterMap (r a)) ++ (ys a).filterMap (r a) := fun i h => by
    refine ⟨xs[i], List.getElem?_eq_getElem h, ?_⟩
    rw [List.take_add_one, List.getElem?_eq_getElem h, List.flatMap_append]
    simp
  have hle : ∀ i j a, xs[i]? = some a → (((xs.take i).flatMap fun a => (ys a).filterMap (r a)) ++ ((ys a).take j).filterMap (r a)).length ≤ sizeLine := fun i j a ha => by
    refine Nat.le_trans (List.Sublist.length_le ?_) hz
    obtain ⟨hi, e⟩ := List.getElem?_eq_some_iff.mp ha
    obtain ⟨a', ha', e2⟩ := hsplit i hi
    rw [ha] at ha'; cases ha'
    have h1 : (((xs.take i).flatMap fun a => (ys a).filterMap (r a)) ++ ((ys a).take j).filterMap (r a)).Sublist ((xs.take (i + 1)).flatMap fun a => (ys a).filterMap (r a)) := by
      rw [e2]
      exact List.Sublist.append (List.Sublist.refl _) ((List.take_sublist _ _).filterMap _)
    refine h1.trans ?_
    have e3 : xs = xs.take (i + 1) ++ xs.drop (i + 1) := (List.take_append_drop _ _).symm
    have e4 : (xs.flatMap fun a => (ys a).filterMap (r a)) = ((xs.take (i + 1)).flatMap fun a => (ys a).filterMap (r a)) ++ ((xs.drop (i + 1)).flatMap fun a => (ys a).filterMap (r a)) := by rw [← List.flatMap_append, List.take_append_drop]
    rw [e4]
    exact List.sublist_append_left _ _
  refine ⟨fun i m H' => m = xs.length - i ∧ i ≤ xs.length ∧ ∃ F' us, Gr F2 F' ∧ Stp F1 O H F' ((D, .lst us) :: O) H' ∧ RA K F' us ((xs.take i).flatMap fun a => (ys a).filterMap (r a)), ⟨xs.length, by simp, Nat.zero_le _, F2, [], Gr.refl, s1.trans (Stp.alloc s1.ok hD (Nat.zero_le _)), .nil⟩, ?_⟩
  rintro i m H' ⟨rfl, hle', F', us, g2, st, ra⟩
  by_cases hlt : i < xs.length
  · obtain ⟨a, ha, hsp⟩ := hsplit i hlt
    have ham := List.mem_of_getElem? ha
    refine .inr ⟨wk.go F' _ H' g2 st.ok i (by rw [List.length_map]; exact hlt), fun H3 => ∃ F3 us', Gr F2 F3 ∧ Stp F1 O H F3 ((D, .lst us') :: O) H3 ∧ RA K F3 us' ((xs.take (i + 1)).flatMap fun a => (ys a).filterMap (r a)), fun H3 ⟨F3, us', h2, h3, h4⟩ => ⟨xs.length - (i + 1), by omega, rfl, hlt, F3, us', h2, h3, h4⟩, fun x H3 y => ?_⟩
    obtain ⟨F3, s2, rx⟩ := wk.yld F' _ H' g2 st.ok i x H3 (enc a) (by rw [List.getElem?_map, ha]; rfl) y
    refine hg a x F3 _ H3 _ ham s2.ok rx fun σ2 hw b2 => ⟨hw, ?_⟩
    refine tYes_if ?_
    have g3 : Gr F F3 := gg1.trans (s1.gr.trans (g2.trans s2.gr))
    refine hi1 a σ2 F3 H3 ham g3 b2 s2.ok.tail _ fun J1 F4 H4 s3 wk1 => ?_
    have st4 := st.trans (s2.trans (Stp.cons s2.ok s3))
    refine ⟨fun j m H' => m = (ys a).length - j ∧ j ≤ (ys a).length ∧ ∃ F' us, Gr F4 F' ∧ Stp F1 O H F' ((D, .lst us) :: O) H' ∧ RA K F' us (((xs.take i).flatMap fun a => (ys a).filterMap (r a)) ++ ((ys a).take j).filterMap (r a)), ⟨(ys a).length, by simp, Nat.zero_le _, F4, us, Gr.refl, st4, by
      rw [List.take_zero, List.filterMap_nil, List.append_nil]
      exact ra.mono (s2.gr.trans s3.gr)⟩, ?_⟩
    rintro j m H5 ⟨rfl, hjl, F5, us5, g5, st5, ra5⟩
    by_cases hjt : j < (ys a).length
    · have hbj : (ys a)[j]? = some (ys a)[j] := List.getElem?_eq_getElem hjt
      have htk : ((ys a).take (j + 1)).filterMap (r a) = ((ys a).take j).filterMap (r a) ++ (match r a (ys a)[j] with | some y => [y] | none => []) := by
        rw [List.take_add_one, hbj, List.filterMap_append]
        congr 1
        show [(ys a)[j]].filterMap (r a) = _
        rw [List.filterMap_cons]
        cases r a (ys a)[j] <;> rfl
      refine .inr ⟨wk1.go F5 _ H5 g5 st5.ok j (by rw [List.length_map]; exact hjt), fun H6 => ∃ F6 us', Gr F4 F6 ∧ Stp F1 O H F6 ((D, .lst us') :: O) H6 ∧ RA K F6 us' (((xs.take i).flatMap fun a => (ys a).filterMap (r a)) ++ ((ys a).take (j + 1)).filterMap (r a)), fun H6 ⟨F6, us', h2, h3, h4⟩ => ⟨(ys a).length - (j + 1), by omega, rfl, hjt, F6, us', h2, h3, h4⟩, fun x5 H6 y5 => ?_⟩
      obtain ⟨F6, s6, rx5⟩ := wk1.yld F5 _ H5 g5 st5.ok j x5 H6 (enc1 (ys a)[j]) (by rw [List.getElem?_map, hbj]; rfl) y5
      have g34 : Gr F3 F6 := s3.gr.trans (g5.trans s6.gr)
      refine hb a (ys a)[j] σ2 x5 F6 H6 ham (List.getElem_mem hjt) (g3.trans g34) s6.ok.tail (hBm a σ2 F3 F6 b2 g34) rx5 _ _ (fun v F7 H7 y hy s7 r7 => ?_) fun F7 H7 hy s7 => ?_
      · have st7 := st5.trans (s6.trans (Stp.cons s6.ok s7))
        have hl7 : us5.length < sizeLine := by
          have h1 := hle i (j + 1) a ha
          rw [htk, hy, ← List.append_assoc, List.length_append] at h1
          have h2 := ra5.len
          have h1 : _ + 1 ≤ sizeLine := h1
          rw [← h2] at h1
          exact h1
        have s8 := Stp.write (o' := .lst (us5 ++ [v])) st7.ok (k := 0) rfl (by show (us5 ++ [v]).length ≤ _; rw [List.length_append]; exact hl7)
        refine ⟨us5, (st7.ok.own (D, .lst us5) List.mem_cons_self).1, hl7, F7, us5 ++ [v], g5.trans (s6.gr.trans s7.gr), st7.trans s8, ?_⟩
        rw [htk, hy, ← List.append_assoc]
        exact (ra5.mono (s6.gr.trans s7.gr)).snoc r7
      · refine ⟨F7, us5, g5.trans (s6.gr.trans s7.gr), st5.trans (s6.trans (Stp.cons s6.ok s7)), ?_⟩
        rw [htk, hy]
        show RA K F7 us5 (_ ++ (_ ++ []))
        rw [List.append_nil]
        exact ra5.mono (s6.gr.trans s7.gr)
    · have ej : j = (ys a).length := by omega
      subst ej
      refine .inl ⟨wk1.stop F5 _ H5 g5 st5.ok _ (by rw [List.length_map]; exact Nat.le_refl _), F5, us5, ?_, st5, ?_⟩
      · exact g2.trans (s2.gr.trans (s3.gr.trans g5))
      · rw [hsp]
        rw [List.take_length] at ra5
        exact ra5
  · have ei : i = xs.length := by omega
    subst ei
    rw [List.take_length] at ra
    exact .inl ⟨wk.stop F' _ H' g2 st.ok _ (by rw [List.length_map]; exact Nat.le_refl _), q D us F' H' hD0 st ra⟩
/-- how the second target is bound -/
structure Bd1 (X : Cx) (scope : Scope) (tg1 : Expr) (vs1 : List Nat) (enc1 : α1 → PyData) (xs : List α) (ys : α → List α1) (B : α → L2.St → Hp → Prop) (B1 : α → α1 → L2.St → Hp → Prop) : Prop where
  mono : ∀ a b σ2 F' F'', B1 a b σ2 F' → Gr F' F'' → B1 a b σ2 F''
  tgt : ∀ s H0 C cl fp a b v σ2 F' O' H' Q, a ∈ xs → b ∈ ys a → B a σ2 F' → WOk F' O' H' → R X.K F' v (enc1 b) → (∀ σ3, wipe σ3 vs1 = wipe σ2 vs1 → B1 a b σ3 F' → Q σ3 H') → wG (blkX X scope s H0 C cl fp) tg1 v (wipe σ2 vs1) H' Q
theorem flat_map {α α1 γ : Type} {encR : γ → PyData} {xs : List α} {ys : α → List α1} {f0 : α → α1 → γ} : (xs.flatMap fun a => (ys a).filterMap fun b => some (encR (f0 a b))) = (xs.flatMap fun a => (ys a).map (f0 a)).map encR := by
  rw [List.map_flatMap]
  congr 1; funext a
  rw [List.map_map, ← List.filterMap_eq_map]; rfl
theorem flat_filter {α α1 γ : Type} {encR : γ → PyData} {xs : List α} {ys : α → List α1} {f0 : α → α1 → γ} {pr : α → α1 → Bool} : (xs.flatMap fun a => (ys a).filterMap fun b => if pr a b then some (encR (f0 a b)) else none) = (xs.flatMap fun a => ((ys a).filter (pr a)).map (f0 a)).map encR := by
  rw [List.map_flatMap]
  congr 1; funext a
  rw [List.map_map]
  induction ys a with
  | nil => rfl
  | cons b bs ih =>
    rw [List.filterMap_cons, List.filter_cons]
    cases h : pr a b with
    | true => rw [if_pos rfl, if_pos rfl, List.map_cons, ← ih]; rfl
    | false => rw [if_neg (by decide), if_neg (by decide), ← ih]
theorem lc2n_read {B : α → L2.St → Hp → Prop} {B1 : α → α1 → L2.St → Hp → Prop} {ys : α → List α1} {f0 : α → α1 → γ} (hi : ZI X tg iter σ F O (xs.map enc) O) (bd : Bd X scope tg (own.map (·.2)) σ enc xs B)
    (hi1 : ∀ s H0 C cl fp a σ2 F', a ∈ xs → Gr F F' → B a σ2 F' → ZI (blkX X scope s H0 C cl fp) tg1 iter1 σ2 F' O ((ys a).map enc1) O) (bd1 : Bd1 X scope tg1 vs1 enc1 xs ys B B1)
    (he : ∀ s H0 C cl fp a b σ3 F', a ∈ xs → b ∈ ys a → Gr F F' → B1 a b σ3 F' → ZE (blkX X scope s H0 C cl fp) elt σ3 F' O (encR (f0 a b)) O) (hz : (xs.flatMap fun a => (ys a).map (f0 a)).length ≤ sizeLine)
    {F1 H : Hp} (g1 : Gr F F1) (w : WOk F1 O H) {Q : VK} (q : ∀ p us F2 H2, H p = none → Stp F1 O H F2 ((p, .lst us) :: O) H2 → RA X.K F2 us ((xs.flatMap fun a => (ys a).map (f0 a)).map encR) → Q (.ref p) H2) :
    tLc2 (wI X tg iter) (uG X scope tg) tYes (uI X scope tg1 iter1) (uG X scope tg1) tYes (uE X scope elt) (own.map (·.2)) vs1 σ H Q :=
  lc2_read (ys := ys) (r := fun a b => some (encR (f0 a b))) (B := B) (enc1 := enc1) (fun F1 H g1 w Q q => hi F1 H g1 w Q q) (fun a x F' O' H' Q ha w r k s H0 C cl fp => bd.tgt s H0 C cl fp a x F' O' H' Q ha w r fun σ2 b2 => k σ2 (bd.wp _ _ _ b2) b2) bd.mono
    (fun a σ2 F1 H ha g b2 w Q q s H0 C cl fp => hi1 s H0 C cl fp a σ2 F1 ha g b2 F1 H Gr.refl w Q q)
    (fun a b σ2 x F' H' ha hb g w b2 r Q1 Q0 h1 h0 s H0 C cl fp => bd1.tgt s H0 C cl fp a b x σ2 F' O H' _ ha hb b2 w r fun σ3 hw b3 => ⟨hw, tYes_if fun s H0 C cl fp => he s H0 C cl fp a b σ3 F' ha hb g b3 F' H' Gr.refl w _ fun u F2 H2 s2 r2 => h1 u F2 H2 _ rfl s2 r2⟩)
    (by rw [flat_map, List.length_map]; exact hz) g1 w fun p us F2 H2 hp s r => q p us F2 H2 hp s (by rw [flat_map] at r; exact r)
theorem lc2t_read {B : α → L2.St → Hp → Prop} {B1 : α → α1 → L2.St → Hp → Prop} {ys : α → List α1} {f0 : α → α1 → γ} {pr : α → α1 → Bool} {c : Expr} (hi : ZI X tg iter σ F O (xs.map enc) O) (bd : Bd X scope tg (own.map (·.2)) σ enc xs B)
    (hi1 : ∀ s H0 C cl fp a σ2 F', a ∈ xs → Gr F F' → B a σ2 F' → ZI (blkX X scope s H0 C cl fp) tg1 iter1 σ2 F' O ((ys a).map enc1) O) (bd1 : Bd1 X scope tg1 vs1 enc1 xs ys B B1)
    (ht : ∀ s H0 C cl fp a b σ3 F', a ∈ xs → b ∈ ys a → Gr F F' → B1 a b σ3 F' → ZT (blkX X scope s H0 C cl fp) c σ3 F' O (pr a b) O)
    (he : ∀ s H0 C cl fp a b σ3 F', a ∈ xs → b ∈ ys a → pr a b = true → Gr F F' → B1 a b σ3 F' → ZE (blkX X scope s H0 C cl fp) elt σ3 F' O (encR (f0 a b)) O) (hz : (xs.flatMap fun a => ((ys a).filter (pr a)).map (f0 a)).length ≤ sizeLine)
    {F1 H : Hp} (g1 : Gr F F1) (w : WOk F1 O H) {Q : VK} (q : ∀ p us F2 H2, H p = none → Stp F1 O H F2 ((p, .lst us) :: O) H2 → RA X.K F2 us ((xs.flatMap fun a => ((ys a).filter (pr a)).map (f0 a)).map encR) → Q (.ref p) H2) :
    tLc2 (wI X tg iter) (uG X scope tg) tYes (uI X scope tg1 iter1) (uG X scope tg1) (uT X scope c) (uE X scope elt) (own.map (·.2)) vs1 σ H Q :=
  lc2_read (ys := ys) (r := fun a b => if pr a b then some (encR (f0 a b)) else none) (B := B) (enc1 := enc1) (fun F1 H g1 w Q q => hi F1 H g1 w Q q) (fun a x F' O' H' Q ha w r k s H0 C cl fp => bd.tgt s H0 C cl fp a x F' O' H' Q ha w r fun σ2 b2 => k σ2 (bd.wp _ _ _ b2) b2) bd.mono
    (fun a σ2 F1 H ha g b2 w Q q s H0 C cl fp => hi1 s H0 C cl fp a σ2 F1 ha g b2 F1 H Gr.refl w Q q)
    (fun a b σ2 x F' H' ha hb g w b2 r Q1 Q0 h1 h0 s H0 C cl fp => bd1.tgt s H0 C cl fp a b x σ2 F' O H' _ ha hb b2 w r fun σ3 hw b3 => ⟨hw, fun s H0 C cl fp => ht s H0 C cl fp a b σ3 F' ha hb g b3 F' H' Gr.refl w _ fun F2 H2 s2 => by
      cases hp : pr a b with
      | true =>
        rw [if_pos rfl]
        intro s H0 C cl fp
        exact he s H0 C cl fp a b σ3 F2 ha hb hp (g.trans s2.gr) (bd1.mono _ _ _ _ _ b3 s2.gr) F2 H2 Gr.refl s2.ok _ fun u F3 H3 s3 r3 => h1 u F3 H3 _ (by rw [hp]; rfl) (s2.trans s3) r3
      | false =>
        rw [if_neg (by decide)]
        exact h0 F2 H2 (by rw [hp]; rfl) s2⟩)
    (by rw [flat_filter, List.length_map]; exact hz) g1 w fun p us F2 H2 hp s r => q p us F2 H2 hp s (by rw [flat_filter] at r; exact r)
theorem zn_lc2n {B : α → L2.St → Hp → Prop} {B1 : α → α1 → L2.St → Hp → Prop} {ys : α → List α1} {f0 : α → α1 → γ} (hc : X.calm = true) (hN : X.N.Nodup) (hi : ZI X tg iter σ F O (xs.map enc) O) (bd : Bd X scope tg (own.map (·.2)) σ enc xs B)
    (hi1 : ∀ s H0 C cl fp a σ2 F', a ∈ xs → Gr F F' → B a σ2 F' → ZI (blkX X scope s H0 C cl fp) tg1 iter1 σ2 F' O ((ys a).map enc1) O) (bd1 : Bd1 X scope tg1 vs1 enc1 xs ys B B1)
    (he : ∀ s H0 C cl fp a b σ3 F', a ∈ xs → b ∈ ys a → Gr F F' → B1 a b σ3 F' → ZE (blkX X scope s H0 C cl fp) elt σ3 F' O (encR (f0 a b)) O) (hz : (xs.flatMap fun a => (ys a).map (f0 a)).length ≤ sizeLine)
    (ok : BlkOk X.N X.env.scope scope own) (hv : ∀ i ∈ vs1, i ∈ own.map (·.2)) (hs : ∀ x, foldedSetIterable iter X.env x = pure x := by intro _; rfl) (hs1 : ∀ env x, foldedSetIterable iter1 env x = pure x := by intro _ _; rfl) :
    ZN X (.ListComp elt [⟨tg, iter, [], 0⟩, ⟨tg1, iter1, [], 0⟩] scope pos) σ F O ((xs.flatMap fun a => (ys a).map (f0 a)).map encR) O := fun F1 H g1 w Q q =>
  wE_of (pe_lc2 hc hN pi_w ok hv pg_u (fun s H C cl fp => pts_nil) pi_u pg_u (fun s H C cl fp => pts_nil) pe_u hs hs1) (lc2n_read hi bd hi1 bd1 he hz g1 w q)
theorem zn_lc2t {B : α → L2.St → Hp → Prop} {B1 : α → α1 → L2.St → Hp → Prop} {ys : α → List α1} {f0 : α → α1 → γ} {pr : α → α1 → Bool} {c : Expr} (hc : X.calm = true) (hN : X.N.Nodup) (hi : ZI X tg iter σ F O (xs.map enc) O) (bd : Bd X scope tg (own.map (·.2)) σ enc xs B)
    (hi1 : ∀ s H0 C cl fp a σ2 F', a ∈ xs → Gr F F' → B a σ2 F' → ZI (blkX X scope s H0 C cl fp) tg1 iter1 σ2 F' O ((ys a).map enc1) O) (bd1 : Bd1 X scope tg1 vs1 enc1 xs ys B B1)
    (ht : ∀ s H0 C cl fp a b σ3 F', a ∈ xs → b ∈ ys a → Gr F F' → B1 a b σ3 F' → ZT (blkX X scope s H0 C cl fp) c σ3 F' O (pr a b) O)
    (he : ∀ s H0 C cl fp a b σ3 F', a ∈ xs → b ∈ ys a → pr a b = true → Gr F F' → B1 a b σ3 F' → ZE (blkX X scope s H0 C cl fp) elt σ3 F' O (encR (f0 a b)) O) (hz : (xs.flatMap fun a => ((ys a).filter (pr a)).map (f0 a)).length ≤ sizeLine)
    (ok : BlkOk X.N X.env.scope scope own) (hv : ∀ i ∈ vs1, i ∈ own.map (·.2)) (hs : ∀ x, foldedSetIterable iter X.env x = pure x := by intro _; rfl) (hs1 : ∀ env x, foldedSetIterable iter1 env x = pure x := by intro _ _; rfl) :
    ZN X (.ListComp elt [⟨tg, iter, [], 0⟩, ⟨tg1, iter1, [c], 0⟩] scope pos) σ F O ((xs.flatMap fun a => ((ys a).filter (pr a)).map (f0 a)).map encR) O := fun F1 H g1 w Q q =>
  wE_of (pe_lc2 hc hN pi_w ok hv pg_u (fun s H C cl fp => pts_nil) pi_u pg_u (fun s H C cl fp => pts_one (pt_u s H C cl fp)) pe_u hs hs1) (lc2t_read hi bd hi1 bd1 ht he hz g1 w q)
theorem zs_setLc2n (w : WOk F O H) {i0 : Nat} {rest : List Stmt} {D : Ends} {B : α → L2.St → Hp → Prop} {B1 : α → α1 → L2.St → Hp → Prop} {ys : α → List α1} {f0 : α → α1 → γ} (hc : X.calm = true) (hN : X.N.Nodup) (hi : ZI X tg iter σ F O (xs.map enc) O) (bd : Bd X scope tg (own.map (·.2)) σ enc xs B)
    (hi1 : ∀ s H0 C cl fp a σ2 F', a ∈ xs → Gr F F' → B a σ2 F' → ZI (blkX X scope s H0 C cl fp) tg1 iter1 σ2 F' O ((ys a).map enc1) O) (bd1 : Bd1 X scope tg1 vs1 enc1 xs ys B B1)
    (he : ∀ s H0 C cl fp a b σ3 F', a ∈ xs → b ∈ ys a → Gr F F' → B1 a b σ3 F' → ZE (blkX X scope s H0 C cl fp) elt σ3 F' O (encR (f0 a b)) O) (hz : (xs.flatMap fun a => (ys a).map (f0 a)).length ≤ sizeLine)
    (ok : BlkOk X.N X.env.scope scope own) (hv : ∀ i ∈ vs1, i ∈ own.map (·.2)) (hy : X.N[i0]? = some y) (hyl : X.env.scope.names.lookup y = some .local)
    (hsw : swapsWith (.ListComp elt [⟨tg, iter, [], 0⟩, ⟨tg1, iter1, [], 0⟩] scope pos) (some (.Name y py)) spos.line X.env = pure true)
    (kk : ∀ p us F1 H1, H p = none → Stp F O H F1 ((p, .lst us) :: O) H1 → RA X.K F1 us ((xs.flatMap fun a => (ys a).map (f0 a)).map encR) → ZS X rest (σ.set i0 (some (.ref p))) H1 D) (hs : ∀ x, foldedSetIterable iter X.env x = pure x := by intro _; rfl) (hs1 : ∀ env x, foldedSetIterable iter1 env x = pure x := by intro _ _; rfl) :
    ZS X (.Assign [.Name y py] (.ListComp elt [⟨tg, iter, [], 0⟩, ⟨tg1, iter1, [], 0⟩] scope pos) spos :: rest) σ H D :=
  wSs_of (pss_cons (ps_setLc2 hc hN hy hyl hsw pi_w ok hv pg_u (fun s H C cl fp => pts_nil) pi_u pg_u (fun s H C cl fp => pts_nil) pe_u hs hs1) pss_w) (lc2n_read (Q := fun v H' => ZS X rest (σ.set i0 (some v)) H' D) hi bd hi1 bd1 he hz Gr.refl w fun p us F2 H2 hp s ra => kk p us F2 H2 hp s ra)
theorem zs_setLc2t (w : WOk F O H) {i0 : Nat} {rest : List Stmt} {D : Ends} {B : α → L2.St → Hp → Prop} {B1 : α → α1 → L2.St → Hp → Prop} {ys : α → List α1} {f0 : α → α1 → γ} {pr : α → α1 → Bool} {c : Expr} (hc : X.calm = true) (hN : X.N.Nodup) (hi : ZI X tg iter σ F O (xs.map enc) O) (bd : Bd X scope tg (own.map (·.2)) σ enc xs B)
    (hi1 : ∀ s H0 C cl fp a σ2 F', a ∈ xs → Gr F F' → B a σ2 F' → ZI (blkX X scope s H0 C cl fp) tg1 iter1 σ2 F' O ((ys a).map enc1) O) (bd1 : Bd1 X scope tg1 vs1 enc1 xs ys B B1)
    (ht : ∀ s H0 C cl fp a b σ3 F', a ∈ xs → b ∈ ys a → Gr F F' → B1 a b σ3 F' → ZT (blkX X scope s H0 C cl fp) c σ3 F' O (pr a b) O)
    (he : ∀ s H0 C cl fp a b σ3 F', a ∈ xs → b ∈ ys a → pr a b = true → Gr F F' → B1 a b σ3 F' → ZE (blkX X scope s H0 C cl fp) elt σ3 F' O (encR (f0 a b)) O) (hz : (xs.flatMap fun a => ((ys a).filter (pr a)).map (f0 a)).length ≤ sizeLine)
    (ok : BlkOk X.N X.env.scope scope own) (hv : ∀ i ∈ vs1, i ∈ own.map (·.2)) (hy : X.N[i0]? = some y) (hyl : X.env.scope.names.lookup y = some .local)
    (hsw : swapsWith (.ListComp elt [⟨tg, iter, [], 0⟩, ⟨tg1, iter1, [c], 0⟩] scope pos) (some (.Name y py)) spos.line X.env = pure true)
    (kk : ∀ p us F1 H1, H p = none → Stp F O H F1 ((p, .lst us) :: O) H1 → RA X.K F1 us ((xs.flatMap fun a => ((ys a).filter (pr a)).map (f0 a)).map encR) → ZS X rest (σ.set i0 (some (.ref p))) H1 D) (hs : ∀ x, foldedSetIterable iter X.env x = pure x := by intro _; rfl) (hs1 : ∀ env x, foldedSetIterable iter1 env x = pure x := by intro _ _; rfl) :
    ZS X (.Assign [.Name y py] (.ListComp elt [⟨tg, iter, [], 0⟩, ⟨tg1, iter1, [c], 0⟩] scope pos) spos :: rest) σ H D :=
  wSs_of (pss_cons (ps_setLc2 hc hN hy hyl hsw pi_w ok hv pg_u (fun s H C cl fp => pts_nil) pi_u pg_u (fun s H C cl fp => pts_one (pt_u s H C cl fp)) pe_u hs hs1) pss_w) (lc2t_read (Q := fun v H' => ZS X rest (σ.set i0 (some v)) H' D) hi bd hi1 bd1 ht he hz Gr.refl w fun p us F2 H2 hp s ra => kk p us F2 H2 hp s ra)
end
end Z

end
section
namespace Z
open PySem PySem.Spec PyProof.Rows L2
/-! ### sorted, pairs of ints -/
def leP (a b : Int × Int) : Bool := !SrtO.lexB b a
def sortP (xs : List (Int × Int)) : List (Int × Int) := xs.mergeSort leP
theorem leP_iff {a b : Int × Int} : leP a b = true ↔ a.1 < b.1 ∨ (a.1 = b.1 ∧ a.2 ≤ b.2) := by
  unfold leP
  rw [Bool.not_eq_true', SrtO.lexB_no]
  omega
theorem sortP_perm (xs : List (Int × Int)) : (sortP xs).Perm xs := List.mergeSort_perm _ _
theorem sortP_sorted (xs : List (Int × Int)) : (sortP xs).Pairwise (fun a b => leP a b = true) :=
  List.pairwise_mergeSort (le := leP) (fun a b c h1 h2 => leP_iff.mpr (by have := leP_iff.mp h1; have := leP_iff.mp h2; omega)) (fun a b => by
    cases h : leP a b with
    | true => rfl
    | false =>
      have h2 : ¬ (a.1 < b.1 ∨ (a.1 = b.1 ∧ a.2 ≤ b.2)) := fun z => by rw [leP_iff.mpr z] at h; cases h
      show (false || leP b a) = true
      rw [Bool.false_or]
      exact leP_iff.mpr (by omega)) xs
theorem sortedP_unique {xs ys : List (Int × Int)} (h : xs.Perm ys) (hx : xs.Pairwise (fun a b => leP a b = true)) (hy : ys.Pairwise (fun a b => leP a b = true)) : xs = ys :=
  List.Perm.eq_of_pairwise (fun a b _ _ h1 h2 => by
    have := leP_iff.mp h1; have := leP_iff.mp h2
    exact Prod.ext (by omega) (by omega)) hx hy h
theorem sortP_of {xs : List (Int × Int)} (h : xs.Pairwise (fun a b => leP a b = true)) : sortP xs = xs := sortedP_unique (sortP_perm xs) (sortP_sorted xs) h
theorem sortI_of {xs : List Int} (h : xs.Pairwise (· ≤ ·)) : sortI xs = xs := sorted_unique (sortI_perm xs) (sortI_sorted xs) h
def keyP (F : Hp) (v : V) : Int × Int := match v with
  | .ref t => (match F t with | some (.tup [.int i, .int j]) => (i, j) | _ => (0, 0))
  | _ => (0, 0)
theorem R.pair {K : PySem.W.Frag} {F : Hp} {v : V} {p : Int × Int} (h : R K F v (eT2 eI eI p)) : ∃ t, v = .ref t ∧ F t = some (.tup [.int p.1, .int p.2]) ∧ keyP F v = p := by
  obtain ⟨t, vs, rfl, e, r⟩ := h.tupH_inv
  obtain ⟨u, w, rfl, r1, r2⟩ := r.two
  rw [r1.int_inv, r2.int_inv] at e
  exact ⟨t, rfl, e, by show (match F t with | some (.tup [.int i, .int j]) => (i, j) | _ => (0, 0)) = p; rw [e]⟩
theorem RA.pairs {K : PySem.W.Frag} {F : Hp} : ∀ {vs : List V} {ps : List (Int × Int)}, RA K F vs (ps.map (eT2 eI eI)) → vs.map (keyP F) = ps ∧ ∀ v ∈ vs, ∃ t, v = .ref t ∧ F t = some (.tup [.int (keyP F v).1, .int (keyP F v).2]) ∧ R K F v (eT2 eI eI (keyP F v))
  | vs, [], h => by
    have := h.nil_inv
    subst this
    exact ⟨rfl, fun _ z => nomatch z⟩
  | vs, p :: ps, h => by
    obtain ⟨v, ws, rfl, r, t⟩ := RA.cons_inv (show RA K F vs (eT2 eI eI p :: ps.map (eT2 eI eI)) from h)
    obtain ⟨e, g⟩ := RA.pairs t
    obtain ⟨a, rfl, ea, k⟩ := r.pair
    refine ⟨by rw [List.map_cons, e, k], fun u hu => ?_⟩
    rcases List.mem_cons.mp hu with rfl | hu
    · exact ⟨a, rfl, by rw [k]; exact ea, by rw [k]; exact r⟩
    · exact g u hu
theorem RA.of_all {K : PySem.W.Frag} {F : Hp} {f : V → PyData} : ∀ {vs : List V}, (∀ v ∈ vs, R K F v (f v)) → RA K F vs (vs.map f)
  | [], _ => .nil
  | v :: vs, h => .cons (h v List.mem_cons_self) (RA.of_all fun u hu => h u (List.mem_cons_of_mem _ hu))
section
variable {X : Cx} {e a b c tg iter elt : Expr} {es : List Expr} {σ : L2.St} {F H : Hp} {O O1 O2 O3 : Own} {d da db : PyData} {ds rs : List PyData} {pos p p2 apos cpos : Pos} {i j : Int} {k k1 k2 : Bool} {x y : Str} {n m : Nat}
theorem zn_sortP {ps : List (Int × Int)} (hm : X.mg "sorted" = none) (ha : ZE X e σ F O (eL (eT2 eI eI) ps) O1) (hg : Gl X "sorted" := by rfl) (he : starEach [e] X.env = (false, eval e X.env) :: starEach [] X.env := by rfl) (hpl : (backTo pos (starEach [] X.env)).any (·.1) = false := by rfl) : ZN X (.Call (.Name "sorted" p) [e] [] pos) σ F O ((sortP ps).map (eT2 eI eI)) O1 :=
  zn_callB cr_sortedPO hm (by decide +kernel) (za_cons ha za_nil he) (fun F1 H1 vs _ w r Q q => by
    obtain ⟨v, rfl, r1⟩ := r.one
    obtain ⟨l, xs, rfl, e1, a1⟩ := r1.lst_inv
    obtain ⟨hk, hx⟩ := a1.pairs
    refine ⟨l, xs, keyP F1, rfl, .inl (.inl (w.sub _ _ e1)), fun x hxm => ?_, fun ys p hs hb hn => ?_⟩
    · obtain ⟨t, e2, e3, _⟩ := hx x hxm
      exact ⟨t, e2, w.sub _ _ e3⟩
    · have ee : ys.map (keyP F1) = sortP ps := by
        refine sortedP_unique (((hb.perm.map (keyP F1)).trans (by rw [hk])).trans (sortP_perm ps).symm) ?_ (sortP_sorted ps)
        rw [List.pairwise_map]
        exact hs.imp fun {a b} h => by
          show leP (keyP F1 a) (keyP F1 b) = true
          unfold leP
          rw [show SrtO.lexB (keyP F1 b) (keyP F1 a) = false from h]; rfl
      have hz := w.sz _ _ e1
      have ra : RA X.K F1 ys ((sortP ps).map (eT2 eI eI)) := by
        rw [← ee, List.map_map]
        exact RA.of_all fun v hv => (hx v (hb.perm.mem_iff.mp hv)).elim fun t ht => ht.2.2
      exact q p _ _ _ hn (Stp.alloc w hn (by show ys.length ≤ _; rw [hb.perm.length_eq]; exact hz)) ra) hg (by decide) (by decide) he hpl

/-! ### list(range(..)) -/
theorem zn_lr1 {px : Pos} (hc : X.calm = true) (hl : X.mg "list" = none) (hm : X.mg "range" = none) (ha : ZE X a σ F O (.int j) O1) (hj : -16777216 ≤ j ∧ j ≤ 16777216) (hgl : Gl X "list" := by rfl) (hg : Gl X "range" := by rfl) (na : starEach [a] X.env = (false, eval a X.env) :: starEach [] X.env := by rfl)
    (nb : starEach [.Call (.Name "range" p2) [a] [] px] X.env = (false, eval (.Call (.Name "range" p2) [a] [] px) X.env) :: starEach [] X.env := by rfl) : ZN X (.Call (.Name "list" p) [.Call (.Name "range" p2) [a] [] px] [] pos) σ F O ((rangeI 0 j).map eI) O1 := fun F1 H g w Q q =>
  wE_of (pe_listRg hc hgl hl (prg_1 hg hm pe_w na) nb) (ha F1 H g w _ fun v F2 H2 s1 r1 => ⟨j, r1.int_inv, ⟨by omega, by omega, by omega, by omega, by omega⟩, fun l hl => by
    have hz : (rgV 0 j).length ≤ sizeLine := by rw [rgV_length, ← szL]; omega
    refine q l (rgV 0 j) _ _ ?_ (s1.trans (Stp.alloc s1.ok hl hz)) ?_
    · cases z : H l with
      | none => rfl
      | some u => exact absurd hl (s1.dom l (by rw [z]; simp))
    · have e : rgV 0 j = (rangeI 0 j).map V.int := by unfold rgV rangeI; rw [List.map_map]; rfl
      rw [e]; exact ra_ints _⟩)
theorem zn_lr2 {px : Pos} (hc : X.calm = true) (hl : X.mg "list" = none) (hm : X.mg "range" = none) (ha : ZE X a σ F O (.int i) O1) (hb : ZE X b σ F O1 (.int j) O2) (hj : -16777216 ≤ i ∧ i ≤ 16777216 ∧ -16777216 ≤ j ∧ j ≤ 16777216 ∧ j - i ≤ 16777216) (hgl : Gl X "list" := by rfl) (hg : Gl X "range" := by rfl) (na : starEach [a, b] X.env = (false, eval a X.env) :: starEach [b] X.env := by rfl)
    (nb : starEach [b] X.env = (false, eval b X.env) :: starEach [] X.env := by rfl) (hp : (backTo px (starEach [b] X.env)).any (·.1) = false := by rfl)
    (nc : starEach [.Call (.Name "range" p2) [a, b] [] px] X.env = (false, eval (.Call (.Name "range" p2) [a, b] [] px) X.env) :: starEach [] X.env := by rfl) : ZN X (.Call (.Name "list" p) [.Call (.Name "range" p2) [a, b] [] px] [] pos) σ F O ((rangeI i j).map eI) O2 := fun F1 H g w Q q =>
  wE_of (pe_listRg hc hgl hl (prg_2 hg hm pe_w pe_w na nb hp) nc) (ha F1 H g w _ fun v F2 H2 s1 r1 => hb F2 H2 (g.trans s1.gr) s1.ok _ fun u F3 H3 s2 r2 => ⟨i, j, r1.int_inv, r2.int_inv, ⟨by omega, by omega, by omega, by omega, by omega⟩, fun l hl => by
    have s3 := s1.trans s2
    have hz : (rgV i j).length ≤ sizeLine := by rw [rgV_length, ← szL]; omega
    refine q l (rgV i j) _ _ ?_ (s3.trans (Stp.alloc s3.ok hl hz)) ?_
    · cases z : H l with
      | none => rfl
      | some u => exact absurd hl (s3.dom l (by rw [z]; simp))
    · have e : rgV i j = (rangeI i j).map V.int := by unfold rgV rangeI; rw [List.map_map]; rfl
      rw [e]; exact ra_ints _⟩)
/-! ### max, min of two -/
theorem ze_max2 (hc : X.calm = true) (hm : X.mg "max" = none) (ha : ZE X a σ F O (.int i) O1) (hb : ZE X b σ F O1 (.int j) O2) (hg : Gl X "max" := by rfl) (na : starEach [a, b] X.env = (false, eval a X.env) :: starEach [b] X.env := by rfl)
    (nb : starEach [b] X.env = (false, eval b X.env) :: starEach [] X.env := by rfl) (hp : (backTo pos (starEach [b] X.env)).any (·.1) = false := by rfl) : ZE X (.Call (.Name "max" p) [a, b] [] pos) σ F O (eI (if j > i then j else i)) O2 :=
  ze_callB (call_max2 hc) hm (by decide +kernel) (za_cons ha (za_cons hb za_nil nb) na) (fun F1 H1 vs _ w r Q q => by
    obtain ⟨v, u, rfl, r1, r2⟩ := r.two
    exact ⟨i, j, by rw [r1.int_inv, r2.int_inv], q _ _ _ (Stp.refl w) (.int _)⟩) hg (by decide) (by decide) na hp
theorem ze_min2 (hc : X.calm = true) (hm : X.mg "min" = none) (ha : ZE X a σ F O (.int i) O1) (hb : ZE X b σ F O1 (.int j) O2) (hg : Gl X "min" := by rfl) (na : starEach [a, b] X.env = (false, eval a X.env) :: starEach [b] X.env := by rfl)
    (nb : starEach [b] X.env = (false, eval b X.env) :: starEach [] X.env := by rfl) (hp : (backTo pos (starEach [b] X.env)).any (·.1) = false := by rfl) : ZE X (.Call (.Name "min" p) [a, b] [] pos) σ F O (eI (if j < i then j else i)) O2 :=
  ze_callB (call_min2 hc) hm (by decide +kernel) (za_cons ha (za_cons hb za_nil nb) na) (fun F1 H1 vs _ w r Q q => by
    obtain ⟨v, u, rfl, r1, r2⟩ := r.two
    exact ⟨i, j, by rw [r1.int_inv, r2.int_inv], q _ _ _ (Stp.refl w) (.int _)⟩) hg (by decide) (by decide) na hp
/-! ### xs.remove(k) of ints, a list that is mine -/
theorem zs_removeI (w : WOk F O H) (n m : Nat) {rest : List Stmt} {D : Ends} {q : Addr} {vs : List V} {ns : List Int} {px : Pos} (hσ : σ[n]? = some (some (.ref q))) (he : ZE X e σ F O (.int i) O1) (hO : O1[m]? = some (q, .lst vs)) (hr : RA X.K F vs (ns.map eI)) (hi : i ∈ ns)
    (kk : ∀ F1 H1, Stp F O H F1 (O1.set m (q, .lst ((ns.erase i).map V.int))) H1 → ZS X rest σ H1 D) (hN : X.N[n]? = some x := by rfl) (hO0 : ∃ o, O[m]? = some (q, .lst o) := by exact ⟨_, rfl⟩)
    (hv : Vis X.env.scope x := by first | exact Or.inl rfl | exact Or.inr (Or.inl rfl) | exact Or.inr (Or.inr rfl)) (hd : (x == ("__debug__" : Str)) = false := by decide) (hcd : (x == ("__classdict__" : Str)) = false := by decide)
    (hs : swapsWith (.Call (.Attribute (.Name x px) "remove" apos) [e] [] cpos) none pos.line X.env = pure false := by rfl)
    (hbase : attributeBase (.Name x px) "remove" X.env (eval (.Name x px) X.env) = eval (.Name x px) X.env := by rfl)
    (hfew : ((backTo cpos (starEach (e :: []) X.env)).all (fun x => !x.1) && (backToKw cpos (keywordEach [] X.env)).all (fun x => x.1.isSome)
      && decide ((e :: []).length + ([] : List Keyword).length + (if ([] : List Keyword).isEmpty then 0 else 1) < 30)) = true := by rfl)
    (hline : (apos.endLine == cpos.line) = true := by rfl) (hse : starEach (e :: []) X.env = (false, eval e X.env) :: starEach [] X.env := by rfl) (hplain : (backTo cpos (starEach [] X.env)).any (·.1) = false := by rfl) :
    ZS X (.Expr (.Call (.Attribute (.Name x px) "remove" apos) [e] [] cpos) pos :: rest) σ H D := by
  obtain ⟨o0, hO0⟩ := hO0
  have hvs := ints_ra hr
  subst hvs
  refine wSs_of (pss_cons (ps_expr (pe_bm PySem.F.plainAttrs_list PySem.F.slot_list_remove PySem.F.type_list_remove mt_remove (pe_var hN hv hd hcd) (pa_cons pe_w pa_nil hse) hbase hfew hline hse hplain) hs) pss_w) ?_
  refine ⟨_, hσ, .inl ⟨rfl, _, .inl (.inl (w.at_ hO0).1)⟩, he F H Gr.refl w _ fun v F1 H1 s1 r1 => ?_⟩
  have hlt := List.idxOf_lt_length_iff.mpr hi
  refine ⟨q, ns, i, ns.idxOf i, rfl, by rw [r1.int_inv], (s1.ok.at_ hO).1, by rw [List.getElem?_eq_getElem hlt, List.getElem_idxOf], fun m' hm hz => idxOf_before ns i m' i hm hz rfl, ?_⟩
  rw [← List.erase_eq_eraseIdx_of_idxOf rfl]
  have hz := s1.ok.szo _ (List.mem_of_getElem? hO) _ rfl
  exact kk F1 _ (s1.trans (Stp.write s1.ok hO (by
    show ((ns.erase i).map V.int).length ≤ _
    rw [List.length_map] at hz ⊢
    exact Nat.le_trans (List.length_erase_le) hz)))
end
end Z

end
section
namespace Z
open PySem PySem.Spec PyProof.Rows L2
section
variable {X : Cx} {e a b c tg iter elt tg1 iter1 : Expr} {es : List Expr} {σ : L2.St} {F H : Hp} {O O1 O2 O3 : Own} {d da db : PyData} {ds rs : List PyData} {pos p : Pos} {i j : Int} {k k1 k2 : Bool} {x y : Str} {n m : Nat} {px py spos : Pos} {scope : Scope} {ifs : List Expr}
variable {α α1 β γ : Type} {G : β → Own} {enc : α → PyData} {enc1 : α1 → PyData} {encR : γ → PyData} {xs : List α} {st0 : β} {own : List (Str × Nat)} {vs1 : List Nat}
theorem zt_to {k' : Bool} {O1' : Own} (h : ZT X e σ F O k O1) (hd : k = k') (hO : O1 = O1') : ZT X e σ F O k' O1' := hd ▸ hO ▸ h
theorem runS_genU {pr : α → Bool} {f0 : α → γ} (xs : List α) : (runS (genF (fun (_ : Unit) a => pr a) (fun _ a => f0 a) (fun _ _ => ()) (fun _ _ => ())) () xs).1 = (xs.filter pr).map f0 := by
  rw [← runS_filter]
  congr 2
  funext st a
  show (if pr a = true then (some (f0 a), ()) else (none, ())) = ((if pr a = true then some (f0 a) else none), ())
  cases h : pr a with
  | true => rw [if_pos rfl, if_pos rfl]
  | false => rw [if_neg (by decide), if_neg (by decide)]
theorem mapS_U {f0 : α → γ} : ∀ xs : List α, (mapS (fun (_ : Unit) a => (f0 a, ())) () xs).1 = xs.map f0
  | [] => rfl
  | a :: xs => by show _ :: _ = _; rw [mapS_U xs]; rfl
/-- the same without a state -/
theorem zn_lcXtp {B : α → L2.St → Hp → Prop} {pr : α → Bool} {f0 : α → γ} {c : Expr} (hc : X.calm = true) (hN : X.N.Nodup) (hi : ZI X tg iter σ F O (xs.map enc) O1) (bd : Bd X scope tg (own.map (·.2)) σ enc xs B)
    (ht : ∀ s H0 C cl fp a σ2 F', a ∈ xs → Gr F F' → B a σ2 F' → ZT (blkX X scope s H0 C cl fp) c σ2 F' O1 (pr a) O1)
    (he : ∀ s H0 C cl fp a σ2 F', a ∈ xs → pr a = true → Gr F F' → B a σ2 F' → ZE (blkX X scope s H0 C cl fp) elt σ2 F' O1 (encR (f0 a)) O1)
    (ok : BlkOk X.N X.env.scope scope own) (hs : ∀ x, foldedSetIterable iter X.env x = pure x := by intro _; rfl) :
    ZN X (.ListComp elt [⟨tg, iter, [c], 0⟩] scope pos) σ F O (((xs.filter pr).map f0).map encR) O1 :=
  zn_eq (zn_lcXt (G := fun _ : Unit => O1) (st0 := ()) (pr := fun _ a => pr a) (f0 := fun _ a => f0 a) (s1 := fun _ _ => ()) (s2 := fun _ _ => ()) hc hN hi bd (fun s H0 C cl fp _ a σ2 F' => ht s H0 C cl fp a σ2 F') (fun s H0 C cl fp _ a σ2 F' => he s H0 C cl fp a σ2 F') ok hs) (by rw [runS_genU])
theorem zn_lcXnp {B : α → L2.St → Hp → Prop} {f0 : α → γ} (hc : X.calm = true) (hN : X.N.Nodup) (hi : ZI X tg iter σ F O (xs.map enc) O1) (bd : Bd X scope tg (own.map (·.2)) σ enc xs B)
    (he : ∀ s H0 C cl fp a σ2 F', a ∈ xs → Gr F F' → B a σ2 F' → ZE (blkX X scope s H0 C cl fp) elt σ2 F' O1 (encR (f0 a)) O1)
    (ok : BlkOk X.N X.env.scope scope own) (hs : ∀ x, foldedSetIterable iter X.env x = pure x := by intro _; rfl) :
    ZN X (.ListComp elt [⟨tg, iter, [], 0⟩] scope pos) σ F O ((xs.map f0).map encR) O1 :=
  zn_eq (zn_lcXn (G := fun _ : Unit => O1) (st0 := ()) (f0 := fun _ a => f0 a) (s2 := fun _ _ => ()) hc hN hi bd (fun s H0 C cl fp _ a σ2 F' => he s H0 C cl fp a σ2 F') ok hs) (by rw [mapS_U])
theorem zs_setLcXtp (w : WOk F O H) {i0 : Nat} {rest : List Stmt} {D : Ends} {B : α → L2.St → Hp → Prop} {pr : α → Bool} {f0 : α → γ} {c : Expr} (hc : X.calm = true) (hN : X.N.Nodup) (hi : ZI X tg iter σ F O (xs.map enc) O1) (bd : Bd X scope tg (own.map (·.2)) σ enc xs B)
    (ht : ∀ s H0 C cl fp a σ2 F', a ∈ xs → Gr F F' → B a σ2 F' → ZT (blkX X scope s H0 C cl fp) c σ2 F' O1 (pr a) O1)
    (he : ∀ s H0 C cl fp a σ2 F', a ∈ xs → pr a = true → Gr F F' → B a σ2 F' → ZE (blkX X scope s H0 C cl fp) elt σ2 F' O1 (encR (f0 a)) O1)
    (ok : BlkOk X.N X.env.scope scope own) (hy : X.N[i0]? = some y) (hyl : X.env.scope.names.lookup y = some .local)
    (hsw : swapsWith (.ListComp elt [⟨tg, iter, [c], 0⟩] scope pos) (some (.Name y py)) spos.line X.env = pure true)
    (kk : ∀ p us F1 H1, H p = none → Stp F O H F1 ((p, .lst us) :: O1) H1 → RA X.K F1 us (((xs.filter pr).map f0).map encR) → ZS X rest (σ.set i0 (some (.ref p))) H1 D) (hs : ∀ x, foldedSetIterable iter X.env x = pure x := by intro _; rfl) :
    ZS X (.Assign [.Name y py] (.ListComp elt [⟨tg, iter, [c], 0⟩] scope pos) spos :: rest) σ H D :=
  zs_setLcXt (G := fun _ : Unit => O1) (st0 := ()) (pr := fun _ a => pr a) (f0 := fun _ a => f0 a) (s1 := fun _ _ => ()) (s2 := fun _ _ => ()) w hc hN hi bd (fun s H0 C cl fp _ a σ2 F' => ht s H0 C cl fp a σ2 F') (fun s H0 C cl fp _ a σ2 F' => he s H0 C cl fp a σ2 F') ok hy hyl hsw (fun p us F1 H1 hp s r => kk p us F1 H1 hp s (by rw [runS_genU] at r; exact r)) hs
theorem zs_setLcXnp (w : WOk F O H) {i0 : Nat} {rest : List Stmt} {D : Ends} {B : α → L2.St → Hp → Prop} {f0 : α → γ} (hc : X.calm = true) (hN : X.N.Nodup) (hi : ZI X tg iter σ F O (xs.map enc) O1) (bd : Bd X scope tg (own.map (·.2)) σ enc xs B)
    (he : ∀ s H0 C cl fp a σ2 F', a ∈ xs → Gr F F' → B a σ2 F' → ZE (blkX X scope s H0 C cl fp) elt σ2 F' O1 (encR (f0 a)) O1)
    (ok : BlkOk X.N X.env.scope scope own) (hy : X.N[i0]? = some y) (hyl : X.env.scope.names.lookup y = some .local)
    (hsw : swapsWith (.ListComp elt [⟨tg, iter, [], 0⟩] scope pos) (some (.Name y py)) spos.line X.env = pure true)
    (kk : ∀ p us F1 H1, H p = none → Stp F O H F1 ((p, .lst us) :: O1) H1 → RA X.K F1 us ((xs.map f0).map encR) → ZS X rest (σ.set i0 (some (.ref p))) H1 D) (hs : ∀ x, foldedSetIterable iter X.env x = pure x := by intro _; rfl) :
    ZS X (.Assign [.Name y py] (.ListComp elt [⟨tg, iter, [], 0⟩] scope pos) spos :: rest) σ H D :=
  zs_setLcXn (G := fun _ : Unit => O1) (st0 := ()) (f0 := fun _ a => f0 a) (s2 := fun _ _ => ()) w hc hN hi bd (fun s H0 C cl fp _ a σ2 F' => he s H0 C cl fp a σ2 F') ok hy hyl hsw (fun p us F1 H1 hp s r => kk p us F1 H1 hp s (by rw [mapS_U] at r; exact r)) hs
end
end Z

end
section
namespace ZL
open PySem PySem.Spec PyProof.Rows L2 Z
def topS (i : Nat) : Stmt := PySem.Challenge.pw_flushends_k07_runs_of_legs.main.body.getD i (.Pass ⟨0, 0, 0, 0⟩)
structure Top (K : PySem.W.Frag) (mg : Str → Option Value) : Prop where
  f_mix : ∃ f fd, FunD K "_law_mix" "_law_mix" (defArgs (topS 4)) (defBody (topS 4)) (defScope (topS 4)) [] [] f fd ∧ mg "_law_mix" = some (.ref f)
  f_mkStore : ∃ f fd, FunD K "_law_store" "_law_store" (defArgs (topS 5)) (defBody (topS 5)) (defScope (topS 5)) [] [] f fd ∧ mg "_law_store" = some (.ref f)
  f_take : ∃ f fd, FunD K "_law_take" "_law_take" (defArgs (topS 6)) (defBody (topS 6)) (defScope (topS 6)) [] [] f fd ∧ mg "_law_take" = some (.ref f)
  f_odds : ∃ f fd, FunD K "_law_odds" "_law_odds" (defArgs (topS 7)) (defBody (topS 7)) (defScope (topS 7)) [] [] f fd ∧ mg "_law_odds" = some (.ref f)
  f_number : ∃ f fd, FunD K "_law_number" "_law_number" (defArgs (topS 8)) (defBody (topS 8)) (defScope (topS 8)) [] [] f fd ∧ mg "_law_number" = some (.ref f)
  f_same : ∃ f fd, FunD K "_law_same" "_law_same" (defArgs (topS 13)) (defBody (topS 13)) (defScope (topS 13)) [] [] f fd ∧ mg "_law_same" = some (.ref f)
  f_pick : ∃ f fd, FunD K "_law_pick" "_law_pick" (defArgs (topS 9)) (defBody (topS 9)) (defScope (topS 9)) [] [] f fd ∧ mg "_law_pick" = some (.ref f)
  f_hallL : ∃ f fd, FunD K "_law_hall" "_law_hall" (defArgs (topS 10)) (defBody (topS 10)) (defScope (topS 10)) [] [] f fd ∧ mg "_law_hall" = some (.ref f)
  f_stretchL : ∃ f fd, FunD K "_law_stretch" "_law_stretch" (defArgs (topS 11)) (defBody (topS 11)) (defScope (topS 11)) [] [] f fd ∧ mg "_law_stretch" = some (.ref f)
  f_is_numberL : ∃ f fd, FunD K "_law_is_number" "_law_is_number" (defArgs (topS 12)) (defBody (topS 12)) (defScope (topS 12)) [] [] f fd ∧ mg "_law_is_number" = some (.ref f)
  f_is_pieceL : ∃ f fd, FunD K "_law_is_piece" "_law_is_piece" (defArgs (topS 14)) (defBody (topS 14)) (defScope (topS 14)) [] [] f fd ∧ mg "_law_is_piece" = some (.ref f)
  f_legsL : ∃ f fd, FunD K "_law_legs" "_law_legs" (defArgs (topS 15)) (defBody (topS 15)) (defScope (topS 15)) [] [] f fd ∧ mg "_law_legs" = some (.ref f)
  f_lset : ∃ f fd, FunD K "_law_set" "_law_set" (defArgs (topS 16)) (defBody (topS 16)) (defScope (topS 16)) [] [] f fd ∧ mg "_law_set" = some (.ref f)
  f_all_stretchesP : ∃ f fd, FunD K "all_stretches" "all_stretches" (defArgs (topS 1)) (defBody (topS 1)) (defScope (topS 1)) [] [] f fd ∧ mg "all_stretches" = some (.ref f)
  f_runs_ofP : ∃ f fd, FunD K "runs_of" "runs_of" (defArgs (topS 2)) (defBody (topS 2)) (defScope (topS 2)) [] [] f fd ∧ mg "runs_of" = some (.ref f)
  f_runsL : ∃ f fd, FunD K "_law_runs" "_law_runs" (defArgs (topS 17)) (defBody (topS 17)) (defScope (topS 17)) [] [] f fd ∧ mg "_law_runs" = some (.ref f)
  f_askedL : ∃ f fd, FunD K "_law_asked" "_law_asked" (defArgs (topS 18)) (defBody (topS 18)) (defScope (topS 18)) [] [] f fd ∧ mg "_law_asked" = some (.ref f)
  f_allL : ∃ f fd, FunD K "_law_all" "_law_all" (defArgs (topS 19)) (defBody (topS 19)) (defScope (topS 19)) [] [] f fd ∧ mg "_law_all" = some (.ref f)
  f_law : ∃ f fd, FunD K "law" "law" (defArgs (topS 20)) (defBody (topS 20)) (defScope (topS 20)) [] [] f fd ∧ mg "law" = some (.ref f)
  b_abs : mg "abs" = none
  b_bool : mg "bool" = none
  b_int : mg "int" = none
  b_isinstance : mg "isinstance" = none
  b_len : mg "len" = none
  b_list : mg "list" = none
  b_range : mg "range" = none
  b_sorted : mg "sorted" = none
  b_str : mg "str" = none
  b_tuple : mg "tuple" = none

def okT (t : Str × Int) : Prop := (t.1 = Str.ofString "line" ∨ t.1 = Str.ofString "round") ∧ 1 ≤ t.2 ∧ t.2 ≤ 24
def okP (t : Str × Int) (p : Int × Int) : Prop := 0 ≤ p.1 ∧ p.1 < t.2 ∧ 1 ≤ p.2 ∧ p.2 ≤ t.2 ∧ (t.1 = Str.ofString "line" → p.1 + p.2 ≤ t.2) ∧ (t.1 = Str.ofString "round" → p.2 = t.2 → p.1 = 0)
/-! ### arcs of a ring -/
theorem md {n x : Int} (hn : 0 < n) (h : -n ≤ x ∧ x < 2 * n) : (x % n = x ∧ 0 ≤ x ∧ x < n) ∨ (x % n = x - n ∧ n ≤ x) ∨ (x % n = x + n ∧ x < 0) := by
  rcases Int.lt_or_le x 0 with h0 | h0
  · refine .inr (.inr ⟨?_, h0⟩)
    rw [← Int.add_emod_right]; exact Int.emod_eq_of_lt (by omega) (by omega)
  · rcases Int.lt_or_le x n with h1 | h1
    · exact .inl ⟨Int.emod_eq_of_lt h0 h1, h0, h1⟩
    · refine .inr (.inl ⟨?_, h1⟩)
      rw [← Int.sub_emod_right]; exact Int.emod_eq_of_lt (by omega) (by omega)
def arcN (n a : Int) (m : Nat) : List Int := (List.range m).map fun k : Nat => (a + (k : Int)) % n
theorem arcN_length (n a : Int) (m : Nat) : (arcN n a m).length = m := by simp [arcN]
theorem arc_range (n a m : Int) : (rangeI 0 m).map (fun k => (a + k) % n) = arcN n a m.toNat := by
  unfold rangeI arcN
  rw [List.map_map, Int.sub_zero]
  exact List.map_congr_left fun k _ => by simp
theorem arcN_get {n a : Int} {m k : Nat} (h : k < m) : (arcN n a m)[k]? = some ((a + (k : Int)) % n) := by
  unfold arcN
  rw [List.getElem?_map, List.getElem?_range h]; rfl
theorem arcN_none {n a : Int} {m k : Nat} (h : m ≤ k) : (arcN n a m)[k]? = none := List.getElem?_eq_none_iff.mpr (by rw [arcN_length]; exact h)
theorem arcN_drop (n a : Int) (m j : Nat) : (arcN n a m).drop j = arcN n (a + (j : Int)) (m - j) := by
  apply List.ext_getElem?
  intro i
  rw [List.getElem?_drop]
  by_cases h : i < m - j
  · rw [arcN_get (by omega), arcN_get h]
    congr 2; omega
  · rw [arcN_none (by omega), arcN_none (by omega)]
theorem arcN_take (n a : Int) (m j : Nat) (h : j ≤ m) : (arcN n a m).take j = arcN n a j := by
  apply List.ext_getElem?
  intro i
  rw [List.getElem?_take]
  split
  · rename_i hi
    rw [arcN_get (by omega), arcN_get hi]
  · rename_i hi
    rw [arcN_none (by omega)]
theorem arcN_app (n a : Int) (m j : Nat) : arcN n a m ++ arcN n (a + (m : Int)) j = arcN n a (m + j) := by
  apply List.ext_getElem?
  intro i
  rw [List.getElem?_append, arcN_length]
  split
  · rename_i hi
    rw [arcN_get hi, arcN_get (by omega)]
  · rename_i hi
    by_cases h : i - m < j
    · rw [arcN_get h, arcN_get (by omega)]
      congr 2; omega
    · rw [arcN_none (by omega), arcN_none (by omega)]
theorem arcN_mod (n a : Int) (m : Nat) : arcN n (a % n) m = arcN n a m := by
  unfold arcN
  exact List.map_congr_left fun k _ => by rw [Int.emod_add_emod]
theorem arcN_cons {n a : Int} {m : Nat} (h : 0 ≤ a ∧ a < n) : arcN n a (m + 1) = a :: arcN n (a + 1) m := by
  have := arcN_app n a 1 m
  rw [Nat.add_comm] at this
  rw [← this]
  show [(a + ((0 : Nat) : Int)) % n] ++ _ = _
  rw [Int.emod_eq_of_lt (by simp; exact h.1) (by simp; exact h.2)]
  simp
theorem arcN_mem {n a b : Int} {m : Nat} (hn : 0 < n) (ha : 0 ≤ a ∧ a < n) (hm : (m : Int) ≤ n) : b ∈ arcN n a m ↔ (0 ≤ b ∧ b < n ∧ (b - a) % n < m) := by
  unfold arcN
  rw [List.mem_map]
  constructor
  · rintro ⟨k, hk, rfl⟩
    rw [List.mem_range] at hk
    have h1 := md (n := n) (x := a + (k : Int)) hn (by omega)
    refine ⟨by omega, by omega, ?_⟩
    have h2 := md (n := n) (x := (a + (k : Int)) % n - a) hn (by omega)
    omega
  · rintro ⟨h0, h1, h2⟩
    have h3 := md (n := n) (x := b - a) hn (by omega)
    refine ⟨((b - a) % n).toNat, List.mem_range.mpr (by omega), ?_⟩
    have h4 := md (n := n) (x := a + (((b - a) % n).toNat : Int)) hn (by omega)
    omega
theorem arcN_inj {n a : Int} {m i j : Nat} (hn : 0 < n) (ha : 0 ≤ a ∧ a < n) (hm : (m : Int) ≤ n) (hi : i < m) (hj : j < m) (h : (a + (i : Int)) % n = (a + (j : Int)) % n) : i = j := by
  have h1 := md (n := n) (x := a + (i : Int)) hn (by omega)
  have h2 := md (n := n) (x := a + (j : Int)) hn (by omega)
  omega
theorem arcN_nodup {n a : Int} {m : Nat} (hn : 0 < n) (ha : 0 ≤ a ∧ a < n) (hm : (m : Int) ≤ n) : (arcN n a m).Nodup := by
  unfold arcN
  rw [List.nodup_iff_pairwise_ne, List.pairwise_map]
  refine List.Pairwise.imp_of_mem ?_ (List.nodup_iff_pairwise_ne.mp List.nodup_range)
  intro i j hi hj hne e
  exact hne (arcN_inj hn ha hm (List.mem_range.mp hi) (List.mem_range.mp hj) e)
theorem idxOf_of {xs : List Int} {b : Int} {j : Nat} (nd : xs.Nodup) (h : xs[j]? = some b) : xs.idxOf b = j := by
  obtain ⟨hj, e⟩ := List.getElem?_eq_some_iff.mp h
  rw [← e]; exact nd.idxOf_getElem _ _
theorem arcN_idx {n a b : Int} {m : Nat} (hn : 0 < n) (ha : 0 ≤ a ∧ a < n) (hb : 0 ≤ b ∧ b < n) (hm : (m : Int) ≤ n) (h : (b - a) % n < m) : (arcN n a m).idxOf b = ((b - a) % n).toNat := by
  have h3 := md (n := n) (x := b - a) hn (by omega)
  refine idxOf_of (arcN_nodup hn ha hm) ?_
  rw [arcN_get (by omega)]
  have h4 := md (n := n) (x := a + (((b - a) % n).toNat : Int)) hn (by omega)
  congr 1; omega
/-- an arc within another one -/
theorem arcN_sub {n a b : Int} {m k : Nat} (hn : 0 < n) (ha : 0 ≤ a ∧ a < n) (hb : 0 ≤ b ∧ b < n) (hm : (m : Int) ≤ n) (hk : (k : Int) ≤ n) (hk1 : 1 ≤ k) (hmn : (m : Int) < n ∨ a + k ≤ n ∧ a = 0 ∧ b + k ≤ n) :
    (∀ x ∈ arcN n b k, x ∈ arcN n a m) ↔ (b - a) % n + k ≤ m := by
  have h3 := md (n := n) (x := b - a) hn (by omega)
  constructor
  · intro h
    -- the first leg that the arc a m lacks behind (b - a) % n
    rcases Int.lt_or_le ((m : Int) - (b - a) % n) k with hlt | hge
    · exfalso
      have hb1 := (arcN_mem hn ha hm).mp (h b ((arcN_mem hn hb hk).mpr ⟨hb.1, hb.2, by rw [Int.sub_self]; simp; omega⟩))
      -- at step j = m - (b-a)%n of the inner arc
      have hj : ((m : Int) - (b - a) % n).toNat < k := by omega
      have hx := h ((b + (((m : Int) - (b - a) % n).toNat : Int)) % n) (List.mem_of_getElem? (arcN_get hj))
      have hy := (arcN_mem hn ha hm).mp hx
      have h5 := md (n := n) (x := b + (((m : Int) - (b - a) % n).toNat : Int)) hn (by omega)
      have h6 := md (n := n) (x := (b + (((m : Int) - (b - a) % n).toNat : Int)) % n - a) hn (by omega)
      omega
    · omega
  · intro h x hx
    have hx := (arcN_mem hn hb hk).mp hx
    refine (arcN_mem hn ha hm).mpr ⟨hx.1, hx.2.1, ?_⟩
    have h5 := md (n := n) (x := x - b) hn (by omega)
    have h6 := md (n := n) (x := x - a) hn (by omega)
    omega
theorem sortI_length (xs : List Int) : (sortI xs).length = xs.length := (sortI_perm xs).length_eq
theorem cut_to {α : Type} (xs : List α) (k : Nat) : Z.cutD xs none (some (k : Int)) = xs.take k := by
  unfold Z.cutD
  rw [HT.sIx_none, HT.sIx_nat, List.drop_zero, Nat.sub_zero, ← List.take_eq_take_min]
theorem cut_from {α : Type} (xs : List α) (k : Nat) : Z.cutD xs (some (k : Int)) none = xs.drop k := by
  unfold Z.cutD
  rw [HT.sIx_none, HT.sIx_nat]
  by_cases h : k ≤ xs.length
  · rw [Nat.min_eq_left h, ← List.length_drop, List.take_length]
  · rw [Nat.min_eq_right (by omega), Nat.sub_self, List.take_zero, List.drop_eq_nil_of_le (by omega)]
theorem cut_less {α : Type} (xs : List α) : Z.cutD xs none (some (-1)) = xs.take (xs.length - 1) := by
  unfold Z.cutD
  rw [HT.sIx_none, List.drop_zero, Nat.sub_zero]
  congr 1
  show (if (-1 : Int) < 0 then ((-1 : Int) + (xs.length : Int)).toNat else min (-1 : Int).toNat xs.length) = xs.length - 1
  rw [if_pos (by decide)]; omega
theorem cutD_le {α : Type} (xs : List α) (l u : Option Int) : (Z.cutD xs l u).length ≤ xs.length := by
  unfold Z.cutD
  rw [List.length_take, List.length_drop]
  omega
theorem dsz_LI (xs : List Int) : dsz (eL eI xs) ≤ 1 + xs.length := by have := dsz_L (e := eI) (c := 1) (xs := xs) (fun x _ => dsz_I x); omega
theorem dsz_P2 (p : Int × Int) : dsz (eT2 eI eI p) ≤ 3 := dsz_T2 (dsz_I _) (dsz_I _)
theorem dsz_O2 (o : Option (Int × Int)) : dsz (eO (eT2 eI eI) o) ≤ 3 := dsz_O (fun x _ => dsz_P2 x) (by decide)
theorem dsz_LP (xs : List (Int × Int)) : dsz (eL (eT2 eI eI) xs) ≤ 1 + 3 * xs.length := dsz_L (fun x _ => dsz_P2 x)
theorem dsz_D4 {a b c d : PyData} : dsz (eL (fun d : PyData => d) [a, b, c, d]) = 1 + (dsz a + (dsz b + (dsz c + (dsz d + 0)))) := by
  show dsz (.list [a, b, c, d]) = _
  rw [dsz_list]; simp only [dszL]

def okL (n : Int) (legs : List Int) : Prop := legs.Pairwise (· < ·) ∧ ∀ x ∈ legs, 0 ≤ x ∧ x < n
theorem okL_len : ∀ {legs : List Int} {n lo : Int}, legs.Pairwise (· < ·) → (∀ x ∈ legs, lo ≤ x ∧ x < n) → (legs.length : Int) ≤ max 0 (n - lo)
  | [], n, lo, _, _ => by simp; omega
  | x :: xs, n, lo, hp, hb => by
    obtain ⟨h1, h2⟩ := List.pairwise_cons.mp hp
    have ih := okL_len (n := n) (lo := x + 1) h2 fun y hy => ⟨by have := h1 y hy; omega, (hb y (List.mem_cons_of_mem _ hy)).2⟩
    have := hb x List.mem_cons_self
    rw [List.length_cons]; omega
theorem okL_le {legs : List Int} {n : Int} (h : okL n legs) (hn : 0 ≤ n) : (legs.length : Int) ≤ n := by
  have := okL_len (lo := 0) h.1 h.2
  omega

/-! _law_mix -/
abbrev s_mix : Stmt := topS 4
theorem sc_mix : FnScope ["seed", "step", "low", "high", "one", "two"] ["seed", "step"] (defScope s_mix) := ⟨rfl, rfl, rfl, by decide +kernel, rfl, by decide +kernel, by decide +kernel⟩
def mix_6 (one_2 : Int) (two_2 : Int) : Int :=
  ((one_2 * (2147483579 : Int)) + two_2)
def mix_5 (low : Int) (one_2 : Int) (two : Int) : Int :=
  mix_6 one_2 ((((two * two) + ((39373 : Int) * one_2)) + low) % (2147483579 : Int))
def mix_4 (low : Int) (high : Int) (one : Int) (two : Int) : Int :=
  mix_5 low ((((one * one) + ((16807 : Int) * two)) + high) % (2147483399 : Int)) two
def mix_3 (low : Int) (high : Int) (one : Int) : Int :=
  mix_4 low high one ((((high * high) + ((48271 : Int) * one)) + low) % (2147483629 : Int))
def mix_2 (low : Int) (high : Int) : Int :=
  mix_3 low high (((low * low) + ((40692 : Int) * high)) % (2147483647 : Int))
def mix_1 (seed : Int) (step : Int) (low : Int) : Int :=
  mix_2 low ((((seed / (2147483647 : Int)) % (2147483629 : Int)) + ((step % (1000003 : Int)) * (69621 : Int))) + (5 : Int))
def mix (seed : Int) (step : Int) : Int :=
  mix_1 seed step (((seed % (2147483647 : Int)) + ((step % (1000003 : Int)) * (48271 : Int))) + (11 : Int))
def A_mix : List PyData → PyData → Prop := fun ds r => ∃ (seed : Int) (step : Int), ds = [eI seed, eI step] ∧ r = eI (mix seed step)
set_option maxHeartbeats 4000000 in
theorem ok_mix {P : Program} {w : World} {K : PySem.W.Frag} {mg : Str → Option Value} {base : Heap} (T : Top K mg) : Fn P w K mg base 1 "_law_mix" ["seed", "step"] (spD K A_mix) := by
  obtain ⟨f, fd, F, gm⟩ := T.f_mix
  have sc := sc_mix
  refine ⟨f, fd, F.ok sc (fun vs H Q E h => ?_) (fun cdv A outer s0 H vs Q E hr h => ⟨_, PSs.nox pss_w, ?_⟩), gm, F.kp, F.bindsN (fun _ _ _ _ _ _ us hl => match us, hl with | [_, _], _ => rfl)⟩
  · obtain ⟨F, ds, r, w, ra, ⟨seed, step, rfl, rfl⟩, q⟩ := h
    exact ra.len
  · obtain ⟨F, ds, r, w, ra, ⟨seed, step, rfl, rfl⟩, q⟩ := h
    obtain ⟨v_seed, ws, rfl, r_seed, ra⟩ := ra.cons_inv
    obtain ⟨v_step, ws, rfl, r_step, ra⟩ := ra.cons_inv
    obtain rfl := ra.nil_inv
    have st := Stp.refl w
    have hf : mix seed step = mix seed step := rfl
    show ZS _ _ [some v_seed, some v_step, none, none, none, none] H _
    refine zs_set (n := 2) st.ok (ze_add (ze_add (ze_mod (ze_intI T.b_int (ze_var 0 rfl r_seed)) ze_int (by decide)) (ze_mulR (ze_mod (ze_intI T.b_int (ze_var 1 rfl r_step)) ze_int (by decide)) ze_int (by decide))) ze_int) sc.nd rfl (by first | exact Or.inl rfl | exact Or.inr rfl) fun v_low F_2 H_2 s_2 r_low => ?_
    obtain ⟨low, hx_low⟩ : ∃ z : Int, z = (((seed % (2147483647 : Int)) + ((step % (1000003 : Int)) * (48271 : Int))) + (11 : Int)) := ⟨_, rfl⟩
    have s_2 : Stp F [] H F_2 [] H_2 := by exact s_2
    have r_low : R K F_2 v_low (eI low) := by subst hx_low; exact r_low
    have st := st.trans s_2
    have r_seed := r_seed.mono s_2.gr
    have r_step := r_step.mono s_2.gr
    show ZS _ _ [some v_seed, some v_step, some v_low, none, none, none] H_2 _
    have hf : mix seed step = mix_1 seed step low := by subst hx_low; exact hf
    refine zs_set (n := 3) st.ok (ze_add (ze_add (ze_mod (ze_fdivW (ze_intI T.b_int (ze_var 0 rfl r_seed)) ze_int (by decide) (by decide)) ze_int (by decide)) (ze_mulR (ze_mod (ze_intI T.b_int (ze_var 1 rfl r_step)) ze_int (by decide)) ze_int (by decide))) ze_int) sc.nd rfl (by first | exact Or.inl rfl | exact Or.inr rfl) fun v_high F_3 H_3 s_3 r_high => ?_
    obtain ⟨high, hx_high⟩ : ∃ z : Int, z = ((((seed / (2147483647 : Int)) % (2147483629 : Int)) + ((step % (1000003 : Int)) * (69621 : Int))) + (5 : Int)) := ⟨_, rfl⟩
    have s_3 : Stp F_2 [] H_2 F_3 [] H_3 := by exact s_3
    have r_high : R K F_3 v_high (eI high) := by subst hx_high; exact r_high
    have st := st.trans s_3
    have r_seed := r_seed.mono s_3.gr
    have r_step := r_step.mono s_3.gr
    have r_low := r_low.mono s_3.gr
    show ZS _ _ [some v_seed, some v_step, some v_low, some v_high, none, none] H_3 _
    have hf : mix seed step = mix_2 low high := by subst hx_high; exact hf
    refine zs_set (n := 4) st.ok (ze_mod (ze_intI T.b_int (ze_add (ze_mulL (ze_var 2 rfl r_low) (ze_var 2 rfl r_low) (by /-1-/ first | omega | decide)) (ze_mulL ze_int (ze_var 3 rfl r_high) (by decide)))) ze_int (by decide)) sc.nd rfl (by first | exact Or.inl rfl | exact Or.inr rfl) fun v_one F_4 H_4 s_4 r_one => ?_
    obtain ⟨one, hx_one⟩ : ∃ z : Int, z = (((low * low) + ((40692 : Int) * high)) % (2147483647 : Int)) := ⟨_, rfl⟩
    have s_4 : Stp F_3 [] H_3 F_4 [] H_4 := by exact s_4
    have r_one : R K F_4 v_one (eI one) := by subst hx_one; exact r_one
    have st := st.trans s_4
    have r_seed := r_seed.mono s_4.gr
    have r_step := r_step.mono s_4.gr
    have r_low := r_low.mono s_4.gr
    have r_high := r_high.mono s_4.gr
    show ZS _ _ [some v_seed, some v_step, some v_low, some v_high, some v_one, none] H_4 _
    have hf : mix seed step = mix_3 low high one := by subst hx_one; exact hf
    refine zs_set (n := 5) st.ok (ze_mod (ze_intI T.b_int (ze_add (ze_add (ze_mulL (ze_var 3 rfl r_high) (ze_var 3 rfl r_high) (by /-2-/ first | omega | decide)) (ze_mulL ze_int (ze_var 4 rfl r_one) (by decide))) (ze_var 2 rfl r_low))) ze_int (by decide)) sc.nd rfl (by first | exact Or.inl rfl | exact Or.inr rfl) fun v_two F_5 H_5 s_5 r_two => ?_
    obtain ⟨two, hx_two⟩ : ∃ z : Int, z = ((((high * high) + ((48271 : Int) * one)) + low) % (2147483629 : Int)) := ⟨_, rfl⟩
    have s_5 : Stp F_4 [] H_4 F_5 [] H_5 := by exact s_5
    have r_two : R K F_5 v_two (eI two) := by subst hx_two; exact r_two
    have st := st.trans s_5
    have r_seed := r_seed.mono s_5.gr
    have r_step := r_step.mono s_5.gr
    have r_low := r_low.mono s_5.gr
    have r_high := r_high.mono s_5.gr
    have r_one := r_one.mono s_5.gr
    show ZS _ _ [some v_seed, some v_step, some v_low, some v_high, some v_one, some v_two] H_5 _
    have hf : mix seed step = mix_4 low high one two := by subst hx_two; exact hf
    refine zs_set (n := 4) st.ok (ze_mod (ze_intI T.b_int (ze_add (ze_add (ze_mulL (ze_var 4 rfl r_one) (ze_var 4 rfl r_one) (by /-3-/ first | omega | decide)) (ze_mulL ze_int (ze_var 5 rfl r_two) (by decide))) (ze_var 3 rfl r_high))) ze_int (by decide)) sc.nd rfl (by first | exact Or.inl rfl | exact Or.inr rfl) fun v_one_2 F_6 H_6 s_6 r_one_2 => ?_
    obtain ⟨one_2, hx_one_2⟩ : ∃ z : Int, z = ((((one * one) + ((16807 : Int) * two)) + high) % (2147483399 : Int)) := ⟨_, rfl⟩
    have s_6 : Stp F_5 [] H_5 F_6 [] H_6 := by exact s_6
    have r_one_2 : R K F_6 v_one_2 (eI one_2) := by subst hx_one_2; exact r_one_2
    have st := st.trans s_6
    have r_seed := r_seed.mono s_6.gr
    have r_step := r_step.mono s_6.gr
    have r_low := r_low.mono s_6.gr
    have r_high := r_high.mono s_6.gr
    have r_two := r_two.mono s_6.gr
    show ZS _ _ [some v_seed, some v_step, some v_low, some v_high, some v_one_2, some v_two] H_6 _
    have hf : mix seed step = mix_5 low one_2 two := by subst hx_one_2; exact hf
    refine zs_set (n := 5) st.ok (ze_mod (ze_intI T.b_int (ze_add (ze_add (ze_mulL (ze_var 5 rfl r_two) (ze_var 5 rfl r_two) (by /-4-/ first | omega | decide)) (ze_mulL ze_int (ze_var 4 rfl r_one_2) (by decide))) (ze_var 2 rfl r_low))) ze_int (by decide)) sc.nd rfl (by first | exact Or.inl rfl | exact Or.inr rfl) fun v_two_2 F_7 H_7 s_7 r_two_2 => ?_
    obtain ⟨two_2, hx_two_2⟩ : ∃ z : Int, z = ((((two * two) + ((39373 : Int) * one_2)) + low) % (2147483579 : Int)) := ⟨_, rfl⟩
    have s_7 : Stp F_6 [] H_6 F_7 [] H_7 := by exact s_7
    have r_two_2 : R K F_7 v_two_2 (eI two_2) := by subst hx_two_2; exact r_two_2
    have st := st.trans s_7
    have r_seed := r_seed.mono s_7.gr
    have r_step := r_step.mono s_7.gr
    have r_low := r_low.mono s_7.gr
    have r_high := r_high.mono s_7.gr
    have r_one_2 := r_one_2.mono s_7.gr
    show ZS _ _ [some v_seed, some v_step, some v_low, some v_high, some v_one_2, some v_two_2] H_7 _
    have hf : mix seed step = mix_6 one_2 two_2 := by subst hx_two_2; exact hf
    refine zs_ret st.ok (ze_add (ze_mulR (ze_var 4 rfl r_one_2) ze_int (by decide)) (ze_var 5 rfl r_two_2)) fun v F_8 H_8 s_8 r_2 => ?_
    exact q v F_8 H_8 (st.trans s_8) (by rw [hf]; exact r_2)

/-! _law_store -/
abbrev s_mkStore : Stmt := topS 5
theorem sc_mkStore : FnScope ["script", "cells", "seed", "cell"] ["script"] (defScope s_mkStore) := ⟨rfl, rfl, rfl, by decide +kernel, rfl, by decide +kernel, by decide +kernel⟩
set_option maxHeartbeats 4000000 in
theorem ok_mkStore {P : Program} {w : World} {K : PySem.W.Frag} {mg : Str → Option Value} {base : Heap} (T : Top K mg) : Fn P w K mg base 1 "_law_store" ["script"] (spMk K) := by
  obtain ⟨f, fd, F, gm⟩ := T.f_mkStore
  have sc := sc_mkStore
  refine ⟨f, fd, F.ok sc (fun vs H Q E h => ?_) (fun cdv A outer s0 H vs Q E hr h => ⟨_, PSs.nox pss_w, ?_⟩), gm, F.kp, F.bindsN (fun _ _ _ _ _ _ us hl => match us, hl with | [_], _ => rfl)⟩
  · obtain ⟨F, a, ns, rfl, w, hS, hn, q⟩ := h
    rfl
  · obtain ⟨F, a, ns, rfl, w, hS, hn, q⟩ := h
    have st := Stp.refl w
    show ZS _ _ [some (.ref a), none, none, none] H _
    refine zs_setLcM (i0 := 1) (n := 3) (w := st.ok) (f0 := fun x : Int => x) (encR := eI) rfl sc.nd (zi_sqL (n := 0) rfl hS (ra_ints ns) (by rw [List.length_map, ← szL]; omega)) (fun _ _ _ _ _ x v _ hx g r => ze_intI T.b_int (ze_var 3 rfl r)) (blkOk_by (N := ["script", "cells", "seed", "cell"]) (sc := defScope s_mkStore) (by decide +kernel)) (fun _ _ _ _ _ => pg_name (i := 3) sc.nd rfl (Or.inl rfl)) rfl rfl (sw_true rfl rfl rfl (by decide +kernel)) fun p us F1 H1 hp s1 r1 => ?_
    have hn1 := st.newAt hp
    have r1 : RA K F1 us (ns.map eI) := by rw [List.map_id'] at r1; exact r1
    have g1 : Gr F1 (upd F1 p (.lst us)) := Gr.upd (s1.ok.at_ (k := 0) rfl).2
    have st : Stp _ _ _ (upd F1 p (.lst us)) [] H1 := Stp.freezeAt 0 (st.trans s1) rfl hn1
    have r_cells : R K (upd F1 p (.lst us)) (.ref p) (eL eI ns) := (r1.mono g1).lst upd_same
    show ZS _ _ [some (.ref a), some (.ref p), none, none] H1 _
    refine zs_set (n := 2) st.ok (ze_add ze_int (ze_lenLt T.b_len (ze_var 1 rfl r_cells))) sc.nd rfl (Or.inl rfl) fun v_seed F3 H3 s3 r_seed => ?_
    have st := st.trans s3
    have r_cells := r_cells.mono s3.gr
    show ZS _ _ [some (.ref a), some (.ref p), some v_seed, none] H3 _
    refine zs_forF (f := fun b a : Int => (b * 1000003 + a % 2305843009213693951 + 1) % 2305843009213693951) (b0 := 17 + (ns.length : Int)) st.ok PassesOwn.never rfl (zi_list (ze_var 1 rfl r_cells)) (fun i b σ F O => ∃ (z : Option V) (v : V), σ = [some (.ref a), some (.ref p), some v, z] ∧ O = [] ∧ R K F v (eI b)) (fun F1 H1 s1 => ⟨none, v_seed, rfl, rfl, r_seed.mono s1.gr⟩) (fun i b a' v σ1 Fa Fb O1 H4 ha hbe hz rel g stt r => ?_) (fun σ1 F4 O1 H4 stt rel => ?_)
    · obtain ⟨z, v_seed, rfl, rfl, r_seed⟩ := rel
      refine zg_name (n := 3) sc.nd rfl (Or.inl rfl) ?_
      show ZS _ _ [some (.ref a), some (.ref p), some v_seed, some v] H4 _
      refine zs_set (n := 2) stt.ok (ze_mod (ze_intI T.b_int (ze_add (ze_add (ze_mulR (ze_var 2 rfl (r_seed.mono g)) ze_int (by decide)) (ze_mod (ze_var 3 rfl r) ze_int (by decide))) ze_int)) ze_int (by decide)) sc.nd rfl (Or.inl rfl) fun v5 F5 H5 s5 r5 => ?_
      refine zs_nil ?_
      exact ⟨F5, [], s5, some v, v5, rfl, rfl, r5⟩
    · obtain ⟨z, v_seed, rfl, rfl, r_seed⟩ := rel
      have st := st.trans stt
      have r_cells := r_cells.mono stt.gr
      refine zs_retN st.ok (zn_lst (za_cons (ze_var 1 rfl r_cells) (za_cons ze_int (za_cons ze_int (za_cons ze_int (za_cons (ze_var 2 rfl r_seed) za_nil)))))) fun p2 us2 F6 H6 hp2 s6 r6 => ?_
      obtain ⟨c, us2, rfl, rc, r6⟩ := r6.cons_inv
      obtain ⟨i1, us2, rfl, q1, r6⟩ := r6.cons_inv
      obtain ⟨i2, us2, rfl, q2, r6⟩ := r6.cons_inv
      obtain ⟨i3, us2, rfl, q3, r6⟩ := r6.cons_inv
      obtain ⟨i4, us2, rfl, q4, r6⟩ := r6.cons_inv
      obtain rfl := r6.nil_inv
      obtain rfl := q1.int_inv
      obtain rfl := q2.int_inv
      obtain rfl := q3.int_inv
      obtain rfl := q4.int_inv
      exact q p2 c F6 H6 (st.newAt hp2) (st.trans s6) rc


/-! _law_take -/
abbrev s_take : Stmt := topS 6
theorem sc_take : FnScope ["store", "many", "step", "digit", "cell"] ["store", "many"] (defScope s_take) := ⟨rfl, rfl, rfl, by decide +kernel, rfl, by decide +kernel, by decide +kernel⟩
def big18 : Int := (10 : Int) ^ (18 : Int).toNat
def take (cs : List Int) (s : Sto) (many : Int) : Int × Sto :=
  cond (decide (many < 2)) (0, { s with step := s.step + 1 })
    (cond (decide (many ≤ (s.dig : Int))) ((s.dig : Int) % many, { s with step := s.step + 1, dig := ((s.dig : Int) / many).toNat })
      (cond (decide ((cs.length : Int) ≤ (s.ix : Int))) (mix s.seed s.step % many, { s with step := s.step + 1, dig := 0 })
        (cond (decide (((ixL cs s.ix).natAbs : Int) < big18)) (mix (ixL cs s.ix) s.step % many, { s with step := s.step + 1, dig := 0, ix := s.ix + 1 })
          (((ixL cs s.ix).natAbs : Int) % many, { s with step := s.step + 1, dig := (((ixL cs s.ix).natAbs : Int) / many).toNat, ix := s.ix + 1 }))))
theorem take_range (cs : List Int) (s : Sto) (many : Int) : 0 ≤ (take cs s many).1 ∧ ((take cs s many).1 < many ∨ (take cs s many).1 = 0) := by
  unfold take
  by_cases h : many < 2
  · rw [cond_t (decide_eq_true h)]; exact ⟨Int.le_refl _, .inr rfl⟩
  · have hm : 0 < many := by omega
    rw [cond_f (decide_eq_false h)]
    have g : ∀ x : Int, 0 ≤ x % many ∧ (x % many < many ∨ x % many = 0) := fun x => ⟨Int.emod_nonneg _ (by omega), .inl (Int.emod_lt_of_pos _ hm)⟩
    cases (decide (many ≤ (s.dig : Int))) with
    | true => exact g _
    | false =>
      cases (decide ((cs.length : Int) ≤ (s.ix : Int))) with
      | true => exact g _
      | false =>
        cases (decide (((ixL cs s.ix).natAbs : Int) < big18)) with
        | true => exact g _
        | false => exact g _
theorem take_lt {cs : List Int} {s : Sto} {many : Int} (h : 1 ≤ many) : 0 ≤ (take cs s many).1 ∧ (take cs s many).1 < many := by
  have := take_range cs s many
  omega
def A_take : List Int → Sto → List PyData → PyData → Sto → Prop := fun cs s ds r s' => ∃ (many : Int), ds = [eI many] ∧ (many < 2 ^ 64) ∧ r = eI (take cs s many).1 ∧ s' = (take cs s many).2
set_option maxHeartbeats 4000000 in
theorem ok_take {P : Program} {w : World} {K : PySem.W.Frag} {mg : Str → Option Value} {base : Heap} (T : Top K mg) : Fn P w K mg base 2 "_law_take" ["store", "many"] (spS K A_take) := by
  obtain ⟨f, fd, F, gm⟩ := T.f_take
  have sc := sc_take
  refine ⟨f, fd, F.ok sc (fun vs H Q E h => ?_) (fun cdv A outer s0 H vs Q E hr h => ⟨_, PSs.nox pss_w, ?_⟩), gm, F.kp, F.bindsN (fun _ _ _ _ _ _ us hl => match us, hl with | [_, _], _ => rfl)⟩
  · obtain ⟨F, a, c, cs, s, ws, ds, r, s', rfl, w, rc, ra, ⟨many, rfl, hpre, rfl, rfl⟩, q⟩ := h
    have h := ra.len
    show ws.length + 1 = 2
    rw [h]; rfl
  · obtain ⟨F, a, c, cs, s, ws, ds, r, s', rfl, w, rc, ra, ⟨many, rfl, hpre, rfl, rfl⟩, q⟩ := h
    obtain ⟨v_many, ws, rfl, r_many, ra⟩ := ra.cons_inv
    obtain rfl := ra.nil_inv
    have st := Stp.refl w
    show ZS _ _ [some (.ref a), some v_many, none, none, none] H _
    -- step = store[3]
    refine zs_set (n := 2) st.ok (ze_ixO 0 0 rfl ze_int rfl (sto_ra rc) atI_3) sc.nd rfl (Or.inl rfl) fun v_step F1 H1 s1 r_step => ?_
    have st := st.trans s1
    have rc := rc.mono s1.gr
    have r_many := r_many.mono s1.gr
    show ZS _ _ [some (.ref a), some v_many, some v_step, none, none] H1 _
    -- store[3] = step + 1
    refine zs_setItem (q := 3) st.ok 0 0 rfl (ze_add (ze_var 2 rfl r_step) ze_int) ze_int rfl rfl fun v F2 H2 s2 r2 => ?_
    obtain rfl := r2.int_inv
    have s2 : Stp _ _ _ F2 [stoO a c { s with step := s.step + 1 }] H2 := s2
    have st := st.trans s2
    have rc := rc.mono s2.gr
    have r_many := r_many.mono s2.gr
    have r_step := r_step.mono s2.gr
    -- if many < 2
    refine zs_if st.ok (zt_cm cm_lt (ze_var 1 rfl r_many) ze_int) (fun hb F3 H3 s3 => ?_) (fun hb F3 H3 s3 => ?_)
    · have hf : take cs s many = (0, { s with step := s.step + 1 }) := cond_t hb
      have st := st.trans s3
      refine zs_ret st.ok ze_int fun v F4 H4 s4 r4 => ?_
      exact q v F4 H4 (by rw [hf]; exact st.trans s4) (by rw [hf]; exact r4)
    have hf := cond_f (α := Int × Sto) hb (a := (0, { s with step := s.step + 1 })) (b := (cond (decide (many ≤ (s.dig : Int))) ((s.dig : Int) % many, { s with step := s.step + 1, dig := ((s.dig : Int) / many).toNat })
      (cond (decide ((cs.length : Int) ≤ (s.ix : Int))) (mix s.seed s.step % many, { s with step := s.step + 1, dig := 0 })
        (cond (decide (((ixL cs s.ix).natAbs : Int) < big18)) (mix (ixL cs s.ix) s.step % many, { s with step := s.step + 1, dig := 0, ix := s.ix + 1 })
          (((ixL cs s.ix).natAbs : Int) % many, { s with step := s.step + 1, dig := (((ixL cs s.ix).natAbs : Int) / many).toNat, ix := s.ix + 1 })))))
    have hf : take cs s many = _ := hf
    have hm : 2 ≤ many := by have : ¬ (many < 2) := of_decide_eq_false hb; omega
    have st := st.trans s3
    have rc := rc.mono s3.gr
    have r_many := r_many.mono s3.gr
    have r_step := r_step.mono s3.gr
    refine zs_nil ?_
    show ZS _ _ [some (.ref a), some v_many, some v_step, none, none] H3 _
    -- if store[2] >= many
    refine zs_if st.ok (zt_cm cm_ge (ze_ixO 0 0 rfl ze_int rfl (sto_ra rc) atI_2) (ze_var 1 rfl r_many)) (fun hb2 F4 H4 s4 => ?_) (fun hb2 F4 H4 s4 => ?_)
    · have hf := hf.trans (cond_t hb2)
      have st := st.trans s4
      have rc := rc.mono s4.gr
      have r_many := r_many.mono s4.gr
      refine zs_set (n := 3) st.ok (ze_mod (ze_intI T.b_int (ze_ixO 0 0 rfl ze_int rfl (sto_ra rc) atI_2)) (ze_var 1 rfl r_many) (by omega)) sc.nd rfl (Or.inl rfl) fun v_digit F5 H5 s5 r_digit => ?_
      have st := st.trans s5
      have rc := rc.mono s5.gr
      have r_many := r_many.mono s5.gr
      show ZS _ _ [some (.ref a), some v_many, some v_step, some v_digit, none] H5 _
      refine zs_setItem (q := 2) st.ok 0 0 rfl (ze_fdivW (ze_ixO 0 0 rfl ze_int rfl (sto_ra rc) atI_2) (ze_var 1 rfl r_many) (by omega) (by omega)) ze_int rfl rfl fun v F6 H6 s6 r6 => ?_
      have hd : ((s.dig : Int) / many) = ((((s.dig : Int) / many).toNat : Nat) : Int) := (Int.toNat_of_nonneg (Int.ediv_nonneg (by omega) (by omega))).symm
      have r6 : R K F6 v (eI ((((s.dig : Int) / many).toNat : Nat) : Int)) := by rw [← hd]; exact r6
      obtain rfl := r6.int_inv
      have s6 : Stp _ _ _ F6 [stoO a c { s with step := s.step + 1, dig := ((s.dig : Int) / many).toNat }] H6 := s6
      have st := st.trans s6
      refine zs_ret st.ok (ze_var 3 rfl (r_digit.mono s6.gr)) fun v F7 H7 s7 r7 => ?_
      exact q v F7 H7 (by rw [hf]; exact st.trans s7) (by rw [hf]; exact r7)
    have hf := hf.trans (cond_f hb2)
    have st := st.trans s4
    have rc := rc.mono s4.gr
    have r_many := r_many.mono s4.gr
    have r_step := r_step.mono s4.gr
    refine zs_nil ?_
    show ZS _ _ [some (.ref a), some v_many, some v_step, none, none] H4 _
    -- store[2] = 0
    refine zs_setItem (q := 2) st.ok 0 0 rfl ze_int ze_int rfl rfl fun v F5 H5 s5 r5 => ?_
    obtain rfl := r5.int_inv
    have s5 : Stp _ _ _ F5 [stoO a c { s with step := s.step + 1, dig := 0 }] H5 := s5
    have st := st.trans s5
    have rc := rc.mono s5.gr
    have r_many := r_many.mono s5.gr
    have r_step := r_step.mono s5.gr
    -- if store[1] >= len(store[0])
    refine zs_if st.ok (zt_cm cm_ge (ze_ixO 0 0 rfl ze_int rfl (sto_ra rc) atI_1) (ze_lenLt T.b_len (ze_ixO 0 0 rfl ze_int rfl (sto_ra rc) atI_0))) (fun hb3 F6 H6 s6 => ?_) (fun hb3 F6 H6 s6 => ?_)
    · have hf := hf.trans (cond_t hb3)
      have st := st.trans s6
      have rc := rc.mono s6.gr
      have r_many := r_many.mono s6.gr
      have r_step := r_step.mono s6.gr
      refine zs_ret st.ok (ze_mod (ze_intI T.b_int (ze_callD (ok_mix T) (hr.mono (by decide)) (za_cons (ze_ixO 0 0 rfl ze_int rfl (sto_ra rc) atI_4) (za_cons (ze_var 2 rfl r_step) za_nil)) ⟨_, _, rfl, rfl⟩)) (ze_var 1 rfl r_many) (by omega)) fun v F7 H7 s7 r7 => ?_
      exact q v F7 H7 (by rw [hf]; exact st.trans s7) (by rw [hf]; exact r7)
    have hf := hf.trans (cond_f hb3)
    have hix : -(cs.length : Int) ≤ (s.ix : Int) ∧ (s.ix : Int) < (cs.length : Int) := by have : ¬ ((cs.length : Int) ≤ (s.ix : Int)) := of_decide_eq_false hb3; omega
    have st := st.trans s6
    have rc := rc.mono s6.gr
    have r_many := r_many.mono s6.gr
    have r_step := r_step.mono s6.gr
    refine zs_nil ?_
    show ZS _ _ [some (.ref a), some v_many, some v_step, none, none] H6 _
    -- cell = store[0][store[1]]
    refine zs_set (n := 4) st.ok (ze_ixLt (enc := eI) (xs := cs) (ze_ixO 0 0 rfl ze_int rfl (sto_ra rc) atI_0) (ze_ixO 0 0 rfl ze_int rfl (sto_ra rc) atI_1) hix) sc.nd rfl (Or.inl rfl) fun v_cell F7 H7 s7 r_cell => ?_
    have st := st.trans s7
    have rc := rc.mono s7.gr
    have r_many := r_many.mono s7.gr
    have r_step := r_step.mono s7.gr
    show ZS _ _ [some (.ref a), some v_many, some v_step, none, some v_cell] H7 _
    -- store[1] = store[1] + 1
    refine zs_setItem (q := 1) st.ok 0 0 rfl (ze_add (ze_ixO 0 0 rfl ze_int rfl (sto_ra rc) atI_1) ze_int) ze_int rfl rfl fun v F8 H8 s8 r8 => ?_
    obtain rfl := r8.int_inv
    have s8 : Stp _ _ _ F8 [stoO a c { s with step := s.step + 1, dig := 0, ix := s.ix + 1 }] H8 := s8
    have st := st.trans s8
    have rc := rc.mono s8.gr
    have r_many := r_many.mono s8.gr
    have r_step := r_step.mono s8.gr
    have r_cell := r_cell.mono s8.gr
    refine zs_if st.ok (zt_cm cm_lt (ze_abs T.b_abs (ze_var 4 rfl r_cell)) (ze_pow ze_int ze_int ⟨by decide, by decide, by decide⟩)) (fun hb4 F9 H9 s9 => ?_) (fun hb4 F9 H9 s9 => ?_)
    · have hf := hf.trans (cond_t hb4)
      have st := st.trans s9
      have r_many := r_many.mono s9.gr
      have r_step := r_step.mono s9.gr
      have r_cell := r_cell.mono s9.gr
      refine zs_ret st.ok (ze_mod (ze_intI T.b_int (ze_callD (ok_mix T) (hr.mono (by decide)) (za_cons (ze_var 4 rfl r_cell) (za_cons (ze_var 2 rfl r_step) za_nil)) ⟨_, _, rfl, rfl⟩)) (ze_var 1 rfl r_many) (by omega)) fun v Fa Ha sa ra => ?_
      exact q v Fa Ha (by rw [hf]; exact st.trans sa) (by rw [hf]; exact ra)
    have hf := hf.trans (cond_f hb4)
    have st := st.trans s9
    have rc := rc.mono s9.gr
    have r_many := r_many.mono s9.gr
    have r_cell := r_cell.mono s9.gr
    refine zs_nil ?_
    show ZS _ _ [some (.ref a), some v_many, some v_step, none, some v_cell] H9 _
    refine zs_setItem (q := 2) st.ok 0 0 rfl (ze_fdivW (ze_abs T.b_abs (ze_var 4 rfl r_cell)) (ze_var 1 rfl r_many) (by omega) (by omega)) ze_int rfl rfl fun v Fa Ha sa ra => ?_
    have hd : (((ixL cs s.ix).natAbs : Int) / many) = (((((ixL cs s.ix).natAbs : Int) / many).toNat : Nat) : Int) := (Int.toNat_of_nonneg (Int.ediv_nonneg (by omega) (by omega))).symm
    have ra : R K Fa v (eI (((((ixL cs s.ix).natAbs : Int) / many).toNat : Nat) : Int)) := by rw [← hd]; exact ra
    obtain rfl := ra.int_inv
    have sa : Stp _ _ _ Fa [stoO a c { s with step := s.step + 1, dig := (((ixL cs s.ix).natAbs : Int) / many).toNat, ix := s.ix + 1 }] Ha := sa
    have st := st.trans sa
    refine zs_ret st.ok (ze_mod (ze_abs T.b_abs (ze_var 4 rfl (r_cell.mono sa.gr))) (ze_var 1 rfl (r_many.mono sa.gr)) (by omega)) fun v Fb Hb sb rb => ?_
    exact q v Fb Hb (by rw [hf]; exact st.trans sb) (by rw [hf]; exact rb)

/-! _law_odds -/
abbrev s_odds : Stmt := topS 7
theorem sc_odds : FnScope ["store", "many"] ["store", "many"] (defScope s_odds) := ⟨rfl, rfl, rfl, by decide +kernel, rfl, by decide +kernel, by decide +kernel⟩
def odds (cs : List Int) (s : Sto) (many : Int) : Bool × Sto :=
  (decide ((take cs s many).1 = (0 : Int)), (take cs s many).2)
def A_odds : List Int → Sto → List PyData → PyData → Sto → Prop := fun cs s ds r s' => ∃ (many : Int), ds = [eI many] ∧ (many < 2 ^ 64) ∧ r = eB (odds cs s many).1 ∧ s' = (odds cs s many).2
set_option maxHeartbeats 4000000 in
theorem ok_odds {P : Program} {w : World} {K : PySem.W.Frag} {mg : Str → Option Value} {base : Heap} (T : Top K mg) : Fn P w K mg base 3 "_law_odds" ["store", "many"] (spS K A_odds) := by
  obtain ⟨f, fd, F, gm⟩ := T.f_odds
  have sc := sc_odds
  refine ⟨f, fd, F.ok sc (fun vs H Q E h => ?_) (fun cdv A outer s0 H vs Q E hr h => ⟨_, PSs.nox pss_w, ?_⟩), gm, F.kp, F.bindsN (fun _ _ _ _ _ _ us hl => match us, hl with | [_, _], _ => rfl)⟩
  · obtain ⟨F, a_st, c_st, cs, s, ws, ds, r, s', rfl, w, rc, ra, ⟨many, rfl, hpre, rfl, rfl⟩, q⟩ := h
    have h := ra.len
    show ws.length + 1 = 2
    rw [h]; rfl
  · obtain ⟨F, a_st, c_st, cs, s, ws, ds, r, s', rfl, w, r_st, ra, ⟨many, rfl, hpre, rfl, rfl⟩, q⟩ := h
    obtain ⟨v_many, ws, rfl, r_many, ra⟩ := ra.cons_inv
    obtain rfl := ra.nil_inv
    have st := Stp.refl w
    have hf : odds cs s many = odds cs s many := rfl
    show ZS _ _ [some (.ref a_st), some v_many] H _
    refine zs_ret st.ok (ze_cm cm_eqI (ze_callS 0 0 (ok_take T) (hr.mono (by decide)) rfl r_st (za_cons (ze_var 1 rfl r_many) za_nil) rfl ⟨many, rfl, (by /-1-/ first | omega | (simp only [List.length_append, List.length_cons, List.length_nil, List.length_map, rangeI_length]; omega)), rfl, rfl⟩) ze_int) fun v F_2 H_2 s_2 r_2 => ?_
    exact q v F_2 H_2 (by rw [hf]; exact (st.trans s_2)) (by rw [hf]; exact r_2)
/-! _law_number -/
abbrev s_number : Stmt := topS 8
theorem sc_number : FnScope ["store", "low", "high"] ["store", "low", "high"] (defScope s_number) := ⟨rfl, rfl, rfl, by decide +kernel, rfl, by decide +kernel, by decide +kernel⟩
def number_1 (cs : List Int) (low : Int) (high : Int) (s_5 : Sto) : Int × Sto :=
  ((ixL ([low, high, (low + (1 : Int)), (high - (1 : Int))] : List Int) ((take cs s_5 (4 : Int)).1)), (take cs s_5 (4 : Int)).2)
def number_2 (cs : List Int) (low : Int) (high : Int) (s_7 : Sto) : Int × Sto :=
  ((low + (take cs s_7 ((high - low) + (1 : Int))).1), (take cs s_7 ((high - low) + (1 : Int))).2)
def number (cs : List Int) (s : Sto) (low : Int) (high : Int) : Int × Sto :=
  (cond (decide (high ≤ low)) (low, s) (cond ((odds cs s (3 : Int)).1) (number_1 cs low high ((odds cs s (3 : Int)).2)) (number_2 cs low high ((odds cs s (3 : Int)).2))))
def A_number : List Int → Sto → List PyData → PyData → Sto → Prop := fun cs s ds r s' => ∃ (low : Int) (high : Int), ds = [eI low, eI high] ∧ (high - low < 2 ^ 63) ∧ r = eI (number cs s low high).1 ∧ s' = (number cs s low high).2
set_option maxHeartbeats 4000000 in
theorem ok_number {P : Program} {w : World} {K : PySem.W.Frag} {mg : Str → Option Value} {base : Heap} (T : Top K mg) : Fn P w K mg base 4 "_law_number" ["store", "low", "high"] (spS K A_number) := by
  obtain ⟨f, fd, F, gm⟩ := T.f_number
  have sc := sc_number
  refine ⟨f, fd, F.ok sc (fun vs H Q E h => ?_) (fun cdv A outer s0 H vs Q E hr h => ⟨_, PSs.nox pss_w, ?_⟩), gm, F.kp, F.bindsN (fun _ _ _ _ _ _ us hl => match us, hl with | [_, _, _], _ => rfl)⟩
  · obtain ⟨F, a_st, c_st, cs, s, ws, ds, r, s', rfl, w, rc, ra, ⟨low, high, rfl, hpre, rfl, rfl⟩, q⟩ := h
    have h := ra.len
    show ws.length + 1 = 3
    rw [h]; rfl
  · obtain ⟨F, a_st, c_st, cs, s, ws, ds, r, s', rfl, w, r_st, ra, ⟨low, high, rfl, hpre, rfl, rfl⟩, q⟩ := h
    obtain ⟨v_low, ws, rfl, r_low, ra⟩ := ra.cons_inv
    obtain ⟨v_high, ws, rfl, r_high, ra⟩ := ra.cons_inv
    obtain rfl := ra.nil_inv
    have st := Stp.refl w
    have hf : number cs s low high = number cs s low high := rfl
    show ZS _ _ [some (.ref a_st), some v_low, some v_high] H _
    refine zs_if st.ok (zt_cm cm_le (ze_var 2 rfl r_high) (ze_var 1 rfl r_low)) (fun hb F_2 H_2 s_2 => ?_) (fun hb F_2 H_2 s_2 => ?_)
    · have s_2 : Stp F [stoO a_st c_st s] H F_2 [stoO a_st c_st s] H_2 := by exact s_2
      have st := st.trans s_2
      have r_low := r_low.mono s_2.gr
      have r_high := r_high.mono s_2.gr
      have r_st := r_st.mono s_2.gr
      have hf := hf.trans (cond_t hb)
      refine zs_ret st.ok (ze_var 1 rfl r_low) fun v F_3 H_3 s_3 r_2 => ?_
      exact q v F_3 H_3 (by rw [hf]; exact (st.trans s_3)) (by rw [hf]; exact r_2)
    · have s_2 : Stp F [stoO a_st c_st s] H F_2 [stoO a_st c_st s] H_2 := by exact s_2
      have st := st.trans s_2
      have r_low := r_low.mono s_2.gr
      have r_high := r_high.mono s_2.gr
      have r_st := r_st.mono s_2.gr
      have hf := hf.trans (cond_f hb)
      refine zs_nil ?_
      show ZS _ _ [some (.ref a_st), some v_low, some v_high] H_2 _
      refine zs_if st.ok (zt_val (ze_callS 0 0 (ok_odds T) (hr.mono (by decide)) rfl r_st (za_cons ze_int za_nil) rfl ⟨(3 : Int), rfl, (by /-1-/ first | omega | (simp only [List.length_append, List.length_cons, List.length_nil, List.length_map, rangeI_length]; omega)), rfl, rfl⟩)) (fun hb_2 F_4 H_4 s_4 => ?_) (fun hb_2 F_4 H_4 s_4 => ?_)
      · obtain ⟨s_5, hx_s_5⟩ : ∃ z : Sto, z = (odds cs s (3 : Int)).2 := ⟨_, rfl⟩
        have s_4 : Stp F_2 [stoO a_st c_st s] H_2 F_4 [stoO a_st c_st s_5] H_4 := by subst hx_s_5; exact s_4
        have st := st.trans s_4
        have r_low := r_low.mono s_4.gr
        have r_high := r_high.mono s_4.gr
        have r_st := r_st.mono s_4.gr
        have hf := hf.trans (cond_t hb_2)
        have hf : number cs s low high = number_1 cs low high s_5 := by subst hx_s_5; exact hf
        have htk := take_lt (cs := cs) (s := s_5) (many := 4) (by decide)
        refine zs_ret st.ok (ze_ixLt (enc := eI) (zn_ze (zn_lstt (enc := eI) (xs := ([low, high, (low + (1 : Int)), (high - (1 : Int))] : List Int)) (za_cons (ze_var 1 rfl r_low) (za_cons (ze_var 2 rfl r_high) (za_cons (ze_add (ze_var 1 rfl r_low) ze_int) (za_cons (ze_sub (ze_var 2 rfl r_high) ze_int) za_nil)))))) (ze_callS 0 0 (ok_take T) (hr.mono (by decide)) rfl r_st (za_cons ze_int za_nil) rfl ⟨(4 : Int), rfl, (by /-2-/ first | omega | (simp only [List.length_append, List.length_cons, List.length_nil, List.length_map, rangeI_length]; omega)), rfl, rfl⟩) (by /-3-/ first | omega | (simp only [List.length_append, List.length_cons, List.length_nil, List.length_map, rangeI_length]; omega))) fun v_2 F_5 H_5 s_6 r_3 => ?_
        exact q v_2 F_5 H_5 (by rw [hf]; exact (st.trans s_6)) (by rw [hf]; exact r_3)
      · obtain ⟨s_7, hx_s_7⟩ : ∃ z : Sto, z = (odds cs s (3 : Int)).2 := ⟨_, rfl⟩
        have s_4 : Stp F_2 [stoO a_st c_st s] H_2 F_4 [stoO a_st c_st s_7] H_4 := by subst hx_s_7; exact s_4
        have st := st.trans s_4
        have r_low := r_low.mono s_4.gr
        have r_high := r_high.mono s_4.gr
        have r_st := r_st.mono s_4.gr
        have hf := hf.trans (cond_f hb_2)
        have hf : number cs s low high = number_2 cs low high s_7 := by subst hx_s_7; exact hf
        refine zs_nil ?_
        show ZS _ _ [some (.ref a_st), some v_low, some v_high] H_4 _
        refine zs_ret st.ok (ze_add (ze_var 1 rfl r_low) (ze_callS 0 0 (ok_take T) (hr.mono (by decide)) rfl r_st (za_cons (ze_add (ze_sub (ze_var 2 rfl r_high) (ze_var 1 rfl r_low)) ze_int) za_nil) rfl ⟨((high - low) + (1 : Int)), rfl, (by /-4-/ first | omega | (simp only [List.length_append, List.length_cons, List.length_nil, List.length_map, rangeI_length]; omega)), rfl, rfl⟩)) fun v_3 F_6 H_6 s_8 r_4 => ?_
        exact q v_3 F_6 H_6 (by rw [hf]; exact (st.trans s_8)) (by rw [hf]; exact r_4)

theorem number_range (cs : List Int) (s : Sto) (low high : Int) (h : low ≤ high) : low ≤ (number cs s low high).1 ∧ (number cs s low high).1 ≤ high := by
  unfold number
  by_cases h1 : high ≤ low
  · rw [cond_t (decide_eq_true h1)]; exact ⟨Int.le_refl _, by omega⟩
  · rw [cond_f (decide_eq_false h1)]
    cases hb : (odds cs s 3).1 with
    | true =>
      have ht := take_lt (cs := cs) (s := (odds cs s 3).2) (many := 4) (by decide)
      have hm := ixL_mem (xs := [low, high, low + 1, high - 1]) (i := (take cs (odds cs s 3).2 4).1) (by simp only [List.length_cons, List.length_nil]; omega)
      show low ≤ (ixL [low, high, low + 1, high - 1] (take cs (odds cs s 3).2 4).1) ∧ (ixL [low, high, low + 1, high - 1] (take cs (odds cs s 3).2 4).1) ≤ high
      simp only [List.mem_cons, List.not_mem_nil, or_false] at hm
      omega
    | false =>
      have ht := take_lt (cs := cs) (s := (odds cs s 3).2) (many := high - low + 1) (by omega)
      show low ≤ low + (take cs (odds cs s 3).2 (high - low + 1)).1 ∧ low + (take cs (odds cs s 3).2 (high - low + 1)).1 ≤ high
      omega


/-! _law_same -/
abbrev s_same : Stmt := topS 13
theorem sc_same : FnScope ["told", "due", "pairs", "step", "one", "two", "k"] ["told", "due"] (defScope s_same) := ⟨rfl, rfl, rfl, by decide +kernel, rfl, by decide +kernel, by decide +kernel⟩
def A_same : List PyData → PyData → Prop := fun ds r => ∃ d, ds = [d, d] ∧ dsz d ≤ 199999 ∧ r = .bool true
theorem len_dszL : ∀ xs : List PyData, xs.length ≤ dszL xs
  | [] => Nat.le_refl _
  | x :: xs => by
    have h1 := dsz_pos x
    have h2 := len_dszL xs
    simp only [dszL, List.length_cons]; omega
theorem dszL_one (d : PyData) : dszL [d] = dsz d := by simp [dszL]
theorem range_at {n : Int} {i : Nat} {d : PyData} (h : ((rangeI 0 n).map PyData.int)[i]? = some d) : d = .int (i : Nat) ∧ i < n.toNat := by
  rw [List.getElem?_map] at h
  unfold rangeI at h
  rw [List.getElem?_map] at h
  cases z : (List.range (n - 0).toNat)[i]? with
  | none => rw [z] at h; cases h
  | some j =>
    rw [z] at h
    obtain ⟨hl, hj⟩ := List.getElem?_eq_some_iff.mp z
    rw [List.getElem_range] at hj
    subst hj
    have h : PyData.int (0 + (i : Nat)) = d := Option.some.inj h
    rw [← h, Int.zero_add]
    rw [List.length_range] at hl
    exact ⟨rfl, by omega⟩
theorem ra_snoc {K : PySem.W.Frag} {F : Hp} {vs : List V} {ds : List PyData} {d : PyData} (h : RA K F vs (ds ++ [d])) : ∃ us v, vs = us ++ [v] ∧ RA K F us ds ∧ R K F v d := by
  have hl := h.len
  rw [List.length_append] at hl
  rcases List.eq_nil_or_concat vs with rfl | ⟨us, v, e⟩
  · simp at hl
  · rw [List.concat_eq_append] at e
    subst e
    rw [List.length_append] at hl
    have hl2 : us.length = ds.length := by simpa using hl
    refine ⟨us, v, rfl, ⟨hl2, fun i w e a b => ?_⟩, ?_⟩
    · have hi := (List.getElem?_eq_some_iff.mp a).1
      exact h.at_ i w e (by rw [List.getElem?_append_left hi]; exact a) (by rw [List.getElem?_append_left (by omega)]; exact b)
    · refine h.at_ us.length v d ?_ ?_
      · rw [List.getElem?_append_right (Nat.le_refl _), Nat.sub_self]; rfl
      · rw [hl2, List.getElem?_append_right (Nat.le_refl _), Nat.sub_self]; rfl
set_option maxHeartbeats 16000000 in
theorem ok_same {P : Program} {w : World} {K : PySem.W.Frag} {mg : Str → Option Value} {base : Heap} (T : Top K mg) : Fn P w K mg base 1 "_law_same" ["told", "due"] (spD K A_same) := by
  obtain ⟨f, fd, F, gm⟩ := T.f_same
  have sc := sc_same
  refine ⟨f, fd, F.ok sc (fun vs H Q E h => ?_) (fun cdv A outer s0 H vs Q E hr h => ⟨_, PSs.nox pss_w, ?_⟩), gm, F.kp, F.bindsN (fun _ _ _ _ _ _ us hl => match us, hl with | [_, _], _ => rfl)⟩
  · obtain ⟨F, ds, r, w, ra, ⟨d, rfl, hd, rfl⟩, q⟩ := h
    exact ra.len
  · obtain ⟨F, ds, r, w, ra, ⟨d, rfl, hd, rfl⟩, q⟩ := h
    obtain ⟨v_told, ws, rfl, r_told, ra⟩ := ra.cons_inv
    obtain ⟨v_due, ws, rfl, r_due, ra⟩ := ra.cons_inv
    obtain rfl := ra.nil_inv
    have st := Stp.refl w
    show ZS _ _ [some v_told, some v_due, none, none, none, none, none] H _
    refine zs_setN (n := 2) st.ok (zn_lst (za_cons (ze_tup (za_cons (ze_var 0 rfl r_told) (za_cons (ze_var 1 rfl r_due) za_nil))) za_nil)) sc.nd rfl (Or.inl rfl) fun p us F1 H1 hp s1 ra => ?_
    have st := st.trans s1
    show ZS _ _ [some v_told, some v_due, some (.ref p), none, none, none, none] H1 _
    refine zs_for st.ok PassesOwn.never rfl (zi_range1 T.b_range ze_int (by decide)) (fun i σ F O => ∃ (z3 z4 z5 z6 : Option V) (us : List V) (L : List PyData), σ = [some v_told, some v_due, some (.ref p), z3, z4, z5, z6] ∧ O = [(p, .lst us)] ∧ RA K F us (L.map fun d => PyData.tuple [d, d]) ∧ dszL L + i ≤ 199999) (fun F1 H1 s1 => ⟨none, none, none, none, us, [d], rfl, rfl, ra.mono s1.gr, by rw [dszL_one]; exact hd⟩) (fun i di v_step σ1 Fa Fb O1 Hb hdi _ rel g stt r_step => ?_) (fun σ1 Fb O1 Hb stt rel => ?_)
    · obtain ⟨z3, z4, z5, z6, us, L, rfl, rfl, ra, hsum⟩ := rel
      have ra := ra.mono g
      have st := st.trans stt
      have sb := Stp.refl stt.ok
      refine zg_name (n := 3) sc.nd rfl (Or.inl rfl) ?_
      show ZS _ _ [some v_told, some v_due, some (.ref p), some v_step, z4, z5, z6] Hb _
      rcases List.eq_nil_or_concat L with rfl | ⟨L, d, e⟩
      · refine zs_ifT st.ok (zt_eq (zt_not (zt_trO 2 0 rfl rfl ra)) rfl) fun F5 H5 s5 => ?_
        have st := st.trans s5
        refine zs_ret st.ok ze_bl fun v F6 H6 s6 r6 => ?_
        exact q v F6 H6 ((st.trans s6).dropAt 0) r6
      · rw [List.concat_eq_append] at e
        subst e
        refine zs_ifF st.ok (zt_eq (zt_not (zt_trO 2 0 rfl rfl ra)) (by simp)) fun F5 H5 s5 => ?_
        have sb := sb.trans s5
        have ra := ra.mono s5.gr
        refine zs_nil ?_
        show ZS _ _ [some v_told, some v_due, some (.ref p), some v_step, z4, z5, z6] H5 _
        rw [List.map_append] at ra
        obtain ⟨us, v, rfl, rb, rv⟩ := ra_snoc ra
        refine zs_asg sb.ok (ze_popO 2 0 rfl rfl rv) fun v6 F6 H6 s6 r6 => ?_
        have s6 : Stp F5 [(p, .lst (us ++ [v]))] H5 F6 [(p, .lst us)] H6 := s6
        have sb := sb.trans s6
        have rb := rb.mono s6.gr
        refine zg_tup2 (n := 4) (m := 5) (F := F6) rfl sc.nd rfl (Or.inl rfl) rfl (Or.inl rfl) r6 sb.ok fun v_one v_two r_one r_two => ?_
        show ZS _ _ [some v_told, some v_due, some (.ref p), some v_step, some v_one, some v_two, z6] H6 _
        clear s6 r6 s5 rv
        cases d with
        | none =>
          refine zs_ifT sb.ok (zt_cm cm_is (ze_var 5 rfl r_two) ze_non) fun Fx Hx sx => ?_
          have sb := sb.trans sx
          have r_one := r_one.mono sx.gr
          have r_two := r_two.mono sx.gr
          have rb := rb.mono sx.gr
          refine zs_ifF sb.ok (zt_cm cm_isnot (ze_var 4 rfl r_one) ze_non) fun Fx Hx sx => ?_
          have sb := sb.trans sx
          have r_one := r_one.mono sx.gr
          have r_two := r_two.mono sx.gr
          have rb := rb.mono sx.gr
          repeat refine zs_nil ?_
          exact ⟨_, _, sb, some v_step, some v_one, some v_two, z6, us, L, rfl, rfl, rb, by rw [dszL_app, dszL_one] at hsum; simp only [dsz] at hsum; omega⟩
        | bool b =>
          refine zs_ifF sb.ok (zt_cm cm_is (ze_var 5 rfl r_two) ze_non) fun Fx Hx sx => ?_
          have sb := sb.trans sx
          have r_one := r_one.mono sx.gr
          have r_two := r_two.mono sx.gr
          have rb := rb.mono sx.gr
          refine zs_ifT sb.ok (zt_val (ze_isi (T := "bool") (k := true) T.b_isinstance T.b_bool (ze_var 5 rfl r_two) (show kitB "bool" "bool" = some true by decide +kernel))) fun Fx Hx sx => ?_
          have sb := sb.trans sx
          have r_one := r_one.mono sx.gr
          have r_two := r_two.mono sx.gr
          have rb := rb.mono sx.gr
          refine zs_ifF sb.ok (zt_eq (zt_w (zw_or (zt_not (zt_val (ze_isi (T := "bool") (k := true) T.b_isinstance T.b_bool (ze_var 4 rfl r_one) (show kitB "bool" "bool" = some true by decide +kernel)))) fun _ => zw_or1 (zt_cm cm_neB (ze_var 4 rfl r_one) (ze_var 5 rfl r_two)))) (by simp)) fun Fx Hx sx => ?_
          have sb := sb.trans sx
          have r_one := r_one.mono sx.gr
          have r_two := r_two.mono sx.gr
          have rb := rb.mono sx.gr
          repeat refine zs_nil ?_
          exact ⟨_, _, sb, some v_step, some v_one, some v_two, z6, us, L, rfl, rfl, rb, by rw [dszL_app, dszL_one] at hsum; simp only [dsz] at hsum; omega⟩
        | int i =>
          refine zs_ifF sb.ok (zt_cm cm_is (ze_var 5 rfl r_two) ze_non) fun Fx Hx sx => ?_
          have sb := sb.trans sx
          have r_one := r_one.mono sx.gr
          have r_two := r_two.mono sx.gr
          have rb := rb.mono sx.gr
          refine zs_ifF sb.ok (zt_val (ze_isi (T := "bool") (k := false) T.b_isinstance T.b_bool (ze_var 5 rfl r_two) (show kitB "int" "bool" = some false by decide +kernel))) fun Fx Hx sx => ?_
          have sb := sb.trans sx
          have r_one := r_one.mono sx.gr
          have r_two := r_two.mono sx.gr
          have rb := rb.mono sx.gr
          refine zs_ifT sb.ok (zt_val (ze_isi (T := "int") (k := true) T.b_isinstance T.b_int (ze_var 5 rfl r_two) (show kitB "int" "int" = some true by decide +kernel))) fun Fx Hx sx => ?_
          have sb := sb.trans sx
          have r_one := r_one.mono sx.gr
          have r_two := r_two.mono sx.gr
          have rb := rb.mono sx.gr
          refine zs_ifF sb.ok (zt_eq (zt_w (zw_or (zt_not (zt_val (ze_isi (T := "int") (k := true) T.b_isinstance T.b_int (ze_var 4 rfl r_one) (show kitB "int" "int" = some true by decide +kernel)))) fun _ => zw_or (zt_val (ze_isi (T := "bool") (k := false) T.b_isinstance T.b_bool (ze_var 4 rfl r_one) (show kitB "int" "bool" = some false by decide +kernel))) fun _ => zw_or1 (zt_cm cm_neI (ze_var 4 rfl r_one) (ze_var 5 rfl r_two)))) (by simp)) fun Fx Hx sx => ?_
          have sb := sb.trans sx
          have r_one := r_one.mono sx.gr
          have r_two := r_two.mono sx.gr
          have rb := rb.mono sx.gr
          repeat refine zs_nil ?_
          exact ⟨_, _, sb, some v_step, some v_one, some v_two, z6, us, L, rfl, rfl, rb, by rw [dszL_app, dszL_one] at hsum; simp only [dsz] at hsum; omega⟩
        | str x =>
          refine zs_ifF sb.ok (zt_cm cm_is (ze_var 5 rfl r_two) ze_non) fun Fx Hx sx => ?_
          have sb := sb.trans sx
          have r_one := r_one.mono sx.gr
          have r_two := r_two.mono sx.gr
          have rb := rb.mono sx.gr
          refine zs_ifF sb.ok (zt_val (ze_isi (T := "bool") (k := false) T.b_isinstance T.b_bool (ze_var 5 rfl r_two) (show kitB "str" "bool" = some false by decide +kernel))) fun Fx Hx sx => ?_
          have sb := sb.trans sx
          have r_one := r_one.mono sx.gr
          have r_two := r_two.mono sx.gr
          have rb := rb.mono sx.gr
          refine zs_ifF sb.ok (zt_val (ze_isi (T := "int") (k := false) T.b_isinstance T.b_int (ze_var 5 rfl r_two) (show kitB "str" "int" = some false by decide +kernel))) fun Fx Hx sx => ?_
          have sb := sb.trans sx
          have r_one := r_one.mono sx.gr
          have r_two := r_two.mono sx.gr
          have rb := rb.mono sx.gr
          refine zs_ifT sb.ok (zt_val (ze_isi (T := "str") (k := true) T.b_isinstance T.b_str (ze_var 5 rfl r_two) (show kitB "str" "str" = some true by decide +kernel))) fun Fx Hx sx => ?_
          have sb := sb.trans sx
          have r_one := r_one.mono sx.gr
          have r_two := r_two.mono sx.gr
          have rb := rb.mono sx.gr
          refine zs_ifF sb.ok (zt_eq (zt_w (zw_or (zt_not (zt_val (ze_isi (T := "str") (k := true) T.b_isinstance T.b_str (ze_var 4 rfl r_one) (show kitB "str" "str" = some true by decide +kernel)))) fun _ => zw_or1 (zt_cm cm_neS (ze_var 4 rfl r_one) (ze_var 5 rfl r_two)))) (by simp)) fun Fx Hx sx => ?_
          have sb := sb.trans sx
          have r_one := r_one.mono sx.gr
          have r_two := r_two.mono sx.gr
          have rb := rb.mono sx.gr
          repeat refine zs_nil ?_
          exact ⟨_, _, sb, some v_step, some v_one, some v_two, z6, us, L, rfl, rfl, rb, by rw [dszL_app, dszL_one] at hsum; simp only [dsz] at hsum; omega⟩
        | list xs =>
          refine zs_ifF sb.ok (zt_cm cm_is (ze_var 5 rfl r_two) ze_non) fun Fx Hx sx => ?_
          have sb := sb.trans sx
          have r_one := r_one.mono sx.gr
          have r_two := r_two.mono sx.gr
          have rb := rb.mono sx.gr
          refine zs_ifF sb.ok (zt_val (ze_isi (T := "bool") (k := false) T.b_isinstance T.b_bool (ze_var 5 rfl r_two) (show kitB "list" "bool" = some false by decide +kernel))) fun Fx Hx sx => ?_
          have sb := sb.trans sx
          have r_one := r_one.mono sx.gr
          have r_two := r_two.mono sx.gr
          have rb := rb.mono sx.gr
          refine zs_ifF sb.ok (zt_val (ze_isi (T := "int") (k := false) T.b_isinstance T.b_int (ze_var 5 rfl r_two) (show kitB "list" "int" = some false by decide +kernel))) fun Fx Hx sx => ?_
          have sb := sb.trans sx
          have r_one := r_one.mono sx.gr
          have r_two := r_two.mono sx.gr
          have rb := rb.mono sx.gr
          refine zs_ifF sb.ok (zt_val (ze_isi (T := "str") (k := false) T.b_isinstance T.b_str (ze_var 5 rfl r_two) (show kitB "list" "str" = some false by decide +kernel))) fun Fx Hx sx => ?_
          have sb := sb.trans sx
          have r_one := r_one.mono sx.gr
          have r_two := r_two.mono sx.gr
          have rb := rb.mono sx.gr
          refine zs_ifF sb.ok (zt_eq (zt_w (zw_and (zt_val (ze_isi (T := "list") (k := true) T.b_isinstance T.b_list (ze_var 5 rfl r_two) (show kitB "list" "list" = some true by decide +kernel))) fun _ => zw_and1 (zt_not (zt_val (ze_isi (T := "list") (k := true) T.b_isinstance T.b_list (ze_var 4 rfl r_one) (show kitB "list" "list" = some true by decide +kernel)))))) (by rfl)) fun Fx Hx sx => ?_
          have sb := sb.trans sx
          have r_one := r_one.mono sx.gr
          have r_two := r_two.mono sx.gr
          have rb := rb.mono sx.gr
          refine zs_nil ?_
          refine zs_ifF sb.ok (zt_eq (zt_w (zw_and (zt_val (ze_isi (T := "tuple") (k := false) T.b_isinstance T.b_tuple (ze_var 5 rfl r_two) (show kitB "list" "tuple" = some false by decide +kernel))) fun _ => zw_and1 (zt_not (zt_val (ze_isi (T := "tuple") (k := false) T.b_isinstance T.b_tuple (ze_var 4 rfl r_one) (show kitB "list" "tuple" = some false by decide +kernel)))))) (by rfl)) fun Fx Hx sx => ?_
          have sb := sb.trans sx
          have r_one := r_one.mono sx.gr
          have r_two := r_two.mono sx.gr
          have rb := rb.mono sx.gr
          refine zs_nil ?_
          refine zs_ifF sb.ok (zt_eq (zt_cm cm_neI (ze_lenL T.b_len (ze_var 4 rfl r_one)) (ze_lenL T.b_len (ze_var 5 rfl r_two))) (by simp)) fun Fx Hx sx => ?_
          have sb := sb.trans sx
          have r_one := r_one.mono sx.gr
          have r_two := r_two.mono sx.gr
          have rb := rb.mono sx.gr
          refine zs_nil ?_
          have hxl : xs.length ≤ 199999 := by rw [dszL_app, dszL_one, dsz_list] at hsum; have := len_dszL xs; omega
          refine zs_for sb.ok PassesOwn.never rfl (zi_range1 T.b_range (ze_lenL T.b_len (ze_var 5 rfl r_two)) (by omega)) (fun j σ F O => ∃ (z6 : Option V) (us : List V), σ = [some v_told, some v_due, some (.ref p), some v_step, some v_one, some v_two, z6] ∧ O = [(p, .lst us)] ∧ RA K F us ((L ++ xs.take j).map fun d => PyData.tuple [d, d])) (fun F1 H1 s1 => ⟨z6, us, rfl, rfl, by rw [List.take_zero, List.append_nil]; exact rb.mono s1.gr⟩) (fun j d x σ1 Fa Fb O1 Hb hd _ rel g stt r => ?_) (fun σ1 Fb O1 Hb stt rel => ?_)
          · obtain ⟨z6, us, rfl, rfl, rb⟩ := rel
            obtain ⟨e, hj⟩ := range_at hd
            subst e
            rw [Int.toNat_natCast] at hj
            have r_one := r_one.mono stt.gr
            have r_two := r_two.mono stt.gr
            have rb := rb.mono g
            have hl := rb.len
            rw [List.length_map, List.length_append, List.length_take] at hl
            have hlt := len_dszL (L ++ [PyData.list xs])
            rw [List.length_append] at hlt
            have hlt : us.length < sizeLine := by rw [← szL]; omega
            refine zg_name (n := 6) sc.nd rfl (Or.inl rfl) ?_
            show ZS _ _ [some v_told, some v_due, some (.ref p), some v_step, some v_one, some v_two, some x] Hb _
            refine zs_append stt.ok 2 0 rfl (ze_tup (za_cons (ze_ixL (ze_var 4 rfl r_one) (ze_var 6 rfl r) (atI_nat (List.getElem?_eq_getElem hj))) (za_cons (ze_ixL (ze_var 5 rfl r_two) (ze_var 6 rfl r) (atI_nat (List.getElem?_eq_getElem hj))) za_nil))) rfl hlt fun v F5 H5 s5 r5 => ?_
            refine zs_nil ?_
            refine ⟨F5, _, s5, some x, us ++ [v], rfl, rfl, ?_⟩
            rw [List.take_add_one, List.getElem?_eq_getElem hj, ← List.append_assoc, List.map_append]
            exact (rb.mono s5.gr).snoc r5
          · obtain ⟨z6, us, rfl, rfl, rb⟩ := rel
            have sb := sb.trans stt
            repeat refine zs_nil ?_
            rw [List.length_map, rangeI_length] at rb
            have e0 : (((xs.length : Nat) : Int) - 0).toNat = xs.length := by omega
            rw [e0, List.take_length] at rb
            exact ⟨_, _, sb, some v_step, some v_one, some v_two, z6, us, L ++ xs, rfl, rfl, rb, by rw [dszL_app, dszL_one, dsz_list] at hsum; rw [dszL_app]; omega⟩
        | tuple xs =>
          refine zs_ifF sb.ok (zt_cm cm_is (ze_var 5 rfl r_two) ze_non) fun Fx Hx sx => ?_
          have sb := sb.trans sx
          have r_one := r_one.mono sx.gr
          have r_two := r_two.mono sx.gr
          have rb := rb.mono sx.gr
          refine zs_ifF sb.ok (zt_val (ze_isi (T := "bool") (k := false) T.b_isinstance T.b_bool (ze_var 5 rfl r_two) (show kitB "tuple" "bool" = some false by decide +kernel))) fun Fx Hx sx => ?_
          have sb := sb.trans sx
          have r_one := r_one.mono sx.gr
          have r_two := r_two.mono sx.gr
          have rb := rb.mono sx.gr
          refine zs_ifF sb.ok (zt_val (ze_isi (T := "int") (k := false) T.b_isinstance T.b_int (ze_var 5 rfl r_two) (show kitB "tuple" "int" = some false by decide +kernel))) fun Fx Hx sx => ?_
          have sb := sb.trans sx
          have r_one := r_one.mono sx.gr
          have r_two := r_two.mono sx.gr
          have rb := rb.mono sx.gr
          refine zs_ifF sb.ok (zt_val (ze_isi (T := "str") (k := false) T.b_isinstance T.b_str (ze_var 5 rfl r_two) (show kitB "tuple" "str" = some false by decide +kernel))) fun Fx Hx sx => ?_
          have sb := sb.trans sx
          have r_one := r_one.mono sx.gr
          have r_two := r_two.mono sx.gr
          have rb := rb.mono sx.gr
          refine zs_ifF sb.ok (zt_eq (zt_w (zw_and (zt_val (ze_isi (T := "list") (k := false) T.b_isinstance T.b_list (ze_var 5 rfl r_two) (show kitB "tuple" "list" = some false by decide +kernel))) fun _ => zw_and1 (zt_not (zt_val (ze_isi (T := "list") (k := false) T.b_isinstance T.b_list (ze_var 4 rfl r_one) (show kitB "tuple" "list" = some false by decide +kernel)))))) (by rfl)) fun Fx Hx sx => ?_
          have sb := sb.trans sx
          have r_one := r_one.mono sx.gr
          have r_two := r_two.mono sx.gr
          have rb := rb.mono sx.gr
          refine zs_nil ?_
          refine zs_ifF sb.ok (zt_eq (zt_w (zw_and (zt_val (ze_isi (T := "tuple") (k := true) T.b_isinstance T.b_tuple (ze_var 5 rfl r_two) (show kitB "tuple" "tuple" = some true by decide +kernel))) fun _ => zw_and1 (zt_not (zt_val (ze_isi (T := "tuple") (k := true) T.b_isinstance T.b_tuple (ze_var 4 rfl r_one) (show kitB "tuple" "tuple" = some true by decide +kernel)))))) (by rfl)) fun Fx Hx sx => ?_
          have sb := sb.trans sx
          have r_one := r_one.mono sx.gr
          have r_two := r_two.mono sx.gr
          have rb := rb.mono sx.gr
          refine zs_nil ?_
          refine zs_ifF sb.ok (zt_eq (zt_cm cm_neI (ze_lenT T.b_len (ze_var 4 rfl r_one)) (ze_lenT T.b_len (ze_var 5 rfl r_two))) (by simp)) fun Fx Hx sx => ?_
          have sb := sb.trans sx
          have r_one := r_one.mono sx.gr
          have r_two := r_two.mono sx.gr
          have rb := rb.mono sx.gr
          refine zs_nil ?_
          have hxl : xs.length ≤ 199999 := by rw [dszL_app, dszL_one, dsz_tuple] at hsum; have := len_dszL xs; omega
          refine zs_for sb.ok PassesOwn.never rfl (zi_range1 T.b_range (ze_lenT T.b_len (ze_var 5 rfl r_two)) (by omega)) (fun j σ F O => ∃ (z6 : Option V) (us : List V), σ = [some v_told, some v_due, some (.ref p), some v_step, some v_one, some v_two, z6] ∧ O = [(p, .lst us)] ∧ RA K F us ((L ++ xs.take j).map fun d => PyData.tuple [d, d])) (fun F1 H1 s1 => ⟨z6, us, rfl, rfl, by rw [List.take_zero, List.append_nil]; exact rb.mono s1.gr⟩) (fun j d x σ1 Fa Fb O1 Hb hd _ rel g stt r => ?_) (fun σ1 Fb O1 Hb stt rel => ?_)
          · obtain ⟨z6, us, rfl, rfl, rb⟩ := rel
            obtain ⟨e, hj⟩ := range_at hd
            subst e
            rw [Int.toNat_natCast] at hj
            have r_one := r_one.mono stt.gr
            have r_two := r_two.mono stt.gr
            have rb := rb.mono g
            have hl := rb.len
            rw [List.length_map, List.length_append, List.length_take] at hl
            have hlt := len_dszL (L ++ [PyData.tuple xs])
            rw [List.length_append] at hlt
            have hlt : us.length < sizeLine := by rw [← szL]; omega
            refine zg_name (n := 6) sc.nd rfl (Or.inl rfl) ?_
            show ZS _ _ [some v_told, some v_due, some (.ref p), some v_step, some v_one, some v_two, some x] Hb _
            refine zs_append stt.ok 2 0 rfl (ze_tup (za_cons (ze_ixT (ze_var 4 rfl r_one) (ze_var 6 rfl r) (atI_nat (List.getElem?_eq_getElem hj))) (za_cons (ze_ixT (ze_var 5 rfl r_two) (ze_var 6 rfl r) (atI_nat (List.getElem?_eq_getElem hj))) za_nil))) rfl hlt fun v F5 H5 s5 r5 => ?_
            refine zs_nil ?_
            refine ⟨F5, _, s5, some x, us ++ [v], rfl, rfl, ?_⟩
            rw [List.take_add_one, List.getElem?_eq_getElem hj, ← List.append_assoc, List.map_append]
            exact (rb.mono s5.gr).snoc r5
          · obtain ⟨z6, us, rfl, rfl, rb⟩ := rel
            have sb := sb.trans stt
            repeat refine zs_nil ?_
            rw [List.length_map, rangeI_length] at rb
            have e0 : (((xs.length : Nat) : Int) - 0).toNat = xs.length := by omega
            rw [e0, List.take_length] at rb
            exact ⟨_, _, sb, some v_step, some v_one, some v_two, z6, us, L ++ xs, rfl, rfl, rb, by rw [dszL_app, dszL_one, dsz_tuple] at hsum; rw [dszL_app]; omega⟩
        | dict kvs => cases r_one
    · obtain ⟨z3, z4, z5, z6, us, L, rfl, rfl, ra, hsum⟩ := rel
      exfalso
      rw [List.length_map, rangeI_length] at hsum
      omega


theorem A_same_of {a b : PyData} (h : b = a) (hs : dsz a ≤ 199999) : A_same [a, b] (.bool true) := ⟨a, by rw [h], hs, rfl⟩

/-! _law_pick -/
abbrev s_pick : Stmt := topS 9
theorem sc_pick : FnScope ["store", "things"] ["store", "things"] (defScope s_pick) := ⟨rfl, rfl, rfl, by decide +kernel, rfl, by decide +kernel, by decide +kernel⟩
def pick (cs : List Int) (s : Sto) (things : (List PyData)) : PyData × Sto :=
  ((ixL things ((take cs s (things.length : Int)).1)), (take cs s (things.length : Int)).2)
def A_pick : List Int → Sto → List PyData → PyData → Sto → Prop := fun cs s ds r s' => ∃ (things : (List PyData)), ds = [(eL (fun d : PyData => d)) things] ∧ (1 ≤ things.length ∧ things.length < 2 ^ 63) ∧ r = (fun d : PyData => d) (pick cs s things).1 ∧ s' = (pick cs s things).2
set_option maxHeartbeats 4000000 in
theorem ok_pick {P : Program} {w : World} {K : PySem.W.Frag} {mg : Str → Option Value} {base : Heap} (T : Top K mg) : Fn P w K mg base 3 "_law_pick" ["store", "things"] (spS K A_pick) := by
  obtain ⟨f, fd, F, gm⟩ := T.f_pick
  have sc := sc_pick
  refine ⟨f, fd, F.ok sc (fun vs H Q E h => ?_) (fun cdv A outer s0 H vs Q E hr h => ⟨_, PSs.nox pss_w, ?_⟩), gm, F.kp, F.bindsN (fun _ _ _ _ _ _ us hl => match us, hl with | [_, _], _ => rfl)⟩
  · obtain ⟨F, a_st, c_st, cs, s, ws, ds, r, s', rfl, w, rc, ra, ⟨things, rfl, hpre, rfl, rfl⟩, q⟩ := h
    have h := ra.len
    show ws.length + 1 = 2
    rw [h]; rfl
  · obtain ⟨F, a_st, c_st, cs, s, ws, ds, r, s', rfl, w, r_st, ra, ⟨things, rfl, hpre, rfl, rfl⟩, q⟩ := h
    obtain ⟨v_things, ws, rfl, r_things, ra⟩ := ra.cons_inv
    obtain rfl := ra.nil_inv
    have st := Stp.refl w
    have hf : pick cs s things = pick cs s things := rfl
    show ZS _ _ [some (.ref a_st), some v_things] H _
    refine zs_ret st.ok (ze_ixLt (enc := (fun d : PyData => d)) (ze_var 1 rfl r_things) (ze_callS 0 0 (ok_take T) (hr.mono (by decide)) rfl r_st (za_cons (ze_lenLt T.b_len (ze_var 1 rfl r_things)) za_nil) rfl ⟨(things.length : Int), rfl, (by /-1-/ first | omega | (simp only [List.length_append, List.length_cons, List.length_nil, List.length_map, rangeI_length]; omega)), rfl, rfl⟩) (by /-2-/ exact ⟨by have := (take_lt (cs := cs) (s := s) (many := (things.length : Int)) (by omega)).1; omega, (take_lt (by omega)).2⟩)) fun v F_2 H_2 s_2 r_2 => ?_
    exact q v F_2 H_2 (by rw [hf]; exact (st.trans s_2)) (by rw [hf]; exact r_2)

def pickT {α : Type} [Inhabited α] (cs : List Int) (s : Sto) (xs : List α) : α × Sto := (ixL xs (take cs s (xs.length : Int)).1, (take cs s (xs.length : Int)).2)
theorem pickT_mem {α : Type} [Inhabited α] {cs : List Int} {s : Sto} {xs : List α} (h : 1 ≤ xs.length) : (pickT cs s xs).1 ∈ xs :=
  ixL_mem ⟨by have := (take_lt (cs := cs) (s := s) (many := (xs.length : Int)) (by omega)).1; omega, (take_lt (by omega)).2⟩
theorem A_pick_of {α : Type} [Inhabited α] {cs : List Int} {s : Sto} {xs : List α} (enc : α → PyData) (h : 1 ≤ xs.length ∧ xs.length < 2 ^ 63) : A_pick cs s [eL enc xs] (enc (pickT cs s xs).1) (pickT cs s xs).2 := by
  have hr : -(xs.length : Int) ≤ (take cs s (xs.length : Int)).1 ∧ (take cs s (xs.length : Int)).1 < xs.length := ⟨by have := (take_lt (cs := cs) (s := s) (many := (xs.length : Int)) (by omega)).1; omega, (take_lt (by omega)).2⟩
  refine ⟨xs.map enc, by rw [eL, eL, List.map_id'], by rw [List.length_map]; exact h, ?_, ?_⟩
  · show enc (ixL xs _) = ixL (xs.map enc) (take cs s ((xs.map enc).length : Int)).1
    rw [List.length_map]
    unfold ixL
    rw [atI_map hr, atI_in hr]; rfl
  · show _ = (take cs s ((xs.map enc).length : Int)).2
    rw [List.length_map]; rfl

/-! _law_hall -/
abbrev s_hallL : Stmt := topS 10
theorem sc_hallL : FnScope ["store", "most", "n"] ["store", "most"] (defScope s_hallL) := ⟨rfl, rfl, rfl, by decide +kernel, rfl, by decide +kernel, by decide +kernel⟩
def hallL_1 (cs : List Int) (n : Int) (s_3 : Sto) : (Str × Int) × Sto :=
  (((pickT cs s_3 ([(Str.ofString "line"), (Str.ofString "round")] : List Str)).1, n), (pickT cs s_3 ([(Str.ofString "line"), (Str.ofString "round")] : List Str)).2)
def hallL (cs : List Int) (s : Sto) (most : Int) : (Str × Int) × Sto :=
  hallL_1 cs ((number cs s (1 : Int) most).1) ((number cs s (1 : Int) most).2)
def A_hallL : List Int → Sto → List PyData → PyData → Sto → Prop := fun cs s ds r s' => ∃ (most : Int), ds = [eI most] ∧ (1 ≤ most ∧ most ≤ 24) ∧ r = (eT2 eS eI) (hallL cs s most).1 ∧ s' = (hallL cs s most).2
set_option maxHeartbeats 4000000 in
theorem ok_hallL {P : Program} {w : World} {K : PySem.W.Frag} {mg : Str → Option Value} {base : Heap} (T : Top K mg) : Fn P w K mg base 5 "_law_hall" ["store", "most"] (spS K A_hallL) := by
  obtain ⟨f, fd, F, gm⟩ := T.f_hallL
  have sc := sc_hallL
  refine ⟨f, fd, F.ok sc (fun vs H Q E h => ?_) (fun cdv A outer s0 H vs Q E hr h => ⟨_, PSs.nox pss_w, ?_⟩), gm, F.kp, F.bindsN (fun _ _ _ _ _ _ us hl => match us, hl with | [_, _], _ => rfl)⟩
  · obtain ⟨F, a_st, c_st, cs, s, ws, ds, r, s', rfl, w, rc, ra, ⟨most, rfl, hpre, rfl, rfl⟩, q⟩ := h
    have h := ra.len
    show ws.length + 1 = 2
    rw [h]; rfl
  · obtain ⟨F, a_st, c_st, cs, s, ws, ds, r, s', rfl, w, r_st, ra, ⟨most, rfl, hpre, rfl, rfl⟩, q⟩ := h
    obtain ⟨v_most, ws, rfl, r_most, ra⟩ := ra.cons_inv
    obtain rfl := ra.nil_inv
    have st := Stp.refl w
    have hf : hallL cs s most = hallL cs s most := rfl
    show ZS _ _ [some (.ref a_st), some v_most, none] H _
    refine zs_set (n := 2) st.ok (ze_callS 0 0 (ok_number T) (hr.mono (by decide)) rfl r_st (za_cons ze_int (za_cons (ze_var 1 rfl r_most) za_nil)) rfl ⟨(1 : Int), most, rfl, (by /-1-/ first | omega | exact hT | exact ⟨hT, hL⟩ | (rw [← szL]; omega) | (simp only [List.length_append, List.length_cons, List.length_nil, List.length_map, rangeI_length, ← szL]; omega)), rfl, rfl⟩) sc.nd rfl (by first | exact Or.inl rfl | exact Or.inr rfl) fun v_n F_2 H_2 s_2 r_n => ?_
    obtain ⟨n, hx_n⟩ : ∃ z : Int, z = (number cs s (1 : Int) most).1 := ⟨_, rfl⟩
    obtain ⟨s_3, hx_s_3⟩ : ∃ z : Sto, z = (number cs s (1 : Int) most).2 := ⟨_, rfl⟩
    have s_2 : Stp F [stoO a_st c_st s] H F_2 [stoO a_st c_st s_3] H_2 := by subst hx_s_3; exact s_2
    have r_n : R K F_2 v_n (eI n) := by subst hx_n; exact r_n
    have st := st.trans s_2
    have r_most := r_most.mono s_2.gr
    have r_st := r_st.mono s_2.gr
    show ZS _ _ [some (.ref a_st), some v_most, some v_n] H_2 _
    have hf : hallL cs s most = hallL_1 cs n s_3 := by subst hx_n; subst hx_s_3; exact hf
    refine zs_ret st.ok (ze_tup (za_cons (ze_callS 0 0 (ok_pick T) (hr.mono (by decide)) rfl r_st (za_cons (zn_ze (zn_lstt (enc := eS) (xs := ([(Str.ofString "line"), (Str.ofString "round")] : List Str)) (za_cons ze_str (za_cons ze_str za_nil)))) za_nil) rfl (A_pick_of eS (by /-2-/ first | omega | exact hT | exact ⟨hT, hL⟩ | (rw [← szL]; omega) | (simp only [List.length_append, List.length_cons, List.length_nil, List.length_map, rangeI_length, ← szL]; omega)))) (za_cons (ze_var 2 rfl r_n) za_nil))) fun v F_3 H_3 s_4 r_2 => ?_
    exact q v F_3 H_3 (by rw [hf]; exact (st.trans s_4)) (by rw [hf]; exact r_2)
theorem hall_ok {cs : List Int} {s : Sto} {most : Int} (h : 1 ≤ most ∧ most ≤ 24) : okT (hallL cs s most).1 := by
  have h1 := number_range cs s 1 most h.1
  have h2 := pickT_mem (cs := cs) (s := (number cs s 1 most).2) (xs := ([(Str.ofString "line"), (Str.ofString "round")] : List Str)) (by simp)
  refine ⟨?_, h1.1, Int.le_trans h1.2 h.2⟩
  simp only [List.mem_cons, List.not_mem_nil, or_false] at h2
  exact h2

/-! _law_stretch -/
abbrev s_stretchL : Stmt := topS 11
theorem sc_stretchL : FnScope ["store", "trade", "n", "first"] ["store", "trade"] (defScope s_stretchL) := ⟨rfl, rfl, rfl, by decide +kernel, rfl, by decide +kernel, by decide +kernel⟩
def stretchL_3 (n : Int) (s_8 : Sto) : (Int × Int) × Sto :=
  (((0 : Int), n), s_8)
def stretchL_4 (cs : List Int) (n : Int) (first : Int) (s_10 : Sto) : (Int × Int) × Sto :=
  ((first, (number cs s_10 (1 : Int) (n - (1 : Int))).1), (number cs s_10 (1 : Int) (n - (1 : Int))).2)
def stretchL_2 (cs : List Int) (trade : (Str × Int)) (n : Int) (first : Int) (s_4 : Sto) : (Int × Int) × Sto :=
  (cond (decide (trade.1 = (Str.ofString "line"))) ((first, (number cs s_4 (1 : Int) (n - first)).1), (number cs s_4 (1 : Int) (n - first)).2) (cond (decide (n = (1 : Int)) || (odds cs s_4 (6 : Int)).1) (stretchL_3 n (if decide (n = (1 : Int)) = true then s_4 else (odds cs s_4 (6 : Int)).2)) (stretchL_4 cs n first (if decide (n = (1 : Int)) = true then s_4 else (odds cs s_4 (6 : Int)).2))))
def stretchL_1 (cs : List Int) (trade : (Str × Int)) (n : Int) (s : Sto) : (Int × Int) × Sto :=
  stretchL_2 cs trade n ((number cs s (0 : Int) (n - (1 : Int))).1) ((number cs s (0 : Int) (n - (1 : Int))).2)
def stretchL (cs : List Int) (s : Sto) (trade : (Str × Int)) : (Int × Int) × Sto :=
  stretchL_1 cs trade trade.2 s
def A_stretchL : List Int → Sto → List PyData → PyData → Sto → Prop := fun cs s ds r s' => ∃ (trade : (Str × Int)), ds = [(eT2 eS eI) trade] ∧ (okT trade) ∧ r = (eT2 eI eI) (stretchL cs s trade).1 ∧ s' = (stretchL cs s trade).2
set_option maxHeartbeats 4000000 in
theorem ok_stretchL {P : Program} {w : World} {K : PySem.W.Frag} {mg : Str → Option Value} {base : Heap} (T : Top K mg) : Fn P w K mg base 5 "_law_stretch" ["store", "trade"] (spS K A_stretchL) := by
  obtain ⟨f, fd, F, gm⟩ := T.f_stretchL
  have sc := sc_stretchL
  refine ⟨f, fd, F.ok sc (fun vs H Q E h => ?_) (fun cdv A outer s0 H vs Q E hr h => ⟨_, PSs.nox pss_w, ?_⟩), gm, F.kp, F.bindsN (fun _ _ _ _ _ _ us hl => match us, hl with | [_, _], _ => rfl)⟩
  · obtain ⟨F, a_st, c_st, cs, s, ws, ds, r, s', rfl, w, rc, ra, ⟨trade, rfl, hpre, rfl, rfl⟩, q⟩ := h
    have h := ra.len
    show ws.length + 1 = 2
    rw [h]; rfl
  · obtain ⟨F, a_st, c_st, cs, s, ws, ds, r, s', rfl, w, r_st, ra, ⟨trade, rfl, hpre, rfl, rfl⟩, q⟩ := h
    obtain ⟨v_trade, ws, rfl, r_trade, ra⟩ := ra.cons_inv
    obtain rfl := ra.nil_inv
    have st := Stp.refl w
    have hT : okT trade := hpre
    obtain ⟨ht1, ht2, ht3⟩ := id hT
    have hf : stretchL cs s trade = stretchL cs s trade := rfl
    show ZS _ _ [some (.ref a_st), some v_trade, none, none] H _
    refine zs_set (n := 2) st.ok (ze_ixT (ze_var 1 rfl r_trade) ze_int atI_1) sc.nd rfl (by first | exact Or.inl rfl | exact Or.inr rfl) fun v_n F_2 H_2 s_2 r_n => ?_
    obtain ⟨n, hx_n⟩ : ∃ z : Int, z = trade.2 := ⟨_, rfl⟩
    have s_2 : Stp F [stoO a_st c_st s] H F_2 [stoO a_st c_st s] H_2 := by exact s_2
    have r_n : R K F_2 v_n (eI n) := by subst hx_n; exact r_n
    have st := st.trans s_2
    have r_trade := r_trade.mono s_2.gr
    have r_st := r_st.mono s_2.gr
    show ZS _ _ [some (.ref a_st), some v_trade, some v_n, none] H_2 _
    have hf : stretchL cs s trade = stretchL_1 cs trade n s := by subst hx_n; exact hf
    refine zs_set (n := 3) st.ok (ze_callS 0 0 (ok_number T) (hr.mono (by decide)) rfl r_st (za_cons ze_int (za_cons (ze_sub (ze_var 2 rfl r_n) ze_int) za_nil)) rfl ⟨(0 : Int), (n - (1 : Int)), rfl, (by /-1-/ first | omega | exact hT | exact ⟨hT, hL⟩ | (rw [← szL]; omega) | (simp only [List.length_append, List.length_cons, List.length_nil, List.length_map, rangeI_length, ← szL]; omega)), rfl, rfl⟩) sc.nd rfl (by first | exact Or.inl rfl | exact Or.inr rfl) fun v_first F_3 H_3 s_3 r_first => ?_
    obtain ⟨first, hx_first⟩ : ∃ z : Int, z = (number cs s (0 : Int) (n - (1 : Int))).1 := ⟨_, rfl⟩
    obtain ⟨s_4, hx_s_4⟩ : ∃ z : Sto, z = (number cs s (0 : Int) (n - (1 : Int))).2 := ⟨_, rfl⟩
    have s_3 : Stp F_2 [stoO a_st c_st s] H_2 F_3 [stoO a_st c_st s_4] H_3 := by subst hx_s_4; exact s_3
    have r_first : R K F_3 v_first (eI first) := by subst hx_first; exact r_first
    have st := st.trans s_3
    have r_trade := r_trade.mono s_3.gr
    have r_st := r_st.mono s_3.gr
    have r_n := r_n.mono s_3.gr
    show ZS _ _ [some (.ref a_st), some v_trade, some v_n, some v_first] H_3 _
    have hf : stretchL cs s trade = stretchL_2 cs trade n first s_4 := by subst hx_first; subst hx_s_4; exact hf
    have hfirst : 0 ≤ first ∧ first ≤ n - 1 := by rw [hx_first]; exact number_range _ _ _ _ (by omega)
    refine zs_if st.ok (zt_cm cm_eqS (ze_ixT (ze_var 1 rfl r_trade) ze_int atI_0) ze_str) (fun hb F_4 H_4 s_5 => ?_) (fun hb F_4 H_4 s_5 => ?_)
    · have s_5 : Stp F_3 [stoO a_st c_st s_4] H_3 F_4 [stoO a_st c_st s_4] H_4 := by exact s_5
      have st := st.trans s_5
      have r_trade := r_trade.mono s_5.gr
      have r_st := r_st.mono s_5.gr
      have r_n := r_n.mono s_5.gr
      have r_first := r_first.mono s_5.gr
      have hf := hf.trans (cond_t hb)
      refine zs_ret st.ok (ze_tup (za_cons (ze_var 3 rfl r_first) (za_cons (ze_callS 0 0 (ok_number T) (hr.mono (by decide)) rfl r_st (za_cons ze_int (za_cons (ze_sub (ze_var 2 rfl r_n) (ze_var 3 rfl r_first)) za_nil)) rfl ⟨(1 : Int), (n - first), rfl, (by /-2-/ first | omega | exact hT | exact ⟨hT, hL⟩ | (rw [← szL]; omega) | (simp only [List.length_append, List.length_cons, List.length_nil, List.length_map, rangeI_length, ← szL]; omega)), rfl, rfl⟩) za_nil))) fun v F_5 H_5 s_6 r_2 => ?_
      exact q v F_5 H_5 (by rw [hf]; exact (st.trans s_6)) (by rw [hf]; exact r_2)
    · have s_5 : Stp F_3 [stoO a_st c_st s_4] H_3 F_4 [stoO a_st c_st s_4] H_4 := by exact s_5
      have st := st.trans s_5
      have r_trade := r_trade.mono s_5.gr
      have r_st := r_st.mono s_5.gr
      have r_n := r_n.mono s_5.gr
      have r_first := r_first.mono s_5.gr
      have hf := hf.trans (cond_f hb)
      refine zs_nil ?_
      show ZS _ _ [some (.ref a_st), some v_trade, some v_n, some v_first] H_4 _
      refine zs_if st.ok (zt_w (zw_orS (fun z => [stoO a_st c_st z]) (zt_cm cm_eqI (ze_var 2 rfl r_n) ze_int) fun hb => (zw_or1 (zt_val (ze_callS 0 0 (ok_odds T) (hr.mono (by decide)) rfl r_st (za_cons ze_int za_nil) rfl ⟨(6 : Int), rfl, (by /-3-/ first | omega | exact hT | exact ⟨hT, hL⟩ | (rw [← szL]; omega) | (simp only [List.length_append, List.length_cons, List.length_nil, List.length_map, rangeI_length, ← szL]; omega)), rfl, rfl⟩))))) (fun hb_2 F_6 H_6 s_7 => ?_) (fun hb_2 F_6 H_6 s_7 => ?_)
      · obtain ⟨s_8, hx_s_8⟩ : ∃ z : Sto, z = (if decide (n = (1 : Int)) = true then s_4 else (odds cs s_4 (6 : Int)).2) := ⟨_, rfl⟩
        have s_7 : Stp F_4 [stoO a_st c_st s_4] H_4 F_6 [stoO a_st c_st s_8] H_6 := by subst hx_s_8; exact s_7
        have st := st.trans s_7
        have r_trade := r_trade.mono s_7.gr
        have r_st := r_st.mono s_7.gr
        have r_n := r_n.mono s_7.gr
        have r_first := r_first.mono s_7.gr
        have hf := hf.trans (cond_t hb_2)
        have hf : stretchL cs s trade = stretchL_3 n s_8 := by subst hx_s_8; exact hf
        refine zs_ret st.ok (ze_tup (za_cons ze_int (za_cons (ze_var 2 rfl r_n) za_nil))) fun v_2 F_7 H_7 s_9 r_3 => ?_
        exact q v_2 F_7 H_7 (by rw [hf]; exact (st.trans s_9)) (by rw [hf]; exact r_3)
      · obtain ⟨s_10, hx_s_10⟩ : ∃ z : Sto, z = (if decide (n = (1 : Int)) = true then s_4 else (odds cs s_4 (6 : Int)).2) := ⟨_, rfl⟩
        have s_7 : Stp F_4 [stoO a_st c_st s_4] H_4 F_6 [stoO a_st c_st s_10] H_6 := by subst hx_s_10; exact s_7
        have st := st.trans s_7
        have r_trade := r_trade.mono s_7.gr
        have r_st := r_st.mono s_7.gr
        have r_n := r_n.mono s_7.gr
        have r_first := r_first.mono s_7.gr
        have hf := hf.trans (cond_f hb_2)
        have hf : stretchL cs s trade = stretchL_4 cs n first s_10 := by subst hx_s_10; exact hf
        refine zs_nil ?_
        show ZS _ _ [some (.ref a_st), some v_trade, some v_n, some v_first] H_6 _
        refine zs_ret st.ok (ze_tup (za_cons (ze_var 3 rfl r_first) (za_cons (ze_callS 0 0 (ok_number T) (hr.mono (by decide)) rfl r_st (za_cons ze_int (za_cons (ze_sub (ze_var 2 rfl r_n) ze_int) za_nil)) rfl ⟨(1 : Int), (n - (1 : Int)), rfl, (by /-4-/ first | omega | exact hT | exact ⟨hT, hL⟩ | (rw [← szL]; omega) | (simp only [List.length_append, List.length_cons, List.length_nil, List.length_map, rangeI_length, ← szL]; omega)), rfl, rfl⟩) za_nil))) fun v_3 F_8 H_8 s_11 r_4 => ?_
        exact q v_3 F_8 H_8 (by rw [hf]; exact (st.trans s_11)) (by rw [hf]; exact r_4)
theorem line_round : Str.ofString "line" ≠ Str.ofString "round" := by decide
theorem stretch_ok {cs : List Int} {s : Sto} {t : Str × Int} (hT : okT t) : okP t (stretchL cs s t).1 := by
  obtain ⟨h1, h2, h3⟩ := hT
  have f := number_range cs s 0 (t.2 - 1) (by omega)
  show okP t (stretchL_2 cs t t.2 (number cs s 0 (t.2 - 1)).1 (number cs s 0 (t.2 - 1)).2).1
  generalize (number cs s 0 (t.2 - 1)).1 = first at f
  generalize (number cs s 0 (t.2 - 1)).2 = s1
  unfold stretchL_2
  by_cases hl : t.1 = Str.ofString "line"
  · rw [cond_t (decide_eq_true hl)]
    have g := number_range cs s1 1 (t.2 - first) (by omega)
    exact ⟨f.1, by show first < t.2; omega, g.1, by show (number cs s1 1 (t.2 - first)).1 ≤ t.2; omega, fun _ => by show first + (number cs s1 1 (t.2 - first)).1 ≤ t.2; omega, fun hr => absurd (hl.symm.trans hr) line_round⟩
  · rw [cond_f (decide_eq_false hl)]
    cases hb : (decide (t.2 = 1) || (odds cs s1 6).1) with
    | true => exact ⟨Int.le_refl _, by show (0 : Int) < t.2; omega, h2, Int.le_refl _, fun h => absurd h hl, fun _ _ => rfl⟩
    | false =>
      have hn : t.2 ≠ 1 := by intro e; rw [decide_eq_true e] at hb; cases hb
      show okP t (first, (number cs (if decide (t.2 = (1 : Int)) = true then s1 else (odds cs s1 (6 : Int)).2) 1 (t.2 - 1)).1)
      have g := number_range cs (if decide (t.2 = (1 : Int)) = true then s1 else (odds cs s1 (6 : Int)).2) 1 (t.2 - 1) (by omega)
      exact ⟨f.1, by show first < t.2; omega, g.1, by show (number cs _ 1 (t.2 - 1)).1 ≤ t.2; omega, fun h => absurd h hl, fun _ (e : (number cs _ 1 (t.2 - 1)).1 = t.2) => by omega⟩
theorem mapS_mem {α β γ : Type} {f : β → α → γ × β} {y : γ} : ∀ {xs : List α} {s : β}, y ∈ (mapS f s xs).1 → ∃ s' x, x ∈ xs ∧ y = (f s' x).1
  | [], s, h => by simp [mapS] at h
  | x :: xs, s, h => by
    have h : y ∈ (f s x).1 :: (mapS f (f s x).2 xs).1 := h
    rcases List.mem_cons.mp h with rfl | h
    · exact ⟨s, x, List.mem_cons_self, rfl⟩
    · obtain ⟨s', z, hz, e⟩ := mapS_mem h
      exact ⟨s', z, List.mem_cons_of_mem _ hz, e⟩
theorem mapS_length {α β γ : Type} {f : β → α → γ × β} : ∀ {xs : List α} {s : β}, (mapS f s xs).1.length = xs.length
  | [], s => rfl
  | x :: xs, s => congrArg Nat.succ (mapS_length (xs := xs) (s := (f s x).2))
theorem range_num {cs : List Int} {s : Sto} {lo hi : Int} (h : lo ≤ hi) (h2 : -16777216 ≤ lo ∧ hi ≤ 16777216) : -16777216 ≤ (number cs s lo hi).1 ∧ (number cs s lo hi).1 ≤ 16777216 := by
  have := number_range cs s lo hi h
  omega
theorem num_le {cs : List Int} {s : Sto} {lo hi : Int} (h : lo ≤ hi) : (rangeI 0 (number cs s lo hi).1).length ≤ hi.toNat := by
  have := number_range cs s lo hi h
  rw [rangeI_length]; omega

/-! _law_is_number -/
abbrev s_is_numberL : Stmt := topS 12
theorem sc_is_numberL : FnScope ["value"] ["value"] (defScope s_is_numberL) := ⟨rfl, rfl, rfl, by decide +kernel, rfl, by decide +kernel, by decide +kernel⟩
def is_numberL (value : Int) : Bool :=
  true
def A_is_numberL : List PyData → PyData → Prop := fun ds r => ∃ (value : Int), ds = [eI value] ∧ r = eB (is_numberL value)
set_option maxHeartbeats 4000000 in
theorem ok_is_numberL {P : Program} {w : World} {K : PySem.W.Frag} {mg : Str → Option Value} {base : Heap} (T : Top K mg) : Fn P w K mg base 1 "_law_is_number" ["value"] (spD K A_is_numberL) := by
  obtain ⟨f, fd, F, gm⟩ := T.f_is_numberL
  have sc := sc_is_numberL
  refine ⟨f, fd, F.ok sc (fun vs H Q E h => ?_) (fun cdv A outer s0 H vs Q E hr h => ⟨_, PSs.nox pss_w, ?_⟩), gm, F.kp, F.bindsN (fun _ _ _ _ _ _ us hl => match us, hl with | [_], _ => rfl)⟩
  · obtain ⟨F, ds, r, w, ra, ⟨value, rfl, rfl⟩, q⟩ := h
    exact ra.len
  · obtain ⟨F, ds, r, w, ra, ⟨value, rfl, rfl⟩, q⟩ := h
    obtain ⟨v_value, ws, rfl, r_value, ra⟩ := ra.cons_inv
    obtain rfl := ra.nil_inv
    have st := Stp.refl w
    have hf : is_numberL value = is_numberL value := rfl
    show ZS _ _ [some v_value] H _
    refine zs_ret st.ok (ze_eqB (k1 := (true && (!false))) (k := true) (ze_and (ze_isi (T := "int") (k := true) T.b_isinstance T.b_int (ze_var 0 rfl r_value) (show kitB "int" "int" = some true by decide +kernel)) fun hb => (ze_one (ze_not (ze_isi (T := "bool") (k := false) T.b_isinstance T.b_bool (ze_var 0 rfl r_value) (show kitB "int" "bool" = some false by decide +kernel))))) (by simp)) fun v F_2 H_2 s_2 r_2 => ?_
    exact q v F_2 H_2 (st.trans s_2) (by rw [hf]; exact r_2)
/-! _law_is_piece -/
abbrev s_is_pieceL : Stmt := topS 14
theorem sc_is_pieceL : FnScope ["trade", "value", "n", "first", "many", "pair"] ["trade", "value"] (defScope s_is_pieceL) := ⟨rfl, rfl, rfl, by decide +kernel, rfl, by decide +kernel, by decide +kernel⟩
def is_pieceL_2 (trade : (Str × Int)) (n : Int) (first : Int) (many : Int) : Bool :=
  (cond (decide (trade.1 = (Str.ofString "line"))) (decide ((0 : Int) ≤ first) && (decide ((1 : Int) ≤ many) && decide ((first + many) ≤ n))) ((decide (first = (0 : Int)) && decide (many = n)) || ((decide ((0 : Int) ≤ first) && decide (first < n)) && (decide ((1 : Int) ≤ many) && decide (many ≤ (n - (1 : Int)))))))
def is_pieceL_1 (trade : (Str × Int)) (first : Int) (many : Int) : Bool :=
  is_pieceL_2 trade trade.2 first many
def is_pieceL (trade : (Str × Int)) (value : (Int × Int)) : Bool :=
  is_pieceL_1 trade value.1 value.2
def A_is_pieceL : List PyData → PyData → Prop := fun ds r => ∃ (trade : (Str × Int)) (value : (Int × Int)), ds = [(eT2 eS eI) trade, (eT2 eI eI) value] ∧ (okT trade) ∧ r = eB (is_pieceL trade value)
set_option maxHeartbeats 4000000 in
theorem ok_is_pieceL {P : Program} {w : World} {K : PySem.W.Frag} {mg : Str → Option Value} {base : Heap} (T : Top K mg) : Fn P w K mg base 2 "_law_is_piece" ["trade", "value"] (spD K A_is_pieceL) := by
  obtain ⟨f, fd, F, gm⟩ := T.f_is_pieceL
  have sc := sc_is_pieceL
  refine ⟨f, fd, F.ok sc (fun vs H Q E h => ?_) (fun cdv A outer s0 H vs Q E hr h => ⟨_, PSs.nox pss_w, ?_⟩), gm, F.kp, F.bindsN (fun _ _ _ _ _ _ us hl => match us, hl with | [_, _], _ => rfl)⟩
  · obtain ⟨F, ds, r, w, ra, ⟨trade, value, rfl, hpre, rfl⟩, q⟩ := h
    exact ra.len
  · obtain ⟨F, ds, r, w, ra, ⟨trade, value, rfl, hpre, rfl⟩, q⟩ := h
    obtain ⟨v_trade, ws, rfl, r_trade, ra⟩ := ra.cons_inv
    obtain ⟨v_value, ws, rfl, r_value, ra⟩ := ra.cons_inv
    obtain rfl := ra.nil_inv
    have st := Stp.refl w
    have hT : okT trade := hpre
    obtain ⟨ht1, ht2, ht3⟩ := id hT
    have hf : is_pieceL trade value = is_pieceL trade value := rfl
    show ZS _ _ [some v_trade, some v_value, none, none, none, none] H _
    refine zs_ifF st.ok (zt_eq (zt_cm cm_eqS (ze_ixT (ze_var 0 rfl r_trade) ze_int atI_0) ze_str) (by rcases ht1 with h | h <;> (rw [h]; decide))) fun F_2 H_2 s_2 => ?_
    have s_2 : Stp F [] H F_2 [] H_2 := by exact s_2
    have st := st.trans s_2
    have r_trade := r_trade.mono s_2.gr
    have r_value := r_value.mono s_2.gr
    refine zs_nil ?_
    show ZS _ _ [some v_trade, some v_value, none, none, none, none] H_2 _
    refine zs_ifF st.ok (zt_eq (zt_cm cm_inTS (ze_ixT (ze_var 0 rfl r_trade) ze_int atI_0) (ze_tupt (enc := eS) (xs := [(Str.ofString "yard"), (Str.ofString "till")]) (za_cons ze_str (za_cons ze_str za_nil)))) (by rcases ht1 with h | h <;> (rw [h]; decide))) fun F_3 H_3 s_3 => ?_
    have s_3 : Stp F_2 [] H_2 F_3 [] H_3 := by exact s_3
    have st := st.trans s_3
    have r_trade := r_trade.mono s_3.gr
    have r_value := r_value.mono s_3.gr
    refine zs_nil ?_
    show ZS _ _ [some v_trade, some v_value, none, none, none, none] H_3 _
    refine zs_ifF st.ok (zt_eq (zt_w (zw_or (zt_not (zt_val (ze_isi (T := "tuple") (k := true) T.b_isinstance T.b_tuple (ze_var 1 rfl r_value) (show kitB "tuple" "tuple" = some true by decide +kernel)))) fun hb => (zw_or1 (zt_cm cm_neI (ze_to (d' := eI 2) (ze_lenT T.b_len (ze_var 1 rfl r_value)) rfl rfl) ze_int)))) (by simp)) fun F_4 H_4 s_4 => ?_
    have s_4 : Stp F_3 [] H_3 F_4 [] H_4 := by exact s_4
    have st := st.trans s_4
    have r_trade := r_trade.mono s_4.gr
    have r_value := r_value.mono s_4.gr
    refine zs_nil ?_
    show ZS _ _ [some v_trade, some v_value, none, none, none, none] H_4 _
    refine zs_asg st.ok (ze_var 1 rfl r_value) fun v F_5 H_5 s_5 r_2 => ?_
    obtain ⟨first, hx_first⟩ : ∃ z : Int, z = value.1 := ⟨_, rfl⟩
    obtain ⟨many, hx_many⟩ : ∃ z : Int, z = value.2 := ⟨_, rfl⟩
    have s_5 : Stp F_4 [] H_4 F_5 [] H_5 := by exact s_5
    have st := st.trans s_5
    have r_trade := r_trade.mono s_5.gr
    have r_value := r_value.mono s_5.gr
    refine zg_tup2 (n := 3) (m := 4) (F := F_5) rfl sc.nd rfl (by first | exact Or.inl rfl | exact Or.inr rfl) rfl (by first | exact Or.inl rfl | exact Or.inr rfl) (show R K F_5 v (.tuple [eI first, eI many]) from by subst hx_first; subst hx_many; exact r_2) st.ok fun v_first v_many r_first r_many => ?_
    show ZS _ _ [some v_trade, some v_value, none, some v_first, some v_many, none] H_5 _
    have hf : is_pieceL trade value = is_pieceL_1 trade first many := by subst hx_first; subst hx_many; exact hf
    refine zs_ifF st.ok (zt_eq (zt_w (zw_or (zt_not (zt_val (ze_callD (ok_is_numberL T) (hr.mono (by decide)) (za_cons (ze_var 3 rfl r_first) za_nil) ⟨first, rfl, rfl⟩))) fun hb => (zw_or1 (zt_not (zt_val (ze_callD (ok_is_numberL T) (hr.mono (by decide)) (za_cons (ze_var 4 rfl r_many) za_nil) ⟨many, rfl, rfl⟩)))))) (by simp [is_numberL])) fun F_6 H_6 s_6 => ?_
    have s_6 : Stp F_5 [] H_5 F_6 [] H_6 := by exact s_6
    have st := st.trans s_6
    have r_trade := r_trade.mono s_6.gr
    have r_value := r_value.mono s_6.gr
    have r_first := r_first.mono s_6.gr
    have r_many := r_many.mono s_6.gr
    refine zs_nil ?_
    show ZS _ _ [some v_trade, some v_value, none, some v_first, some v_many, none] H_6 _
    refine zs_set (n := 2) st.ok (ze_ixT (ze_var 0 rfl r_trade) ze_int atI_1) sc.nd rfl (by first | exact Or.inl rfl | exact Or.inr rfl) fun v_n F_7 H_7 s_7 r_n => ?_
    obtain ⟨n, hx_n⟩ : ∃ z : Int, z = trade.2 := ⟨_, rfl⟩
    have s_7 : Stp F_6 [] H_6 F_7 [] H_7 := by exact s_7
    have r_n : R K F_7 v_n (eI n) := by subst hx_n; exact r_n
    have st := st.trans s_7
    have r_trade := r_trade.mono s_7.gr
    have r_value := r_value.mono s_7.gr
    have r_first := r_first.mono s_7.gr
    have r_many := r_many.mono s_7.gr
    show ZS _ _ [some v_trade, some v_value, some v_n, some v_first, some v_many, none] H_7 _
    have hf : is_pieceL trade value = is_pieceL_2 trade n first many := by subst hx_n; exact hf
    refine zs_if st.ok (zt_cm cm_eqS (ze_ixT (ze_var 0 rfl r_trade) ze_int atI_0) ze_str) (fun hb F_8 H_8 s_8 => ?_) (fun hb F_8 H_8 s_8 => ?_)
    · have s_8 : Stp F_7 [] H_7 F_8 [] H_8 := by exact s_8
      have st := st.trans s_8
      have r_trade := r_trade.mono s_8.gr
      have r_value := r_value.mono s_8.gr
      have r_first := r_first.mono s_8.gr
      have r_many := r_many.mono s_8.gr
      have r_n := r_n.mono s_8.gr
      have hf := hf.trans (cond_t hb)
      refine zs_ret st.ok (ze_and (ze_cm cm_le ze_int (ze_var 3 rfl r_first)) fun hb => (ze_and (ze_cm cm_le ze_int (ze_var 4 rfl r_many)) fun hb => (ze_one (ze_cm cm_le (ze_add (ze_var 3 rfl r_first) (ze_var 4 rfl r_many)) (ze_var 2 rfl r_n))))) fun v_2 F_9 H_9 s_9 r_3 => ?_
      exact q v_2 F_9 H_9 (st.trans s_9) (by rw [hf]; exact r_3)
    · have s_8 : Stp F_7 [] H_7 F_8 [] H_8 := by exact s_8
      have st := st.trans s_8
      have r_trade := r_trade.mono s_8.gr
      have r_value := r_value.mono s_8.gr
      have r_first := r_first.mono s_8.gr
      have r_many := r_many.mono s_8.gr
      have r_n := r_n.mono s_8.gr
      have hf := hf.trans (cond_f hb)
      refine zs_nil ?_
      show ZS _ _ [some v_trade, some v_value, some v_n, some v_first, some v_many, none] H_8 _
      refine zs_ret st.ok (ze_or (ze_and (ze_cm cm_eqI (ze_var 3 rfl r_first) ze_int) fun hb => (ze_one (ze_cm cm_eqI (ze_var 4 rfl r_many) (ze_var 2 rfl r_n)))) fun hb => (ze_one (ze_and (ze_chain cm_le cm_lt ze_int (ze_var 3 rfl r_first) (ze_var 2 rfl r_n)) fun hb => (ze_one (ze_chain cm_le cm_le ze_int (ze_var 4 rfl r_many) (ze_sub (ze_var 2 rfl r_n) ze_int)))))) fun v_3 F_10 H_10 s_10 r_4 => ?_
      exact q v_3 F_10 H_10 (st.trans s_10) (by rw [hf]; exact r_4)
/-! _law_legs -/
abbrev s_legsL : Stmt := topS 15
theorem sc_legsL : FnScope ["trade", "piece", "k"] ["trade", "piece"] (defScope s_legsL) := ⟨rfl, rfl, rfl, by decide +kernel, rfl, by decide +kernel, by decide +kernel⟩
def legsL (trade : (Str × Int)) (piece : (Int × Int)) : (List Int) :=
  ((rangeI 0 piece.2).map (fun a_k : Int => ((piece.1 + a_k) % trade.2)))
def A_legsL : List PyData → PyData → Prop := fun ds r => ∃ (trade : (Str × Int)) (piece : (Int × Int)), ds = [(eT2 eS eI) trade, (eT2 eI eI) piece] ∧ (okT trade ∧ okP trade piece) ∧ r = (eL eI) (legsL trade piece)
set_option maxHeartbeats 4000000 in
theorem ok_legsL {P : Program} {w : World} {K : PySem.W.Frag} {mg : Str → Option Value} {base : Heap} (T : Top K mg) : Fn P w K mg base 1 "_law_legs" ["trade", "piece"] (spD K A_legsL) := by
  obtain ⟨f, fd, F, gm⟩ := T.f_legsL
  have sc := sc_legsL
  refine ⟨f, fd, F.ok sc (fun vs H Q E h => ?_) (fun cdv A outer s0 H vs Q E hr h => ⟨_, PSs.nox pss_w, ?_⟩), gm, F.kp, F.bindsN (fun _ _ _ _ _ _ us hl => match us, hl with | [_, _], _ => rfl)⟩
  · obtain ⟨F, ds, r, w, ra, ⟨trade, piece, rfl, hpre, rfl⟩, q⟩ := h
    exact ra.len
  · obtain ⟨F, ds, r, w, ra, ⟨trade, piece, rfl, hpre, rfl⟩, q⟩ := h
    obtain ⟨v_trade, ws, rfl, r_trade, ra⟩ := ra.cons_inv
    obtain ⟨v_piece, ws, rfl, r_piece, ra⟩ := ra.cons_inv
    obtain rfl := ra.nil_inv
    have st := Stp.refl w
    have hT : okT trade := hpre.1
    obtain ⟨ht1, ht2, ht3⟩ := id hT
    obtain ⟨hp1, hp2, hp3, hp4, hp5, hp6⟩ := id hpre.2
    have hf : legsL trade piece = legsL trade piece := rfl
    show ZS _ _ [some v_trade, some v_piece, none] H _
    refine zs_ret st.ok (zn_ze (zn_lcM (n := 2) (f0 := (fun a_k : Int => ((piece.1 + a_k) % trade.2))) (encR := eI) rfl sc.nd (zi_range1 T.b_range (ze_ixT (ze_var 1 rfl r_piece) ze_int atI_1) (by /-1-/ first | omega | exact hT | exact ⟨hT, hL⟩ | (rw [← szL]; omega) | (simp only [List.length_append, List.length_cons, List.length_nil, List.length_map, rangeI_length, ← szL]; omega))) (fun _ _ _ _ _ a_k v_a_k _ h_a_k g_c r_a_k => (ze_mod (ze_intI T.b_int (ze_add (ze_ixT (ze_var 1 rfl (r_piece.mono g_c)) ze_int atI_0) (ze_var 2 rfl r_a_k))) (ze_ixT (ze_var 0 rfl (r_trade.mono g_c)) ze_int atI_1) (by /-2-/ first | omega | exact hT | exact ⟨hT, hL⟩ | (rw [← szL]; omega) | (simp only [List.length_append, List.length_cons, List.length_nil, List.length_map, rangeI_length, ← szL]; omega)))) (blkOk_by (N := ["trade", "piece", "k"]) (sc := defScope (topS 15)) (by decide +kernel)) (fun _ _ _ _ _ => pg_name (i := 2) sc.nd rfl (Or.inl rfl)))) fun v F_2 H_2 s_2 r_2 => ?_
    exact q v F_2 H_2 (st.trans s_2) (by rw [hf]; exact r_2)
theorem legsL_len (t : Str × Int) (p : Int × Int) : (legsL t p).length = p.2.toNat := by
  unfold legsL
  rw [List.length_map, rangeI_length, Int.sub_zero]
theorem legs_stretch_len {cs : List Int} {s : Sto} {t : Str × Int} (hT : okT t) : (legsL t (stretchL cs s t).1).length ≤ 24 := by
  have h := (stretch_ok (cs := cs) (s := s) hT).2.2.2.1
  have h2 := hT.2.2
  rw [legsL_len]; omega
theorem flat_le {α β : Type} {xs : List α} {f : α → List β} {n : Nat} (h : ∀ x ∈ xs, (f x).length ≤ n) : (xs.flatMap f).length ≤ xs.length * n := by
  induction xs with
  | nil => simp
  | cons x xs ih =>
    rw [List.flatMap_cons, List.length_append, List.length_cons, Nat.succ_mul]
    have := h x List.mem_cons_self
    have := ih fun y hy => h y (List.mem_cons_of_mem _ hy)
    omega
theorem pick224 {cs : List Int} {s : Sto} : (pickT cs s ([(2 : Int), (2 : Int), (4 : Int)] : List Int)).1 ≤ 4 := by
  have h := pickT_mem (cs := cs) (s := s) (xs := ([(2 : Int), (2 : Int), (4 : Int)] : List Int)) (by simp)
  simp only [List.mem_cons, List.not_mem_nil, or_false] at h
  omega

/-! _law_set -/
abbrev s_lset : Stmt := topS 16
theorem sc_lset : FnScope ["store", "trade", "n", "mode", "share", "wanted", "legs", "k", "gone", "leg"] ["store", "trade"] (defScope s_lset) := ⟨rfl, rfl, rfl, by decide +kernel, rfl, by decide +kernel, by decide +kernel⟩
def lset_4 (legs_3 : (List Int)) (s_14 : Sto) : ((List Int) × Sto) :=
  (legs_3, s_14)
def lset_L1b (cs : List Int) (trade : (Str × Int)) (legs_2 : (List Int)) (s_12 : Sto) : ((List Int) × Sto) :=
  lset_4 (legs_2 ++ (legsL trade ((stretchL cs s_12 trade).1))) ((stretchL cs s_12 trade).2)
def lset_L1 (cs : List Int) (trade : (Str × Int)) (b : ((List Int) × Sto)) (a : Int) : ((List Int) × Sto) :=
  lset_L1b cs trade b.1 b.2
def lset_5 (n : Int) (b : ((List Int) × Sto)) : (List Int) × Sto :=
  ((((rangeI 0 n).filter (fun a_leg : Int => decide (a_leg ∈ b.1))).map (fun a_leg : Int => a_leg)), b.2)
def lset_3 (cs : List Int) (trade : (Str × Int)) (n : Int) (legs : (List Int)) (s_4 : Sto) : (List Int) × Sto :=
  (lset_5 n) (List.foldl (lset_L1 cs trade) (legs, (number cs s_4 (1 : Int) (3 : Int)).2) (rangeI 0 ((number cs s_4 (1 : Int) (3 : Int)).1)))
def lset_6 (n : Int) (gone : Int) (s_21 : Sto) : (List Int) × Sto :=
  ((((rangeI 0 n).filter (fun a_leg_2 : Int => (!decide (a_leg_2 = gone)))).map (fun a_leg_2 : Int => a_leg_2)), s_21)
def lset_8 (cs : List Int) (n : Int) (share : Int) (wanted : Int) (s_26 : Sto) : (List Int) × Sto :=
  ((runS (genF (fun (z_3 : Sto) (a_leg_3 : Int) => decide ((if decide ((take cs z_3 share).1 = (0 : Int)) then (1 : Int) else 0) = wanted)) (fun (z_3 : Sto) (a_leg_3 : Int) => a_leg_3) (fun (z_3 : Sto) (a_leg_3 : Int) => (take cs z_3 share).2) (fun (z_3 : Sto) (a_leg_3 : Int) => (take cs z_3 share).2)) s_26 (rangeI 0 n)).1, (runS (genF (fun (z_3 : Sto) (a_leg_3 : Int) => decide ((if decide ((take cs z_3 share).1 = (0 : Int)) then (1 : Int) else 0) = wanted)) (fun (z_3 : Sto) (a_leg_3 : Int) => a_leg_3) (fun (z_3 : Sto) (a_leg_3 : Int) => (take cs z_3 share).2) (fun (z_3 : Sto) (a_leg_3 : Int) => (take cs z_3 share).2)) s_26 (rangeI 0 n)).2)
def lset_7 (cs : List Int) (n : Int) (share : Int) (s_24 : Sto) : (List Int) × Sto :=
  lset_8 cs n share ((take cs s_24 (2 : Int)).1) ((take cs s_24 (2 : Int)).2)
def lset_2 (cs : List Int) (trade : (Str × Int)) (n : Int) (mode : Int) (s_4 : Sto) : (List Int) × Sto :=
  (cond (decide (mode = (0 : Int))) ((rangeI 0 n), s_4) (cond (decide (mode = (1 : Int))) (([] : List Int), s_4) (cond (decide (mode < (4 : Int))) (lset_3 cs trade n ([] : List Int) s_4) (cond (decide (mode = (4 : Int))) (lset_6 n ((take cs s_4 n).1) ((take cs s_4 n).2)) (lset_7 cs n ((pickT cs s_4 ([(2 : Int), (2 : Int), (4 : Int)] : List Int)).1) ((pickT cs s_4 ([(2 : Int), (2 : Int), (4 : Int)] : List Int)).2))))))
def lset_1 (cs : List Int) (trade : (Str × Int)) (n : Int) (s : Sto) : (List Int) × Sto :=
  lset_2 cs trade n ((take cs s (8 : Int)).1) ((take cs s (8 : Int)).2)
def lset (cs : List Int) (s : Sto) (trade : (Str × Int)) : (List Int) × Sto :=
  lset_1 cs trade trade.2 s
def A_lset : List Int → Sto → List PyData → PyData → Sto → Prop := fun cs s ds r s' => ∃ (trade : (Str × Int)), ds = [(eT2 eS eI) trade] ∧ (okT trade) ∧ r = (eL eI) (lset cs s trade).1 ∧ s' = (lset cs s trade).2
set_option maxHeartbeats 4000000 in
theorem ok_lset {P : Program} {w : World} {K : PySem.W.Frag} {mg : Str → Option Value} {base : Heap} (T : Top K mg) : Fn P w K mg base 6 "_law_set" ["store", "trade"] (spS K A_lset) := by
  obtain ⟨f, fd, F, gm⟩ := T.f_lset
  have sc := sc_lset
  refine ⟨f, fd, F.ok sc (fun vs H Q E h => ?_) (fun cdv A outer s0 H vs Q E hr h => ⟨_, PSs.nox pss_w, ?_⟩), gm, F.kp, F.bindsN (fun _ _ _ _ _ _ us hl => match us, hl with | [_, _], _ => rfl)⟩
  · obtain ⟨F, a_st, c_st, cs, s, ws, ds, r, s', rfl, w, rc, ra, ⟨trade, rfl, hpre, rfl, rfl⟩, q⟩ := h
    have h := ra.len
    show ws.length + 1 = 2
    rw [h]; rfl
  · obtain ⟨F, a_st, c_st, cs, s, ws, ds, r, s', rfl, w, r_st, ra, ⟨trade, rfl, hpre, rfl, rfl⟩, q⟩ := h
    obtain ⟨v_trade, ws, rfl, r_trade, ra⟩ := ra.cons_inv
    obtain rfl := ra.nil_inv
    have st := Stp.refl w
    have hT : okT trade := hpre
    obtain ⟨ht1, ht2, ht3⟩ := id hT
    have hf : lset cs s trade = lset cs s trade := rfl
    show ZS _ _ [some (.ref a_st), some v_trade, none, none, none, none, none, none, none, none] H _
    refine zs_set (n := 2) st.ok (ze_ixT (ze_var 1 rfl r_trade) ze_int atI_1) sc.nd rfl (by first | exact Or.inl rfl | exact Or.inr rfl) fun v_n F_2 H_2 s_2 r_n => ?_
    obtain ⟨n, hx_n⟩ : ∃ z : Int, z = trade.2 := ⟨_, rfl⟩
    have s_2 : Stp F [stoO a_st c_st s] H F_2 [stoO a_st c_st s] H_2 := by exact s_2
    have r_n : R K F_2 v_n (eI n) := by subst hx_n; exact r_n
    have st := st.trans s_2
    have r_trade := r_trade.mono s_2.gr
    have r_st := r_st.mono s_2.gr
    show ZS _ _ [some (.ref a_st), some v_trade, some v_n, none, none, none, none, none, none, none] H_2 _
    have hf : lset cs s trade = lset_1 cs trade n s := by subst hx_n; exact hf
    refine zs_set (n := 3) st.ok (ze_callS 0 0 (ok_take T) (hr.mono (by decide)) rfl r_st (za_cons ze_int za_nil) rfl ⟨(8 : Int), rfl, (by /-1-/ first | omega | exact hT | exact ⟨hT, hL⟩ | (rw [← szL]; omega) | (simp only [List.length_append, List.length_cons, List.length_nil, List.length_map, rangeI_length, ← szL]; omega)), rfl, rfl⟩) sc.nd rfl (by first | exact Or.inl rfl | exact Or.inr rfl) fun v_mode F_3 H_3 s_3 r_mode => ?_
    obtain ⟨mode, hx_mode⟩ : ∃ z : Int, z = (take cs s (8 : Int)).1 := ⟨_, rfl⟩
    obtain ⟨s_4, hx_s_4⟩ : ∃ z : Sto, z = (take cs s (8 : Int)).2 := ⟨_, rfl⟩
    have s_3 : Stp F_2 [stoO a_st c_st s] H_2 F_3 [stoO a_st c_st s_4] H_3 := by subst hx_s_4; exact s_3
    have r_mode : R K F_3 v_mode (eI mode) := by subst hx_mode; exact r_mode
    have st := st.trans s_3
    have r_trade := r_trade.mono s_3.gr
    have r_st := r_st.mono s_3.gr
    have r_n := r_n.mono s_3.gr
    show ZS _ _ [some (.ref a_st), some v_trade, some v_n, some v_mode, none, none, none, none, none, none] H_3 _
    have hf : lset cs s trade = lset_2 cs trade n mode s_4 := by subst hx_mode; subst hx_s_4; exact hf
    refine zs_if st.ok (zt_cm cm_eqI (ze_var 3 rfl r_mode) ze_int) (fun hb F_4 H_4 s_5 => ?_) (fun hb F_4 H_4 s_5 => ?_)
    · have s_5 : Stp F_3 [stoO a_st c_st s_4] H_3 F_4 [stoO a_st c_st s_4] H_4 := by exact s_5
      have st := st.trans s_5
      have r_trade := r_trade.mono s_5.gr
      have r_st := r_st.mono s_5.gr
      have r_n := r_n.mono s_5.gr
      have r_mode := r_mode.mono s_5.gr
      have hf := hf.trans (cond_t hb)
      refine zs_ret st.ok (zn_ze (zn_lr1 rfl T.b_list T.b_range (ze_var 2 rfl r_n) (by /-2-/ first | omega | exact hT | exact ⟨hT, hL⟩ | (rw [← szL]; omega) | (simp only [List.length_append, List.length_cons, List.length_nil, List.length_map, rangeI_length, ← szL]; omega)))) fun v F_5 H_5 s_6 r_2 => ?_
      exact q v F_5 H_5 (by rw [hf]; exact (st.trans s_6)) (by rw [hf]; exact r_2)
    · have s_5 : Stp F_3 [stoO a_st c_st s_4] H_3 F_4 [stoO a_st c_st s_4] H_4 := by exact s_5
      have st := st.trans s_5
      have r_trade := r_trade.mono s_5.gr
      have r_st := r_st.mono s_5.gr
      have r_n := r_n.mono s_5.gr
      have r_mode := r_mode.mono s_5.gr
      have hf := hf.trans (cond_f hb)
      refine zs_nil ?_
      show ZS _ _ [some (.ref a_st), some v_trade, some v_n, some v_mode, none, none, none, none, none, none] H_4 _
      refine zs_if st.ok (zt_cm cm_eqI (ze_var 3 rfl r_mode) ze_int) (fun hb_2 F_6 H_6 s_7 => ?_) (fun hb_2 F_6 H_6 s_7 => ?_)
      · have s_7 : Stp F_4 [stoO a_st c_st s_4] H_4 F_6 [stoO a_st c_st s_4] H_6 := by exact s_7
        have st := st.trans s_7
        have r_trade := r_trade.mono s_7.gr
        have r_st := r_st.mono s_7.gr
        have r_n := r_n.mono s_7.gr
        have r_mode := r_mode.mono s_7.gr
        have hf := hf.trans (cond_t hb_2)
        refine zs_ret st.ok (zn_ze (zn_lstt (enc := eI) (xs := ([] : List Int)) za_nil)) fun v_2 F_7 H_7 s_8 r_3 => ?_
        exact q v_2 F_7 H_7 (by rw [hf]; exact (st.trans s_8)) (by rw [hf]; exact r_3)
      · have s_7 : Stp F_4 [stoO a_st c_st s_4] H_4 F_6 [stoO a_st c_st s_4] H_6 := by exact s_7
        have st := st.trans s_7
        have r_trade := r_trade.mono s_7.gr
        have r_st := r_st.mono s_7.gr
        have r_n := r_n.mono s_7.gr
        have r_mode := r_mode.mono s_7.gr
        have hf := hf.trans (cond_f hb_2)
        refine zs_nil ?_
        show ZS _ _ [some (.ref a_st), some v_trade, some v_n, some v_mode, none, none, none, none, none, none] H_6 _
        refine zs_if st.ok (zt_cm cm_lt (ze_var 3 rfl r_mode) ze_int) (fun hb_3 F_8 H_8 s_9 => ?_) (fun hb_3 F_8 H_8 s_9 => ?_)
        · have s_9 : Stp F_6 [stoO a_st c_st s_4] H_6 F_8 [stoO a_st c_st s_4] H_8 := by exact s_9
          have st := st.trans s_9
          have r_trade := r_trade.mono s_9.gr
          have r_st := r_st.mono s_9.gr
          have r_n := r_n.mono s_9.gr
          have r_mode := r_mode.mono s_9.gr
          have hf := hf.trans (cond_t hb_3)
          refine zs_setN (n := 6) st.ok (zn_lstt (enc := eI) (xs := ([] : List Int)) za_nil) sc.nd rfl (by first | exact Or.inl rfl | exact Or.inr rfl) fun p_legs us_legs F_9 H_9 hp_2 s_10 r_legs => ?_
          obtain ⟨legs, hx_legs⟩ : ∃ z : (List Int), z = ([] : List Int) := ⟨_, rfl⟩
          have hn := st.newAt hp_2
          have s_10 : Stp F_8 [stoO a_st c_st s_4] H_8 F_9 [(p_legs, .lst us_legs), stoO a_st c_st s_4] H_9 := by exact s_10
          have r_legs : RA K F_9 us_legs (legs.map eI) := by subst hx_legs; exact r_legs
          have st := st.trans s_10
          have r_trade := r_trade.mono s_10.gr
          have r_st := r_st.mono s_10.gr
          have r_n := r_n.mono s_10.gr
          have r_mode := r_mode.mono s_10.gr
          have gz : Gr F_9 (upd F_9 p_legs (.lst us_legs)) := Gr.upd (st.ok.at_ (k := 0) rfl).2
          have r_legs_2 : R K (upd F_9 p_legs (.lst us_legs)) (.ref p_legs) (eL eI legs) := (r_legs.mono gz).lst upd_same
          have st : Stp _ _ _ (upd F_9 p_legs (.lst us_legs)) [stoO a_st c_st s_4] H_9 := st.freezeAt 0 rfl hn
          have r_trade := r_trade.mono gz
          have r_st := r_st.mono gz
          have r_n := r_n.mono gz
          have r_mode := r_mode.mono gz
          show ZS _ _ [some (.ref a_st), some v_trade, some v_n, some v_mode, none, none, some (.ref p_legs), none, none, none] H_9 _
          have hf : lset cs s trade = lset_3 cs trade n legs s_4 := by subst hx_legs; exact hf
          refine zs_forF (f := (lset_L1 cs trade)) (b0 := (legs, (number cs s_4 (1 : Int) (3 : Int)).2)) st.ok PassesOwn.never rfl (zi_range1 T.b_range (ze_callS 0 0 (ok_number T) (hr.mono (by decide)) rfl r_st (za_cons ze_int (za_cons ze_int za_nil)) rfl ⟨(1 : Int), (3 : Int), rfl, (by /-3-/ first | omega | exact hT | exact ⟨hT, hL⟩ | (rw [← szL]; omega) | (simp only [List.length_append, List.length_cons, List.length_nil, List.length_map, rangeI_length, ← szL]; omega)), rfl, rfl⟩) (by /-4-/ exact range_num (by decide) (by decide))) (fun iq b σ F O => ∃ (w1 : V) (z2 : Option V), σ = [some (.ref a_st), some v_trade, some v_n, some v_mode, none, none, some w1, z2, none, none] ∧ O = [stoO a_st c_st b.2] ∧ R K F w1 ((eL eI) b.1) ∧ (b.1.length ≤ 24 * iq)) (fun F_17 H_14 s_18 => ⟨(.ref p_legs), none, rfl, rfl, r_legs_2.mono s_18.gr, by rw [hx_legs]; exact Nat.zero_le _⟩) (fun i b k v_3 σ F_11 F_12 O_2 H_10 ha hbe hz rel g s_11 r_4 => ?_) (fun σ_2 F_15 O_3 H_12 s_16 rel_2 => ?_)
          · skip
            obtain ⟨legs_2, s_12⟩ := b
            obtain ⟨v_legs_2, z_k, rfl, rfl, r_legs_3, hinv⟩ := rel
            have r_legs_3 : R K _ v_legs_2 ((eL eI) legs_2) := r_legs_3
            have st := st.trans s_11
            have r_trade := r_trade.mono s_11.gr
            have r_st := r_st.mono s_11.gr
            have r_n := r_n.mono s_11.gr
            have r_mode := r_mode.mono s_11.gr
            have r_legs_3 := r_legs_3.mono g
            have hinv : legs_2.length ≤ 24 * i := hinv
            have hlt_i := (List.getElem?_eq_some_iff.mp ha).1
            rw [rangeI_length] at hlt_i
            have hat_i := rangeI_at ha
            have sb : Stp F_12 [stoO a_st c_st s_12] H_10 F_12 [stoO a_st c_st s_12] H_10 := Stp.refl st.ok
            have hfb : lset_L1 cs trade (legs_2, s_12) k = lset_L1b cs trade legs_2 s_12 := rfl
            refine zg_name (n := 7) sc.nd rfl (by first | exact Or.inl rfl | exact Or.inr rfl) ?_
            show ZS _ _ [some (.ref a_st), some v_trade, some v_n, some v_mode, none, none, some v_legs_2, some v_3, none, none] H_10 _
            refine zs_setN (n := 6) st.ok (zn_catt (ze_var 6 rfl r_legs_3) (ze_callD (ok_legsL T) (hr.mono (by decide)) (za_cons (ze_var 1 rfl r_trade) (za_cons (ze_callS 0 0 (ok_stretchL T) (hr.mono (by decide)) rfl r_st (za_cons (ze_var 1 rfl r_trade) za_nil) rfl ⟨trade, rfl, (by /-5-/ first | omega | exact hT | exact ⟨hT, hL⟩ | (rw [← szL]; omega) | (simp only [List.length_append, List.length_cons, List.length_nil, List.length_map, rangeI_length, ← szL]; omega)), rfl, rfl⟩) za_nil)) ⟨trade, (stretchL cs s_12 trade).1, rfl, (by /-6-/ exact ⟨hT, stretch_ok hT⟩), rfl⟩) (by /-7-/ rw [← szL]; have h8 := legs_stretch_len (cs := cs) (s := s_12) hT; have h9 := number_range cs s_4 1 3 (by decide); omega)) sc.nd rfl (by first | exact Or.inl rfl | exact Or.inr rfl) fun p_legs_2 us_legs_2 F_13 H_11 hp_3 s_13 r_legs_4 => ?_
            obtain ⟨legs_3, hx_legs_3⟩ : ∃ z : (List Int), z = (legs_2 ++ (legsL trade ((stretchL cs s_12 trade).1))) := ⟨_, rfl⟩
            obtain ⟨s_14, hx_s_14⟩ : ∃ z : Sto, z = (stretchL cs s_12 trade).2 := ⟨_, rfl⟩
            have hn_2 := st.newAt hp_3
            have hn_3 := sb.newAt hp_3
            have s_13 : Stp F_12 [stoO a_st c_st s_12] H_10 F_13 [(p_legs_2, .lst us_legs_2), stoO a_st c_st s_14] H_11 := by subst hx_s_14; exact s_13
            have r_legs_4 : RA K F_13 us_legs_2 (legs_3.map eI) := by subst hx_legs_3; exact r_legs_4
            have st := st.trans s_13
            have sb := sb.trans s_13
            have r_trade := r_trade.mono s_13.gr
            have r_st := r_st.mono s_13.gr
            have r_n := r_n.mono s_13.gr
            have r_mode := r_mode.mono s_13.gr
            have r_4 := r_4.mono s_13.gr
            have gz_2 : Gr F_13 (upd F_13 p_legs_2 (.lst us_legs_2)) := Gr.upd (st.ok.at_ (k := 0) rfl).2
            have r_legs_5 : R K (upd F_13 p_legs_2 (.lst us_legs_2)) (.ref p_legs_2) (eL eI legs_3) := (r_legs_4.mono gz_2).lst upd_same
            have st : Stp _ _ _ (upd F_13 p_legs_2 (.lst us_legs_2)) [stoO a_st c_st s_14] H_11 := st.freezeAt 0 rfl hn_2
            have sb : Stp _ _ _ (upd F_13 p_legs_2 (.lst us_legs_2)) [stoO a_st c_st s_14] H_11 := sb.freezeAt 0 rfl hn_3
            have r_trade := r_trade.mono gz_2
            have r_st := r_st.mono gz_2
            have r_n := r_n.mono gz_2
            have r_mode := r_mode.mono gz_2
            have r_4 := r_4.mono gz_2
            show ZS _ _ [some (.ref a_st), some v_trade, some v_n, some v_mode, none, none, some (.ref p_legs_2), some v_3, none, none] H_11 _
            have hfb : lset_L1 cs trade (legs_2, s_12) k = lset_4 legs_3 s_14 := by subst hx_legs_3; subst hx_s_14; exact hfb
            refine zs_nil ?_
            exact ⟨_, _, sb, by (try rw [hfb]); exact ⟨(.ref p_legs_2), some v_3, rfl, rfl, r_legs_5, (show legs_3.length ≤ 24 * (i + 1) from by rw [hx_legs_3, List.length_append]; have h8 := legs_stretch_len (cs := cs) (s := s_12) hT; omega)⟩⟩
          · skip
            obtain ⟨b_2, hb_4⟩ : ∃ z : ((List Int) × Sto), z = List.foldl (lset_L1 cs trade) (legs, (number cs s_4 (1 : Int) (3 : Int)).2) (rangeI 0 ((number cs s_4 (1 : Int) (3 : Int)).1)) := ⟨_, rfl⟩
            try rw [← hb_4] at rel_2
            obtain ⟨legs_4, s_15⟩ := b_2
            obtain ⟨v_legs_4, z_k_2, rfl, rfl, r_legs_6, hinv_2⟩ := rel_2
            have r_legs_6 : R K _ v_legs_4 ((eL eI) legs_4) := r_legs_6
            have st := st.trans s_16
            have r_trade := r_trade.mono s_16.gr
            have r_st := r_st.mono s_16.gr
            have r_n := r_n.mono s_16.gr
            have r_mode := r_mode.mono s_16.gr
            have hinv_2 : legs_4.length ≤ 24 * (rangeI 0 ((number cs s_4 (1 : Int) (3 : Int)).1)).length := hinv_2
            have hf : lset cs s trade = (lset_5 n) (legs_4, s_15) := by rw [hb_4]; exact hf
            show ZS _ _ [some (.ref a_st), some v_trade, some v_n, some v_mode, none, none, some v_legs_4, z_k_2, none, none] H_12 _
            refine zs_ret st.ok (zn_ze (zn_lcF (n := 9) (f0 := (fun a_leg : Int => a_leg)) (pr := (fun a_leg : Int => decide (a_leg ∈ legs_4))) (encR := eI) rfl sc.nd (zi_range1 T.b_range (ze_var 2 rfl r_n) (by /-8-/ first | omega | exact hT | exact ⟨hT, hL⟩ | (rw [← szL]; omega) | (simp only [List.length_append, List.length_cons, List.length_nil, List.length_map, rangeI_length, ← szL]; omega))) (fun _ _ _ _ _ a_leg v_a_leg _ h_a_leg g_c r_a_leg => (zt_cm cm_inI (ze_var 9 rfl r_a_leg) (ze_var 6 rfl (r_legs_6.mono g_c)))) (fun _ _ _ _ _ a_leg v_a_leg _ h_a_leg hp_c g_c r_a_leg => (ze_var 9 rfl r_a_leg)) (blkOk_by (N := ["store", "trade", "n", "mode", "share", "wanted", "legs", "k", "gone", "leg"]) (sc := defScope (topS 16)) (by decide +kernel)) (fun _ _ _ _ _ => pg_name (i := 9) sc.nd rfl (Or.inl rfl)))) fun v_4 F_16 H_13 s_17 r_5 => ?_
            exact q v_4 F_16 H_13 (by rw [hf]; exact (st.trans s_17)) (by rw [hf]; exact r_5)
        · have s_9 : Stp F_6 [stoO a_st c_st s_4] H_6 F_8 [stoO a_st c_st s_4] H_8 := by exact s_9
          have st := st.trans s_9
          have r_trade := r_trade.mono s_9.gr
          have r_st := r_st.mono s_9.gr
          have r_n := r_n.mono s_9.gr
          have r_mode := r_mode.mono s_9.gr
          have hf := hf.trans (cond_f hb_3)
          refine zs_nil ?_
          show ZS _ _ [some (.ref a_st), some v_trade, some v_n, some v_mode, none, none, none, none, none, none] H_8 _
          refine zs_if st.ok (zt_cm cm_eqI (ze_var 3 rfl r_mode) ze_int) (fun hb_5 F_18 H_15 s_19 => ?_) (fun hb_5 F_18 H_15 s_19 => ?_)
          · have s_19 : Stp F_8 [stoO a_st c_st s_4] H_8 F_18 [stoO a_st c_st s_4] H_15 := by exact s_19
            have st := st.trans s_19
            have r_trade := r_trade.mono s_19.gr
            have r_st := r_st.mono s_19.gr
            have r_n := r_n.mono s_19.gr
            have r_mode := r_mode.mono s_19.gr
            have hf := hf.trans (cond_t hb_5)
            refine zs_set (n := 8) st.ok (ze_callS 0 0 (ok_take T) (hr.mono (by decide)) rfl r_st (za_cons (ze_var 2 rfl r_n) za_nil) rfl ⟨n, rfl, (by /-9-/ first | omega | exact hT | exact ⟨hT, hL⟩ | (rw [← szL]; omega) | (simp only [List.length_append, List.length_cons, List.length_nil, List.length_map, rangeI_length, ← szL]; omega)), rfl, rfl⟩) sc.nd rfl (by first | exact Or.inl rfl | exact Or.inr rfl) fun v_gone F_19 H_16 s_20 r_gone => ?_
            obtain ⟨gone, hx_gone⟩ : ∃ z : Int, z = (take cs s_4 n).1 := ⟨_, rfl⟩
            obtain ⟨s_21, hx_s_21⟩ : ∃ z : Sto, z = (take cs s_4 n).2 := ⟨_, rfl⟩
            have s_20 : Stp F_18 [stoO a_st c_st s_4] H_15 F_19 [stoO a_st c_st s_21] H_16 := by subst hx_s_21; exact s_20
            have r_gone : R K F_19 v_gone (eI gone) := by subst hx_gone; exact r_gone
            have st := st.trans s_20
            have r_trade := r_trade.mono s_20.gr
            have r_st := r_st.mono s_20.gr
            have r_n := r_n.mono s_20.gr
            have r_mode := r_mode.mono s_20.gr
            show ZS _ _ [some (.ref a_st), some v_trade, some v_n, some v_mode, none, none, none, none, some v_gone, none] H_16 _
            have hf : lset cs s trade = lset_6 n gone s_21 := by subst hx_gone; subst hx_s_21; exact hf
            refine zs_ret st.ok (zn_ze (zn_lcF (n := 9) (f0 := (fun a_leg_2 : Int => a_leg_2)) (pr := (fun a_leg_2 : Int => (!decide (a_leg_2 = gone)))) (encR := eI) rfl sc.nd (zi_range1 T.b_range (ze_var 2 rfl r_n) (by /-10-/ first | omega | exact hT | exact ⟨hT, hL⟩ | (rw [← szL]; omega) | (simp only [List.length_append, List.length_cons, List.length_nil, List.length_map, rangeI_length, ← szL]; omega))) (fun _ _ _ _ _ a_leg_2 v_a_leg_2 _ h_a_leg_2 g_c_2 r_a_leg_2 => (zt_cm cm_neI (ze_var 9 rfl r_a_leg_2) (ze_var 8 rfl (r_gone.mono g_c_2)))) (fun _ _ _ _ _ a_leg_2 v_a_leg_2 _ h_a_leg_2 hp_c_2 g_c_2 r_a_leg_2 => (ze_var 9 rfl r_a_leg_2)) (blkOk_by (N := ["store", "trade", "n", "mode", "share", "wanted", "legs", "k", "gone", "leg"]) (sc := defScope (topS 16)) (by decide +kernel)) (fun _ _ _ _ _ => pg_name (i := 9) sc.nd rfl (Or.inl rfl)))) fun v_5 F_20 H_17 s_22 r_6 => ?_
            exact q v_5 F_20 H_17 (by rw [hf]; exact (st.trans s_22)) (by rw [hf]; exact r_6)
          · have s_19 : Stp F_8 [stoO a_st c_st s_4] H_8 F_18 [stoO a_st c_st s_4] H_15 := by exact s_19
            have st := st.trans s_19
            have r_trade := r_trade.mono s_19.gr
            have r_st := r_st.mono s_19.gr
            have r_n := r_n.mono s_19.gr
            have r_mode := r_mode.mono s_19.gr
            have hf := hf.trans (cond_f hb_5)
            refine zs_nil ?_
            show ZS _ _ [some (.ref a_st), some v_trade, some v_n, some v_mode, none, none, none, none, none, none] H_15 _
            refine zs_set (n := 4) st.ok (ze_callS 0 0 (ok_pick T) (hr.mono (by decide)) rfl r_st (za_cons (zn_ze (zn_lstt (enc := eI) (xs := ([(2 : Int), (2 : Int), (4 : Int)] : List Int)) (za_cons ze_int (za_cons ze_int (za_cons ze_int za_nil))))) za_nil) rfl (A_pick_of eI (by /-11-/ first | omega | exact hT | exact ⟨hT, hL⟩ | (rw [← szL]; omega) | (simp only [List.length_append, List.length_cons, List.length_nil, List.length_map, rangeI_length, ← szL]; omega)))) sc.nd rfl (by first | exact Or.inl rfl | exact Or.inr rfl) fun v_share F_21 H_18 s_23 r_share => ?_
            obtain ⟨share, hx_share⟩ : ∃ z : Int, z = (pickT cs s_4 ([(2 : Int), (2 : Int), (4 : Int)] : List Int)).1 := ⟨_, rfl⟩
            obtain ⟨s_24, hx_s_24⟩ : ∃ z : Sto, z = (pickT cs s_4 ([(2 : Int), (2 : Int), (4 : Int)] : List Int)).2 := ⟨_, rfl⟩
            have s_23 : Stp F_18 [stoO a_st c_st s_4] H_15 F_21 [stoO a_st c_st s_24] H_18 := by subst hx_s_24; exact s_23
            have r_share : R K F_21 v_share (eI share) := by subst hx_share; exact r_share
            have st := st.trans s_23
            have r_trade := r_trade.mono s_23.gr
            have r_st := r_st.mono s_23.gr
            have r_n := r_n.mono s_23.gr
            have r_mode := r_mode.mono s_23.gr
            show ZS _ _ [some (.ref a_st), some v_trade, some v_n, some v_mode, some v_share, none, none, none, none, none] H_18 _
            have hf : lset cs s trade = lset_7 cs n share s_24 := by subst hx_share; subst hx_s_24; exact hf
            have hsh : share ≤ 4 := by rw [hx_share]; exact pick224
            refine zs_set (n := 5) st.ok (ze_callS 0 0 (ok_take T) (hr.mono (by decide)) rfl r_st (za_cons ze_int za_nil) rfl ⟨(2 : Int), rfl, (by /-12-/ first | omega | exact hT | exact ⟨hT, hL⟩ | (rw [← szL]; omega) | (simp only [List.length_append, List.length_cons, List.length_nil, List.length_map, rangeI_length, ← szL]; omega)), rfl, rfl⟩) sc.nd rfl (by first | exact Or.inl rfl | exact Or.inr rfl) fun v_wanted F_22 H_19 s_25 r_wanted => ?_
            obtain ⟨wanted, hx_wanted⟩ : ∃ z : Int, z = (take cs s_24 (2 : Int)).1 := ⟨_, rfl⟩
            obtain ⟨s_26, hx_s_26⟩ : ∃ z : Sto, z = (take cs s_24 (2 : Int)).2 := ⟨_, rfl⟩
            have s_25 : Stp F_21 [stoO a_st c_st s_24] H_18 F_22 [stoO a_st c_st s_26] H_19 := by subst hx_s_26; exact s_25
            have r_wanted : R K F_22 v_wanted (eI wanted) := by subst hx_wanted; exact r_wanted
            have st := st.trans s_25
            have r_trade := r_trade.mono s_25.gr
            have r_st := r_st.mono s_25.gr
            have r_n := r_n.mono s_25.gr
            have r_mode := r_mode.mono s_25.gr
            have r_share := r_share.mono s_25.gr
            show ZS _ _ [some (.ref a_st), some v_trade, some v_n, some v_mode, some v_share, some v_wanted, none, none, none, none] H_19 _
            have hf : lset cs s trade = lset_8 cs n share wanted s_26 := by subst hx_wanted; subst hx_s_26; exact hf
            refine zs_ret st.ok (zn_ze (zn_lcXt (own := [("leg", 9)]) (G := (fun z => [stoO a_st c_st z])) (st0 := s_26) (B := (fun (a_leg_3 : Int) (σ2 : L2.St) (F' : Hp) => ∃ (v_leg : V), σ2 = ((wipe [some (.ref a_st), some v_trade, some v_n, some v_mode, some v_share, some v_wanted, none, none, none, none] [9]).set 9 (some v_leg)) ∧ R K F' v_leg (eI a_leg_3))) (f0 := (fun (z_3 : Sto) (a_leg_3 : Int) => a_leg_3)) (pr := (fun (z_3 : Sto) (a_leg_3 : Int) => decide ((if decide ((take cs z_3 share).1 = (0 : Int)) then (1 : Int) else 0) = wanted))) (s1 := (fun (z_3 : Sto) (a_leg_3 : Int) => (take cs z_3 share).2)) (s2 := (fun (z_3 : Sto) (a_leg_3 : Int) => (take cs z_3 share).2)) (encR := eI) rfl sc.nd (zi_range1 T.b_range (ze_var 2 rfl r_n) (by /-13-/ first | omega | exact hT | exact ⟨hT, hL⟩ | (rw [← szL]; omega) | (simp only [List.length_append, List.length_cons, List.length_nil, List.length_map, rangeI_length, ← szL]; omega))) ⟨(fun _ _ _ hBq => by obtain ⟨v_leg, rfl, r_leg⟩ := hBq; rfl), (fun _ _ _ _ hBq gg => by obtain ⟨v_leg, rfl, r_leg⟩ := hBq; exact ⟨v_leg, rfl, r_leg.mono gg⟩), (fun s H0 C cl fp a v F' O' H' Q _ w r k => zg_name (n := 9) sc.nd rfl (by first | exact Or.inl rfl | exact Or.inr rfl) (k _ ⟨v, rfl, r⟩))⟩ (fun _ _ _ _ _ z_3 a_leg_3 _ _ hx_c_3 g_c_3 hBq => by obtain ⟨v_leg, rfl, r_leg⟩ := hBq; exact zt_to (zt_cm cm_eqI (ze_intB T.b_int (ze_cm cm_eqI (ze_callS 0 0 (ok_take T) (hr.mono (by decide)) rfl (r_st.mono g_c_3) (za_cons (ze_var 4 rfl (r_share.mono g_c_3)) za_nil) rfl ⟨share, rfl, (by /-14-/ first | omega | exact hT | exact ⟨hT, hL⟩ | (rw [← szL]; omega) | (simp only [List.length_append, List.length_cons, List.length_nil, List.length_map, rangeI_length, ← szL]; omega)), rfl, rfl⟩) ze_int)) (ze_var 5 rfl (r_wanted.mono g_c_3))) rfl rfl) (fun _ _ _ _ _ z_3 a_leg_3 _ _ hx_c_3 hp_c_3 g_c_3 hBq => by obtain ⟨v_leg, rfl, r_leg⟩ := hBq; exact ze_to (ze_var 9 rfl r_leg) rfl rfl) (blkOk_by (N := ["store", "trade", "n", "mode", "share", "wanted", "legs", "k", "gone", "leg"]) (sc := defScope (topS 16)) (by decide +kernel)))) fun v_6 F_23 H_20 s_27 r_7 => ?_
            exact q v_6 F_23 H_20 (by rw [hf]; exact (st.trans s_27)) (by rw [hf]; exact r_7)
/-! all_stretches -/
abbrev s_all_stretchesP : Stmt := topS 1
theorem sc_all_stretchesP : FnScope ["trade", "found", "shape", "count", "start", "many"] ["trade"] (defScope s_all_stretchesP) := ⟨rfl, rfl, rfl, by decide +kernel, rfl, by decide +kernel, by decide +kernel⟩
def all_stretchesP_2 (found : (List (Int × Int))) (count : Int) : (List (Int × Int)) :=
  (sortP (found ++ ([((0 : Int), count)] : List (Int × Int))))
def all_stretchesP_1 (shape : Str) (count : Int) : (List (Int × Int)) :=
  (cond (decide (shape = (Str.ofString "line"))) ((rangeI 0 count).flatMap fun a_start : Int => ((rangeI (1 : Int) ((count - a_start) + (1 : Int))).map fun a_many : Int => (a_start, a_many))) (all_stretchesP_2 ((rangeI 0 count).flatMap fun a_start_2 : Int => ((rangeI (1 : Int) count).map fun a_many_2 : Int => (a_start_2, a_many_2))) count))
def all_stretchesP (trade : (Str × Int)) : (List (Int × Int)) :=
  all_stretchesP_1 trade.1 trade.2
def A_all_stretchesP : List PyData → List PyData → Prop := fun ds r => ∃ (trade : (Str × Int)), ds = [(eT2 eS eI) trade] ∧ (okT trade) ∧ r = (all_stretchesP trade).map (eT2 eI eI)
set_option maxHeartbeats 4000000 in
theorem ok_all_stretchesP {P : Program} {w : World} {K : PySem.W.Frag} {mg : Str → Option Value} {base : Heap} (T : Top K mg) : Fn P w K mg base 1 "all_stretches" ["trade"] (spN K A_all_stretchesP) := by
  obtain ⟨f, fd, F, gm⟩ := T.f_all_stretchesP
  have sc := sc_all_stretchesP
  refine ⟨f, fd, F.ok sc (fun vs H Q E h => ?_) (fun cdv A outer s0 H vs Q E hr h => ⟨_, PSs.nox pss_w, ?_⟩), gm, F.kp, F.bindsN (fun _ _ _ _ _ _ us hl => match us, hl with | [_], _ => rfl)⟩
  · obtain ⟨F, ds, r, w, ra, ⟨trade, rfl, hpre, rfl⟩, q⟩ := h
    exact ra.len
  · obtain ⟨F, ds, r, w, ra, ⟨trade, rfl, hpre, rfl⟩, q⟩ := h
    obtain ⟨v_trade, ws, rfl, r_trade, ra⟩ := ra.cons_inv
    obtain rfl := ra.nil_inv
    have st := Stp.refl w
    have hT : okT trade := hpre
    obtain ⟨ht1, ht2, ht3⟩ := id hT
    have hf : all_stretchesP trade = all_stretchesP trade := rfl
    show ZS _ _ [some v_trade, none, none, none, none, none] H _
    refine zs_asg st.ok (ze_var 0 rfl r_trade) fun v F_2 H_2 s_2 r_2 => ?_
    obtain ⟨shape, hx_shape⟩ : ∃ z : Str, z = trade.1 := ⟨_, rfl⟩
    obtain ⟨count, hx_count⟩ : ∃ z : Int, z = trade.2 := ⟨_, rfl⟩
    have s_2 : Stp F [] H F_2 [] H_2 := by exact s_2
    have st := st.trans s_2
    have r_trade := r_trade.mono s_2.gr
    refine zg_tup2 (n := 2) (m := 3) (F := F_2) rfl sc.nd rfl (by first | exact Or.inl rfl | exact Or.inr rfl) rfl (by first | exact Or.inl rfl | exact Or.inr rfl) (show R K F_2 v (.tuple [eS shape, eI count]) from by subst hx_shape; subst hx_count; exact r_2) st.ok fun v_shape v_count r_shape r_count => ?_
    show ZS _ _ [some v_trade, none, some v_shape, some v_count, none, none] H_2 _
    have hf : all_stretchesP trade = all_stretchesP_1 shape count := by subst hx_shape; subst hx_count; exact hf
    refine zs_if st.ok (zt_cm cm_eqS (ze_var 2 rfl r_shape) ze_str) (fun hb F_3 H_3 s_3 => ?_) (fun hb F_3 H_3 s_3 => ?_)
    · have s_3 : Stp F_2 [] H_2 F_3 [] H_3 := by exact s_3
      have st := st.trans s_3
      have r_trade := r_trade.mono s_3.gr
      have r_shape := r_shape.mono s_3.gr
      have r_count := r_count.mono s_3.gr
      have hf := hf.trans (cond_t hb)
      refine zs_retN st.ok (zn_lc2n (own := [("start", 4), ("many", 5)]) (vs1 := [5]) (B := (fun (a_start : Int) (σ2 : L2.St) (F' : Hp) => ∃ (v_start : V), σ2 = ((wipe [some v_trade, none, some v_shape, some v_count, none, none] [4, 5]).set 4 (some v_start)) ∧ R K F' v_start (eI a_start))) (B1 := (fun (a_start : Int) (a_many : Int) (σ3 : L2.St) (F' : Hp) => ∃ (v_start : V) (v_many : V), σ3 = ((wipe ((wipe [some v_trade, none, some v_shape, some v_count, none, none] [4, 5]).set 4 (some v_start)) [5]).set 5 (some v_many)) ∧ R K F' v_start (eI a_start) ∧ R K F' v_many (eI a_many))) (ys := (fun a_start : Int => (rangeI (1 : Int) ((count - a_start) + (1 : Int))))) (f0 := (fun (a_start : Int) (a_many : Int) => (a_start, a_many))) (encR := (eT2 eI eI)) rfl sc.nd (zi_range1 T.b_range (ze_var 3 rfl r_count) (by /-1-/ first | omega | exact hT | exact ⟨hT, hL⟩ | (rw [← szL]; omega) | (simp only [List.length_append, List.length_cons, List.length_nil, List.length_map, rangeI_length, ← szL]; omega))) ⟨(fun _ _ _ hBq => by obtain ⟨v_start, rfl, r_start⟩ := hBq; rfl), (fun _ _ _ _ hBq gg => by obtain ⟨v_start, rfl, r_start⟩ := hBq; exact ⟨v_start, rfl, r_start.mono gg⟩), (fun s H0 C cl fp a v F' O' H' Q _ w r k => zg_name (n := 4) sc.nd rfl (by first | exact Or.inl rfl | exact Or.inr rfl) (k _ ⟨v, rfl, r⟩))⟩ (fun _ _ _ _ _ a_start _ _ hx_c g_c hBq => by obtain ⟨v_start, rfl, r_start⟩ := hBq; exact (zi_range2 T.b_range ze_int (ze_add (ze_sub (ze_var 3 rfl (r_count.mono g_c)) (ze_var 4 rfl r_start)) ze_int) (by /-2-/ have h8 := rangeI_mem.mp hx_c; omega))) ⟨(fun _ _ _ _ _ hBq gg => by obtain ⟨v_start, v_many, rfl, r_start, r_many⟩ := hBq; exact ⟨v_start, v_many, rfl, r_start.mono gg, r_many.mono gg⟩), (fun s H0 C cl fp a b v σ2 F' O' H' Q _ _ hBq w r k => by obtain ⟨v_start, rfl, r_start⟩ := hBq; exact zg_name (n := 5) sc.nd rfl (by first | exact Or.inl rfl | exact Or.inr rfl) (k _ rfl ⟨v_start, v, rfl, r_start, r⟩))⟩ (fun _ _ _ _ _ a_start a_many _ _ hx_c hx_cb g_c hBq => by obtain ⟨v_start, v_many, rfl, r_start, r_many⟩ := hBq; exact (ze_tup (za_cons (ze_var 4 rfl r_start) (za_cons (ze_var 5 rfl r_many) za_nil)))) (by /-3-/ rw [← szL]; exact Nat.le_trans (flat_le (n := 24) fun x hx => by rw [List.length_map, rangeI_length]; have := rangeI_mem.mp hx; omega) (by rw [rangeI_length]; omega)) (blkOk_by (N := ["trade", "found", "shape", "count", "start", "many"]) (sc := defScope (topS 1)) (by decide +kernel)) (by decide)) fun v_2 us F_4 H_4 hp_2 s_4 r_3 => ?_
      exact q v_2 us F_4 H_4 (st.newAt hp_2) (st.trans s_4) (by rw [hf]; exact r_3)
    · have s_3 : Stp F_2 [] H_2 F_3 [] H_3 := by exact s_3
      have st := st.trans s_3
      have r_trade := r_trade.mono s_3.gr
      have r_shape := r_shape.mono s_3.gr
      have r_count := r_count.mono s_3.gr
      have hf := hf.trans (cond_f hb)
      refine zs_nil ?_
      show ZS _ _ [some v_trade, none, some v_shape, some v_count, none, none] H_3 _
      refine zs_setLc2n (i0 := 1) (w := st.ok) (own := [("start", 4), ("many", 5)]) (vs1 := [5]) (B := (fun (a_start_2 : Int) (σ2 : L2.St) (F' : Hp) => ∃ (v_start_2 : V), σ2 = ((wipe [some v_trade, none, some v_shape, some v_count, none, none] [4, 5]).set 4 (some v_start_2)) ∧ R K F' v_start_2 (eI a_start_2))) (B1 := (fun (a_start_2 : Int) (a_many_2 : Int) (σ3 : L2.St) (F' : Hp) => ∃ (v_start_2 : V) (v_many_2 : V), σ3 = ((wipe ((wipe [some v_trade, none, some v_shape, some v_count, none, none] [4, 5]).set 4 (some v_start_2)) [5]).set 5 (some v_many_2)) ∧ R K F' v_start_2 (eI a_start_2) ∧ R K F' v_many_2 (eI a_many_2))) (ys := (fun a_start_2 : Int => (rangeI (1 : Int) count))) (f0 := (fun (a_start_2 : Int) (a_many_2 : Int) => (a_start_2, a_many_2))) (encR := (eT2 eI eI)) rfl sc.nd (zi_range1 T.b_range (ze_var 3 rfl r_count) (by /-4-/ first | omega | exact hT | exact ⟨hT, hL⟩ | (rw [← szL]; omega) | (simp only [List.length_append, List.length_cons, List.length_nil, List.length_map, rangeI_length, ← szL]; omega))) ⟨(fun _ _ _ hBq => by obtain ⟨v_start_2, rfl, r_start_2⟩ := hBq; rfl), (fun _ _ _ _ hBq gg => by obtain ⟨v_start_2, rfl, r_start_2⟩ := hBq; exact ⟨v_start_2, rfl, r_start_2.mono gg⟩), (fun s H0 C cl fp a v F' O' H' Q _ w r k => zg_name (n := 4) sc.nd rfl (by first | exact Or.inl rfl | exact Or.inr rfl) (k _ ⟨v, rfl, r⟩))⟩ (fun _ _ _ _ _ a_start_2 _ _ hx_c_2 g_c_2 hBq => by obtain ⟨v_start_2, rfl, r_start_2⟩ := hBq; exact (zi_range2 T.b_range ze_int (ze_var 3 rfl (r_count.mono g_c_2)) (by /-5-/ first | omega | exact hT | exact ⟨hT, hL⟩ | (rw [← szL]; omega) | (simp only [List.length_append, List.length_cons, List.length_nil, List.length_map, rangeI_length, ← szL]; omega)))) ⟨(fun _ _ _ _ _ hBq gg => by obtain ⟨v_start_2, v_many_2, rfl, r_start_2, r_many_2⟩ := hBq; exact ⟨v_start_2, v_many_2, rfl, r_start_2.mono gg, r_many_2.mono gg⟩), (fun s H0 C cl fp a b v σ2 F' O' H' Q _ _ hBq w r k => by obtain ⟨v_start_2, rfl, r_start_2⟩ := hBq; exact zg_name (n := 5) sc.nd rfl (by first | exact Or.inl rfl | exact Or.inr rfl) (k _ rfl ⟨v_start_2, v, rfl, r_start_2, r⟩))⟩ (fun _ _ _ _ _ a_start_2 a_many_2 _ _ hx_c_2 hx_c_2b g_c_2 hBq => by obtain ⟨v_start_2, v_many_2, rfl, r_start_2, r_many_2⟩ := hBq; exact (ze_tup (za_cons (ze_var 4 rfl r_start_2) (za_cons (ze_var 5 rfl r_many_2) za_nil)))) (by /-6-/ rw [← szL]; exact Nat.le_trans (flat_le (n := 24) fun x hx => by rw [List.length_map, rangeI_length]; have := rangeI_mem.mp hx; omega) (by rw [rangeI_length]; omega)) (blkOk_by (N := ["trade", "found", "shape", "count", "start", "many"]) (sc := defScope (topS 1)) (by decide +kernel)) (by decide) rfl rfl (sw_true rfl rfl rfl (by decide +kernel)) fun p_found us_found F_5 H_5 hp_3 s_5 r_found => ?_
      obtain ⟨found, hx_found⟩ : ∃ z : (List (Int × Int)), z = ((rangeI 0 count).flatMap fun a_start_2 : Int => ((rangeI (1 : Int) count).map fun a_many_2 : Int => (a_start_2, a_many_2))) := ⟨_, rfl⟩
      have hn := st.newAt hp_3
      have s_5 : Stp F_3 [] H_3 F_5 [(p_found, .lst us_found)] H_5 := by exact s_5
      have r_found : RA K F_5 us_found (found.map (eT2 eI eI)) := by subst hx_found; exact r_found
      have st := st.trans s_5
      have r_trade := r_trade.mono s_5.gr
      have r_shape := r_shape.mono s_5.gr
      have r_count := r_count.mono s_5.gr
      have gz : Gr F_5 (upd F_5 p_found (.lst us_found)) := Gr.upd (st.ok.at_ (k := 0) rfl).2
      have r_found_2 : R K (upd F_5 p_found (.lst us_found)) (.ref p_found) (eL (eT2 eI eI) found) := (r_found.mono gz).lst upd_same
      have st : Stp _ _ _ (upd F_5 p_found (.lst us_found)) [] H_5 := st.freezeAt 0 rfl hn
      have r_trade := r_trade.mono gz
      have r_shape := r_shape.mono gz
      have r_count := r_count.mono gz
      show ZS _ _ [some v_trade, some (.ref p_found), some v_shape, some v_count, none, none] H_5 _
      have hf : all_stretchesP trade = all_stretchesP_2 found count := by subst hx_found; exact hf
      have hfl : found.length ≤ 600 := by rw [hx_found]; exact Nat.le_trans (flat_le (n := 24) fun x hx => by rw [List.length_map, rangeI_length]; have := rangeI_mem.mp hx; omega) (by rw [rangeI_length]; omega)
      refine zs_retN st.ok (zn_sortP T.b_sorted (zn_ze (zn_catt (ze_var 1 rfl r_found_2) (zn_ze (zn_lstt (enc := (eT2 eI eI)) (xs := ([((0 : Int), count)] : List (Int × Int))) (za_cons (ze_tup (za_cons ze_int (za_cons (ze_var 3 rfl r_count) za_nil))) za_nil))) (by /-7-/ rw [← szL]; show _ + 1 ≤ _; omega)))) fun v_3 us_2 F_7 H_6 hp_4 s_6 r_4 => ?_
      exact q v_3 us_2 F_7 H_6 (st.newAt hp_4) (st.trans s_6) (by rw [hf]; exact r_4)
/-! runs_of -/
abbrev s_runs_ofP : Stmt := topS 2
theorem sc_runs_ofP : FnScope ["trade", "legs", "runs", "leg", "first", "last"] ["trade", "legs"] (defScope s_runs_ofP) := ⟨rfl, rfl, rfl, by decide +kernel, rfl, by decide +kernel, by decide +kernel⟩
def runs_ofP_2 (runs_3 : (List (Int × Int))) : ((List (Int × Int))) :=
  runs_3
def runs_ofP_3 (runs_4 : (List (Int × Int))) : ((List (Int × Int))) :=
  runs_4
def runs_ofP_L1b (runs_2 : (List (Int × Int))) (leg : Int) : ((List (Int × Int))) :=
  (cond (decide ((0 : Int) < (runs_2.length : Int)) && decide (((ixL runs_2 (-(1 : Int))).1 + (ixL runs_2 (-(1 : Int))).2) = leg)) (runs_ofP_2 (setL runs_2 (-(1 : Int)) ((ixL runs_2 (-(1 : Int))).1, ((ixL runs_2 (-(1 : Int))).2 + (1 : Int))))) (runs_ofP_3 (runs_2 ++ [(leg, (1 : Int))])))
def runs_ofP_L1 (b : ((List (Int × Int)))) (a : Int) : ((List (Int × Int))) :=
  runs_ofP_L1b b a
def runs_ofP_6 (trade : (Str × Int)) (runs_5 : (List (Int × Int))) (first : (Int × Int)) (last : (Int × Int)) : (List (Int × Int)) :=
  (cond ((!decide (first.1 = (0 : Int))) || (!decide ((last.1 + last.2) = trade.2))) runs_5 ((Z.cutD runs_5 (some (1 : Int)) (some (-(1 : Int)))) ++ ([(last.1, (last.2 + first.2))] : List (Int × Int))))
def runs_ofP_5 (trade : (Str × Int)) (runs_5 : (List (Int × Int))) (first : (Int × Int)) : (List (Int × Int)) :=
  runs_ofP_6 trade runs_5 first (ixL runs_5 (-(1 : Int)))
def runs_ofP_4 (trade : (Str × Int)) (b : ((List (Int × Int)))) : (List (Int × Int)) :=
  (cond (decide (trade.1 = (Str.ofString "line")) || decide ((b.length : Int) < (2 : Int))) b (runs_ofP_5 trade b (ixL b (0 : Int))))
def runs_ofP_1 (trade : (Str × Int)) (legs : (List Int)) (runs : (List (Int × Int))) : (List (Int × Int)) :=
  (runs_ofP_4 trade) (List.foldl runs_ofP_L1 runs legs)
def runs_ofP (trade : (Str × Int)) (legs : (List Int)) : (List (Int × Int)) :=
  runs_ofP_1 trade legs ([] : List (Int × Int))
def A_runs_ofP : List PyData → List PyData → Prop := fun ds r => ∃ (trade : (Str × Int)) (legs : (List Int)), ds = [(eT2 eS eI) trade, (eL eI) legs] ∧ (okT trade ∧ okL trade.2 legs) ∧ r = (runs_ofP trade legs).map (eT2 eI eI)
set_option maxHeartbeats 4000000 in
theorem ok_runs_ofP {P : Program} {w : World} {K : PySem.W.Frag} {mg : Str → Option Value} {base : Heap} (T : Top K mg) : Fn P w K mg base 1 "runs_of" ["trade", "legs"] (spN K A_runs_ofP) := by
  obtain ⟨f, fd, F, gm⟩ := T.f_runs_ofP
  have sc := sc_runs_ofP
  refine ⟨f, fd, F.ok sc (fun vs H Q E h => ?_) (fun cdv A outer s0 H vs Q E hr h => ⟨_, PSs.nox pss_w, ?_⟩), gm, F.kp, F.bindsN (fun _ _ _ _ _ _ us hl => match us, hl with | [_, _], _ => rfl)⟩
  · obtain ⟨F, ds, r, w, ra, ⟨trade, legs, rfl, hpre, rfl⟩, q⟩ := h
    exact ra.len
  · obtain ⟨F, ds, r, w, ra, ⟨trade, legs, rfl, hpre, rfl⟩, q⟩ := h
    obtain ⟨v_trade, ws, rfl, r_trade, ra⟩ := ra.cons_inv
    obtain ⟨v_legs, ws, rfl, r_legs, ra⟩ := ra.cons_inv
    obtain rfl := ra.nil_inv
    have st := Stp.refl w
    have hT : okT trade := hpre.1
    obtain ⟨ht1, ht2, ht3⟩ := id hT
    have hL := hpre.2
    have hll := okL_le hL (by omega)
    have hf : runs_ofP trade legs = runs_ofP trade legs := rfl
    show ZS _ _ [some v_trade, some v_legs, none, none, none, none] H _
    refine zs_setN (n := 2) st.ok (zn_lstt (enc := (eT2 eI eI)) (xs := ([] : List (Int × Int))) za_nil) sc.nd rfl (by first | exact Or.inl rfl | exact Or.inr rfl) fun p_runs us_runs F_2 H_2 hp_2 s_2 r_runs => ?_
    obtain ⟨runs, hx_runs⟩ : ∃ z : (List (Int × Int)), z = ([] : List (Int × Int)) := ⟨_, rfl⟩
    have hn := st.newAt hp_2
    have s_2 : Stp F [] H F_2 [(p_runs, .lst us_runs)] H_2 := by exact s_2
    have r_runs : RA K F_2 us_runs (runs.map (eT2 eI eI)) := by subst hx_runs; exact r_runs
    have st := st.trans s_2
    have r_trade := r_trade.mono s_2.gr
    have r_legs := r_legs.mono s_2.gr
    show ZS _ _ [some v_trade, some v_legs, some (.ref p_runs), none, none, none] H_2 _
    have hf : runs_ofP trade legs = runs_ofP_1 trade legs runs := by subst hx_runs; exact hf
    refine zs_forF (f := runs_ofP_L1) (b0 := runs) st.ok PassesOwn.never rfl (zi_list (ze_var 1 rfl r_legs)) (fun iq b σ F O => ∃ (z1 : Option V) (w2 : List V), σ = [some v_trade, some v_legs, some (.ref p_runs), z1, none, none] ∧ O = [(p_runs, .lst w2)] ∧ RA K F w2 (b.map (eT2 eI eI)) ∧ (b.length ≤ iq)) (fun F_14 H_13 s_13 => ⟨none, us_runs, rfl, rfl, r_runs.mono s_13.gr, by rw [hx_runs]; exact Nat.zero_le _⟩) (fun i b leg v σ F_3 F_4 O_2 H_3 ha hbe hz rel g s_3 r_2 => ?_) (fun σ_2 F_8 O_3 H_7 s_7 rel_2 => ?_)
    · skip
      obtain ⟨runs_2, rfl⟩ : ∃ z, z = b := ⟨_, rfl⟩
      obtain ⟨z_leg, us_runs_2, rfl, rfl, r_runs_2, hinv⟩ := rel
      have r_runs_2 : RA K _ us_runs_2 (runs_2.map (eT2 eI eI)) := r_runs_2
      have st := st.trans s_3
      have r_trade := r_trade.mono s_3.gr
      have r_legs := r_legs.mono s_3.gr
      have r_runs_2 := r_runs_2.mono g
      have hinv : runs_2.length ≤ i := hinv
      have hlt_i := (List.getElem?_eq_some_iff.mp ha).1
      have sb : Stp F_4 [(p_runs, .lst us_runs_2)] H_3 F_4 [(p_runs, .lst us_runs_2)] H_3 := Stp.refl st.ok
      have hfb : runs_ofP_L1 runs_2 leg = runs_ofP_L1b runs_2 leg := rfl
      refine zg_name (n := 3) sc.nd rfl (by first | exact Or.inl rfl | exact Or.inr rfl) ?_
      show ZS _ _ [some v_trade, some v_legs, some (.ref p_runs), some v, none, none] H_3 _
      refine zs_if st.ok (zt_w (zw_and (zt_cm cm_gt (ze_lenOt 2 0 T.b_len rfl rfl r_runs_2) ze_int) fun hb => (zw_and1 (zt_cm cm_eqI (ze_add (ze_ixT (ze_ixOt (enc := (eT2 eI eI)) 2 0 rfl (ze_neg ze_int) rfl r_runs_2 (by /-1-/ have h8 := of_decide_eq_true hb; omega)) ze_int atI_0) (ze_ixT (ze_ixOt (enc := (eT2 eI eI)) 2 0 rfl (ze_neg ze_int) rfl r_runs_2 (by /-2-/ have h8 := of_decide_eq_true hb; omega)) ze_int atI_1)) (ze_var 3 rfl r_2))))) (fun hb F_5 H_4 s_4 => ?_) (fun hb F_5 H_4 s_4 => ?_)
      · have s_4 : Stp F_4 [(p_runs, .lst us_runs_2)] H_3 F_5 [(p_runs, .lst us_runs_2)] H_4 := by exact s_4
        have st := st.trans s_4
        have sb := sb.trans s_4
        have r_trade := r_trade.mono s_4.gr
        have r_legs := r_legs.mono s_4.gr
        have r_runs_2 := r_runs_2.mono s_4.gr
        have r_2 := r_2.mono s_4.gr
        have hfb := hfb.trans (cond_t hb)
        have hpos := of_decide_eq_true (Bool.and_eq_true_iff.mp hb).1
        obtain ⟨q_2, hq, q_2_lt⟩ : ∃ q, ixN runs_2.length (-(1 : Int)) = some q ∧ q < runs_2.length := ixN_in (by /-5-/ first | omega | (rw [← szL]; omega))
        have hl : us_runs_2.length = runs_2.length := by have h := r_runs_2.len; rw [List.length_map] at h; exact h
        refine zs_setItem (q := q_2) st.ok 2 0 rfl (ze_tup (za_cons (ze_ixT (ze_ixOt (enc := (eT2 eI eI)) 2 0 rfl (ze_neg ze_int) rfl r_runs_2 (by /-3-/ first | omega | (rw [← szL]; omega))) ze_int atI_0) (za_cons (ze_add (ze_ixT (ze_ixOt (enc := (eT2 eI eI)) 2 0 rfl (ze_neg ze_int) rfl r_runs_2 (by /-4-/ first | omega | (rw [← szL]; omega))) ze_int atI_1) ze_int) za_nil))) (ze_neg ze_int) rfl (by rw [hl]; exact hq) fun v_2 F_6 H_5 s_5 r_3 => ?_
        obtain ⟨runs_3, hx_runs_3⟩ : ∃ z : (List (Int × Int)), z = setL runs_2 (-(1 : Int)) ((ixL runs_2 (-(1 : Int))).1, ((ixL runs_2 (-(1 : Int))).2 + (1 : Int))) := ⟨_, rfl⟩
        obtain ⟨us_runs_3, hus_runs_3⟩ : ∃ z, z = us_runs_2.set q_2 v_2 := ⟨_, rfl⟩
        have s_5 : Stp F_5 [(p_runs, .lst us_runs_2)] H_4 F_6 [(p_runs, .lst us_runs_3)] H_5 := by subst hus_runs_3; exact s_5
        have r_runs_3 : RA K F_6 us_runs_3 (runs_3.map (eT2 eI eI)) := by rw [hus_runs_3, hx_runs_3, setL_eq hq, List.map_set]; exact (r_runs_2.mono s_5.gr).set r_3
        have st := st.trans s_5
        have sb := sb.trans s_5
        have r_trade := r_trade.mono s_5.gr
        have r_legs := r_legs.mono s_5.gr
        have r_2 := r_2.mono s_5.gr
        show ZS _ _ [some v_trade, some v_legs, some (.ref p_runs), some v, none, none] H_5 _
        have hfb : runs_ofP_L1 runs_2 leg = runs_ofP_2 runs_3 := by subst hx_runs_3; exact hfb
        refine zs_nil ?_
        show ZS _ _ [some v_trade, some v_legs, some (.ref p_runs), some v, none, none] H_5 _
        refine zs_nil ?_
        exact ⟨_, _, sb, by (try rw [hfb]); exact ⟨some v, us_runs_3, rfl, rfl, r_runs_3, (show runs_3.length ≤ (i + 1) from by first | (rw [hx_runs_3, List.length_append]; show _ + 1 ≤ _; omega) | (rw [hx_runs_3, setL_length]; omega))⟩⟩
      · have s_4 : Stp F_4 [(p_runs, .lst us_runs_2)] H_3 F_5 [(p_runs, .lst us_runs_2)] H_4 := by exact s_4
        have st := st.trans s_4
        have sb := sb.trans s_4
        have r_trade := r_trade.mono s_4.gr
        have r_legs := r_legs.mono s_4.gr
        have r_runs_2 := r_runs_2.mono s_4.gr
        have r_2 := r_2.mono s_4.gr
        have hfb := hfb.trans (cond_f hb)
        have hl_2 : us_runs_2.length = runs_2.length := by have h := r_runs_2.len; rw [List.length_map] at h; exact h
        refine zs_append st.ok 2 0 rfl (ze_tup (za_cons (ze_var 3 rfl r_2) (za_cons ze_int za_nil))) rfl (by rw [hl_2]; exact (by /-6-/ first | omega | (rw [← szL]; omega))) fun v_3 F_7 H_6 s_6 r_4 => ?_
        obtain ⟨runs_4, hx_runs_4⟩ : ∃ z : (List (Int × Int)), z = runs_2 ++ [(leg, (1 : Int))] := ⟨_, rfl⟩
        obtain ⟨us_runs_4, hus_runs_4⟩ : ∃ z, z = us_runs_2 ++ [v_3] := ⟨_, rfl⟩
        have s_6 : Stp F_5 [(p_runs, .lst us_runs_2)] H_4 F_7 [(p_runs, .lst us_runs_4)] H_6 := by subst hus_runs_4; exact s_6
        have r_runs_4 : RA K F_7 us_runs_4 (runs_4.map (eT2 eI eI)) := by rw [hus_runs_4, hx_runs_4, List.map_append]; exact (r_runs_2.mono s_6.gr).snoc r_4
        have st := st.trans s_6
        have sb := sb.trans s_6
        have r_trade := r_trade.mono s_6.gr
        have r_legs := r_legs.mono s_6.gr
        have r_2 := r_2.mono s_6.gr
        show ZS _ _ [some v_trade, some v_legs, some (.ref p_runs), some v, none, none] H_6 _
        have hfb : runs_ofP_L1 runs_2 leg = runs_ofP_3 runs_4 := by subst hx_runs_4; exact hfb
        refine zs_nil ?_
        show ZS _ _ [some v_trade, some v_legs, some (.ref p_runs), some v, none, none] H_6 _
        refine zs_nil ?_
        exact ⟨_, _, sb, by (try rw [hfb]); exact ⟨some v, us_runs_4, rfl, rfl, r_runs_4, (show runs_4.length ≤ (i + 1) from by first | (rw [hx_runs_4, List.length_append]; show _ + 1 ≤ _; omega) | (rw [hx_runs_4, setL_length]; omega))⟩⟩
    · skip
      obtain ⟨b_2, hb_2⟩ : ∃ z : ((List (Int × Int))), z = List.foldl runs_ofP_L1 runs legs := ⟨_, rfl⟩
      try rw [← hb_2] at rel_2
      obtain ⟨runs_5, rfl⟩ : ∃ z, z = b_2 := ⟨_, rfl⟩
      obtain ⟨z_leg_2, us_runs_5, rfl, rfl, r_runs_5, hinv_2⟩ := rel_2
      have r_runs_5 : RA K _ us_runs_5 (runs_5.map (eT2 eI eI)) := r_runs_5
      have st := st.trans s_7
      have r_trade := r_trade.mono s_7.gr
      have r_legs := r_legs.mono s_7.gr
      have hinv_2 : runs_5.length ≤ legs.length := hinv_2
      have hf : runs_ofP trade legs = (runs_ofP_4 trade) runs_5 := by rw [hb_2]; exact hf
      have hrl := hinv_2
      show ZS _ _ [some v_trade, some v_legs, some (.ref p_runs), z_leg_2, none, none] H_7 _
      refine zs_if st.ok (zt_w (zw_or (zt_cm cm_eqS (ze_ixT (ze_var 0 rfl r_trade) ze_int atI_0) ze_str) fun hb => (zw_or1 (zt_cm cm_lt (ze_lenOt 2 0 T.b_len rfl rfl r_runs_5) ze_int)))) (fun hb_3 F_9 H_8 s_8 => ?_) (fun hb_3 F_9 H_8 s_8 => ?_)
      · have s_8 : Stp F_8 [(p_runs, .lst us_runs_5)] H_7 F_9 [(p_runs, .lst us_runs_5)] H_8 := by exact s_8
        have st := st.trans s_8
        have r_trade := r_trade.mono s_8.gr
        have r_legs := r_legs.mono s_8.gr
        have r_runs_5 := r_runs_5.mono s_8.gr
        have hf := hf.trans (cond_t hb_3)
        refine zs_retV (n := 2) rfl ?_
        exact q _ us_runs_5 _ _ hn st (by rw [hf]; exact r_runs_5)
      · have s_8 : Stp F_8 [(p_runs, .lst us_runs_5)] H_7 F_9 [(p_runs, .lst us_runs_5)] H_8 := by exact s_8
        have st := st.trans s_8
        have r_trade := r_trade.mono s_8.gr
        have r_legs := r_legs.mono s_8.gr
        have r_runs_5 := r_runs_5.mono s_8.gr
        have hf := hf.trans (cond_f hb_3)
        have hlen := of_decide_eq_false (Bool.or_eq_false_iff.mp hb_3).2
        refine zs_nil ?_
        show ZS _ _ [some v_trade, some v_legs, some (.ref p_runs), z_leg_2, none, none] H_8 _
        refine zs_set (n := 4) st.ok (ze_ixOt (enc := (eT2 eI eI)) 2 0 rfl ze_int rfl r_runs_5 (by /-7-/ first | omega | (rw [← szL]; omega))) sc.nd rfl (by first | exact Or.inl rfl | exact Or.inr rfl) fun v_first F_10 H_9 s_9 r_first => ?_
        obtain ⟨first, hx_first⟩ : ∃ z : (Int × Int), z = (ixL runs_5 (0 : Int)) := ⟨_, rfl⟩
        have s_9 : Stp F_9 [(p_runs, .lst us_runs_5)] H_8 F_10 [(p_runs, .lst us_runs_5)] H_9 := by exact s_9
        have r_first : R K F_10 v_first ((eT2 eI eI) first) := by subst hx_first; exact r_first
        have st := st.trans s_9
        have r_trade := r_trade.mono s_9.gr
        have r_legs := r_legs.mono s_9.gr
        have r_runs_5 := r_runs_5.mono s_9.gr
        show ZS _ _ [some v_trade, some v_legs, some (.ref p_runs), z_leg_2, some v_first, none] H_9 _
        have hf : runs_ofP trade legs = runs_ofP_5 trade runs_5 first := by subst hx_first; exact hf
        refine zs_set (n := 5) st.ok (ze_ixOt (enc := (eT2 eI eI)) 2 0 rfl (ze_neg ze_int) rfl r_runs_5 (by /-8-/ first | omega | (rw [← szL]; omega))) sc.nd rfl (by first | exact Or.inl rfl | exact Or.inr rfl) fun v_last F_11 H_10 s_10 r_last => ?_
        obtain ⟨last, hx_last⟩ : ∃ z : (Int × Int), z = (ixL runs_5 (-(1 : Int))) := ⟨_, rfl⟩
        have s_10 : Stp F_10 [(p_runs, .lst us_runs_5)] H_9 F_11 [(p_runs, .lst us_runs_5)] H_10 := by exact s_10
        have r_last : R K F_11 v_last ((eT2 eI eI) last) := by subst hx_last; exact r_last
        have st := st.trans s_10
        have r_trade := r_trade.mono s_10.gr
        have r_legs := r_legs.mono s_10.gr
        have r_runs_5 := r_runs_5.mono s_10.gr
        have r_first := r_first.mono s_10.gr
        show ZS _ _ [some v_trade, some v_legs, some (.ref p_runs), z_leg_2, some v_first, some v_last] H_10 _
        have hf : runs_ofP trade legs = runs_ofP_6 trade runs_5 first last := by subst hx_last; exact hf
        refine zs_if st.ok (zt_w (zw_or (zt_cm cm_neI (ze_ixT (ze_var 4 rfl r_first) ze_int atI_0) ze_int) fun hb => (zw_or1 (zt_cm cm_neI (ze_add (ze_ixT (ze_var 5 rfl r_last) ze_int atI_0) (ze_ixT (ze_var 5 rfl r_last) ze_int atI_1)) (ze_ixT (ze_var 0 rfl r_trade) ze_int atI_1))))) (fun hb_4 F_12 H_11 s_11 => ?_) (fun hb_4 F_12 H_11 s_11 => ?_)
        · have s_11 : Stp F_11 [(p_runs, .lst us_runs_5)] H_10 F_12 [(p_runs, .lst us_runs_5)] H_11 := by exact s_11
          have st := st.trans s_11
          have r_trade := r_trade.mono s_11.gr
          have r_legs := r_legs.mono s_11.gr
          have r_runs_5 := r_runs_5.mono s_11.gr
          have r_first := r_first.mono s_11.gr
          have r_last := r_last.mono s_11.gr
          have hf := hf.trans (cond_t hb_4)
          refine zs_retV (n := 2) rfl ?_
          exact q _ us_runs_5 _ _ hn st (by rw [hf]; exact r_runs_5)
        · have s_11 : Stp F_11 [(p_runs, .lst us_runs_5)] H_10 F_12 [(p_runs, .lst us_runs_5)] H_11 := by exact s_11
          have st := st.trans s_11
          have r_trade := r_trade.mono s_11.gr
          have r_legs := r_legs.mono s_11.gr
          have r_runs_5 := r_runs_5.mono s_11.gr
          have r_first := r_first.mono s_11.gr
          have r_last := r_last.mono s_11.gr
          have hf := hf.trans (cond_f hb_4)
          refine zs_nil ?_
          show ZS _ _ [some v_trade, some v_legs, some (.ref p_runs), z_leg_2, some v_first, some v_last] H_11 _
          refine zs_retN st.ok (zn_catt (zn_ze (zn_slOt 2 0 rfl (zo_some ze_int) (zo_some (ze_neg ze_int)) rfl r_runs_5)) (zn_ze (zn_lstt (enc := (eT2 eI eI)) (xs := ([(last.1, (last.2 + first.2))] : List (Int × Int))) (za_cons (ze_tup (za_cons (ze_ixT (ze_var 5 rfl r_last) ze_int atI_0) (za_cons (ze_add (ze_ixT (ze_var 5 rfl r_last) ze_int atI_1) (ze_ixT (ze_var 4 rfl r_first) ze_int atI_1)) za_nil))) za_nil))) (by /-9-/ have h8 := cutD_le runs_5 (some 1) (some (-1)); rw [← szL]; show _ + 1 ≤ _; omega)) fun v_4 us F_13 H_12 hp_3 s_12 r_5 => ?_
          exact q v_4 us F_13 H_12 (st.newAt hp_3) ((st.trans s_12).dropAt 1) (by rw [hf]; exact r_5)
/-! _law_runs -/
abbrev s_runsL : Stmt := topS 17
theorem sc_runsL : FnScope ["trade", "legs", "n", "runs", "leg", "before", "many", "k", "after"] ["trade", "legs"] (defScope s_runsL) := ⟨rfl, rfl, rfl, by decide +kernel, rfl, by decide +kernel, by decide +kernel⟩
def runsL_8 (many_3 : Int) : (Int) :=
  many_3
def runsL_7 (legs : (List Int)) (many_2 : Int) (k : Int) (j_after : Int) : (Int) :=
  (cond (decide (many_2 = k) && decide (j_after ∈ legs)) (runsL_8 (k + (1 : Int))) many_2)
def runsL_9 (legs : (List Int)) (many_2 : Int) (k : Int) (after_2 : Int) : (Int) :=
  runsL_7 legs many_2 k after_2
def runsL_6 (trade : (Str × Int)) (legs : (List Int)) (n : Int) (many_2 : Int) (k : Int) (after : Int) : (Int) :=
  (cond (decide (trade.1 = (Str.ofString "round"))) (runsL_9 legs many_2 k (after % n)) (runsL_7 legs many_2 k after))
def runsL_L2b (trade : (Str × Int)) (legs : (List Int)) (n : Int) (leg : Int) (many_2 : Int) (k : Int) : (Int) :=
  runsL_6 trade legs n many_2 k (leg + k)
def runsL_L2 (trade : (Str × Int)) (legs : (List Int)) (n : Int) (leg : Int) (b : (Int)) (a : Int) : (Int) :=
  runsL_L2b trade legs n leg b a
def runsL_11 (runs_3 : (List (Int × Int))) : ((List (Int × Int))) :=
  runs_3
def runsL_10 (runs_2 : (List (Int × Int))) (leg : Int) (b : (Int)) : ((List (Int × Int))) :=
  runsL_11 (runs_2 ++ [(leg, b)])
def runsL_5 (trade : (Str × Int)) (legs : (List Int)) (n : Int) (runs_2 : (List (Int × Int))) (leg : Int) (many : Int) : ((List (Int × Int))) :=
  (runsL_10 runs_2 leg) (List.foldl (runsL_L2 trade legs n leg) many (rangeI (1 : Int) n))
def runsL_4 (trade : (Str × Int)) (legs : (List Int)) (n : Int) (runs_2 : (List (Int × Int))) (leg : Int) (j_before : Int) : ((List (Int × Int))) :=
  (cond (!decide (j_before ∈ legs)) (runsL_5 trade legs n runs_2 leg (1 : Int)) runs_2)
def runsL_12 (trade : (Str × Int)) (legs : (List Int)) (n : Int) (runs_2 : (List (Int × Int))) (leg : Int) (before_2 : Int) : ((List (Int × Int))) :=
  runsL_4 trade legs n runs_2 leg before_2
def runsL_3 (trade : (Str × Int)) (legs : (List Int)) (n : Int) (runs_2 : (List (Int × Int))) (leg : Int) (before : Int) : ((List (Int × Int))) :=
  (cond (decide (trade.1 = (Str.ofString "round")) && decide (leg = (0 : Int))) (runsL_12 trade legs n runs_2 leg (n - (1 : Int))) (runsL_4 trade legs n runs_2 leg before))
def runsL_L1b (trade : (Str × Int)) (legs : (List Int)) (n : Int) (runs_2 : (List (Int × Int))) (leg : Int) : ((List (Int × Int))) :=
  runsL_3 trade legs n runs_2 leg (leg - (1 : Int))
def runsL_L1 (trade : (Str × Int)) (legs : (List Int)) (n : Int) (b : ((List (Int × Int)))) (a : Int) : ((List (Int × Int))) :=
  runsL_L1b trade legs n b a
def runsL_13 (b : ((List (Int × Int)))) : (List (Int × Int)) :=
  (sortP b)
def runsL_2 (trade : (Str × Int)) (legs : (List Int)) (n : Int) (runs : (List (Int × Int))) : (List (Int × Int)) :=
  runsL_13 (List.foldl (runsL_L1 trade legs n) runs legs)
def runsL_1 (trade : (Str × Int)) (legs : (List Int)) (n : Int) : (List (Int × Int)) :=
  (cond (decide ((legs.length : Int) = n)) ([((0 : Int), n)] : List (Int × Int)) (runsL_2 trade legs n ([] : List (Int × Int))))
def runsL (trade : (Str × Int)) (legs : (List Int)) : (List (Int × Int)) :=
  runsL_1 trade legs trade.2
def A_runsL : List PyData → PyData → Prop := fun ds r => ∃ (trade : (Str × Int)) (legs : (List Int)), ds = [(eT2 eS eI) trade, (eL eI) legs] ∧ (okT trade ∧ okL trade.2 legs) ∧ r = (eL (eT2 eI eI)) (runsL trade legs)
set_option maxHeartbeats 4000000 in
theorem ok_runsL {P : Program} {w : World} {K : PySem.W.Frag} {mg : Str → Option Value} {base : Heap} (T : Top K mg) : Fn P w K mg base 1 "_law_runs" ["trade", "legs"] (spD K A_runsL) := by
  obtain ⟨f, fd, F, gm⟩ := T.f_runsL
  have sc := sc_runsL
  refine ⟨f, fd, F.ok sc (fun vs H Q E h => ?_) (fun cdv A outer s0 H vs Q E hr h => ⟨_, PSs.nox pss_w, ?_⟩), gm, F.kp, F.bindsN (fun _ _ _ _ _ _ us hl => match us, hl with | [_, _], _ => rfl)⟩
  · obtain ⟨F, ds, r, w, ra, ⟨trade, legs, rfl, hpre, rfl⟩, q⟩ := h
    exact ra.len
  · obtain ⟨F, ds, r, w, ra, ⟨trade, legs, rfl, hpre, rfl⟩, q⟩ := h
    obtain ⟨v_trade, ws, rfl, r_trade, ra⟩ := ra.cons_inv
    obtain ⟨v_legs, ws, rfl, r_legs, ra⟩ := ra.cons_inv
    obtain rfl := ra.nil_inv
    have st := Stp.refl w
    have hT : okT trade := hpre.1
    obtain ⟨ht1, ht2, ht3⟩ := id hT
    have hL := hpre.2
    have hll := okL_le hL (by omega)
    have hf : runsL trade legs = runsL trade legs := rfl
    show ZS _ _ [some v_trade, some v_legs, none, none, none, none, none, none, none] H _
    refine zs_set (n := 2) st.ok (ze_ixT (ze_var 0 rfl r_trade) ze_int atI_1) sc.nd rfl (by first | exact Or.inl rfl | exact Or.inr rfl) fun v_n F_2 H_2 s_2 r_n => ?_
    obtain ⟨n, hx_n⟩ : ∃ z : Int, z = trade.2 := ⟨_, rfl⟩
    have s_2 : Stp F [] H F_2 [] H_2 := by exact s_2
    have r_n : R K F_2 v_n (eI n) := by subst hx_n; exact r_n
    have st := st.trans s_2
    have r_trade := r_trade.mono s_2.gr
    have r_legs := r_legs.mono s_2.gr
    show ZS _ _ [some v_trade, some v_legs, some v_n, none, none, none, none, none, none] H_2 _
    have hf : runsL trade legs = runsL_1 trade legs n := by subst hx_n; exact hf
    refine zs_if st.ok (zt_cm cm_eqI (ze_lenLt T.b_len (ze_var 1 rfl r_legs)) (ze_var 2 rfl r_n)) (fun hb F_3 H_3 s_3 => ?_) (fun hb F_3 H_3 s_3 => ?_)
    · have s_3 : Stp F_2 [] H_2 F_3 [] H_3 := by exact s_3
      have st := st.trans s_3
      have r_trade := r_trade.mono s_3.gr
      have r_legs := r_legs.mono s_3.gr
      have r_n := r_n.mono s_3.gr
      have hf := hf.trans (cond_t hb)
      refine zs_ret st.ok (zn_ze (zn_lstt (enc := (eT2 eI eI)) (xs := ([((0 : Int), n)] : List (Int × Int))) (za_cons (ze_tup (za_cons ze_int (za_cons (ze_var 2 rfl r_n) za_nil))) za_nil))) fun v F_4 H_4 s_4 r_2 => ?_
      exact q v F_4 H_4 (st.trans s_4) (by rw [hf]; exact r_2)
    · have s_3 : Stp F_2 [] H_2 F_3 [] H_3 := by exact s_3
      have st := st.trans s_3
      have r_trade := r_trade.mono s_3.gr
      have r_legs := r_legs.mono s_3.gr
      have r_n := r_n.mono s_3.gr
      have hf := hf.trans (cond_f hb)
      refine zs_nil ?_
      show ZS _ _ [some v_trade, some v_legs, some v_n, none, none, none, none, none, none] H_3 _
      refine zs_setN (n := 3) st.ok (zn_lstt (enc := (eT2 eI eI)) (xs := ([] : List (Int × Int))) za_nil) sc.nd rfl (by first | exact Or.inl rfl | exact Or.inr rfl) fun p_runs us_runs F_5 H_5 hp_2 s_5 r_runs => ?_
      obtain ⟨runs, hx_runs⟩ : ∃ z : (List (Int × Int)), z = ([] : List (Int × Int)) := ⟨_, rfl⟩
      have hn := st.newAt hp_2
      have s_5 : Stp F_3 [] H_3 F_5 [(p_runs, .lst us_runs)] H_5 := by exact s_5
      have r_runs : RA K F_5 us_runs (runs.map (eT2 eI eI)) := by subst hx_runs; exact r_runs
      have st := st.trans s_5
      have r_trade := r_trade.mono s_5.gr
      have r_legs := r_legs.mono s_5.gr
      have r_n := r_n.mono s_5.gr
      show ZS _ _ [some v_trade, some v_legs, some v_n, some (.ref p_runs), none, none, none, none, none] H_5 _
      have hf : runsL trade legs = runsL_2 trade legs n runs := by subst hx_runs; exact hf
      refine zs_forF (f := (runsL_L1 trade legs n)) (b0 := runs) st.ok PassesOwn.never rfl (zi_list (ze_var 1 rfl r_legs)) (fun iq b σ F O => ∃ (z1 : Option V) (z2 : Option V) (z3 : Option V) (z4 : Option V) (z5 : Option V) (w6 : List V), σ = [some v_trade, some v_legs, some v_n, some (.ref p_runs), z1, z2, z3, z4, z5] ∧ O = [(p_runs, .lst w6)] ∧ RA K F w6 (b.map (eT2 eI eI)) ∧ (b.length ≤ iq)) (fun F_28 H_25 s_25 => ⟨none, none, none, none, none, us_runs, rfl, rfl, r_runs.mono s_25.gr, by rw [hx_runs]; exact Nat.zero_le _⟩) (fun i b leg v_2 σ F_6 F_7 O_2 H_6 ha hbe hz rel g s_6 r_3 => ?_) (fun σ_6 F_25 O_7 H_23 s_23 rel_4 => ?_)
      · skip
        obtain ⟨runs_2, rfl⟩ : ∃ z, z = b := ⟨_, rfl⟩
        obtain ⟨z_leg, z_before, z_many, z_k, z_after, us_runs_2, rfl, rfl, r_runs_2, hinv⟩ := rel
        have r_runs_2 : RA K _ us_runs_2 (runs_2.map (eT2 eI eI)) := r_runs_2
        have st := st.trans s_6
        have r_trade := r_trade.mono s_6.gr
        have r_legs := r_legs.mono s_6.gr
        have r_n := r_n.mono s_6.gr
        have r_runs_2 := r_runs_2.mono g
        have hinv : runs_2.length ≤ i := hinv
        have hlt_i := (List.getElem?_eq_some_iff.mp ha).1
        have sb : Stp F_7 [(p_runs, .lst us_runs_2)] H_6 F_7 [(p_runs, .lst us_runs_2)] H_6 := Stp.refl st.ok
        have hfb : runsL_L1 trade legs n runs_2 leg = runsL_L1b trade legs n runs_2 leg := rfl
        refine zg_name (n := 4) sc.nd rfl (by first | exact Or.inl rfl | exact Or.inr rfl) ?_
        show ZS _ _ [some v_trade, some v_legs, some v_n, some (.ref p_runs), some v_2, z_before, z_many, z_k, z_after] H_6 _
        refine zs_set (n := 5) st.ok (ze_sub (ze_var 4 rfl r_3) ze_int) sc.nd rfl (by first | exact Or.inl rfl | exact Or.inr rfl) fun v_before F_8 H_7 s_7 r_before => ?_
        obtain ⟨before, hx_before⟩ : ∃ z : Int, z = (leg - (1 : Int)) := ⟨_, rfl⟩
        have s_7 : Stp F_7 [(p_runs, .lst us_runs_2)] H_6 F_8 [(p_runs, .lst us_runs_2)] H_7 := by exact s_7
        have r_before : R K F_8 v_before (eI before) := by subst hx_before; exact r_before
        have st := st.trans s_7
        have sb := sb.trans s_7
        have r_trade := r_trade.mono s_7.gr
        have r_legs := r_legs.mono s_7.gr
        have r_n := r_n.mono s_7.gr
        have r_runs_2 := r_runs_2.mono s_7.gr
        have r_3 := r_3.mono s_7.gr
        show ZS _ _ [some v_trade, some v_legs, some v_n, some (.ref p_runs), some v_2, some v_before, z_many, z_k, z_after] H_7 _
        have hfb : runsL_L1 trade legs n runs_2 leg = runsL_3 trade legs n runs_2 leg before := by subst hx_before; exact hfb
        refine zs_ifJ st.ok (zt_w (zw_and (zt_cm cm_eqS (ze_ixT (ze_var 0 rfl r_trade) ze_int atI_0) ze_str) fun hb => (zw_and1 (zt_cm cm_eqI (ze_var 4 rfl r_3) ze_int)))) (fun σ H' => ∃ (j_before : Int) (F : Hp) (O : Own), runsL_L1 trade legs n runs_2 leg = runsL_4 trade legs n runs_2 leg j_before ∧ Stp F_8 [(p_runs, .lst us_runs_2)] H_7 F O H' ∧ ∃ (w1 : V), σ = [some v_trade, some v_legs, some v_n, some (.ref p_runs), some v_2, some w1, z_many, z_k, z_after] ∧ O = [(p_runs, .lst us_runs_2)] ∧ R K F w1 (eI j_before) ∧ True) (fun hb_2 F_9 H_8 s_8 => ?_) (fun hb_2 F_9 H_8 s_8 => ?_) (fun σ_2 H_9 hJ => ?_)
        · have s_8 : Stp F_8 [(p_runs, .lst us_runs_2)] H_7 F_9 [(p_runs, .lst us_runs_2)] H_8 := by exact s_8
          have sj := s_8
          have st := st.trans s_8
          have sb := sb.trans s_8
          have r_trade := r_trade.mono s_8.gr
          have r_legs := r_legs.mono s_8.gr
          have r_n := r_n.mono s_8.gr
          have r_runs_2 := r_runs_2.mono s_8.gr
          have r_3 := r_3.mono s_8.gr
          have r_before := r_before.mono s_8.gr
          have hfb := hfb.trans (cond_t hb_2)
          refine zs_set (n := 5) st.ok (ze_sub (ze_var 2 rfl r_n) ze_int) sc.nd rfl (by first | exact Or.inl rfl | exact Or.inr rfl) fun v_before_3 F_24 H_22 s_22 r_before_3 => ?_
          obtain ⟨before_2, hx_before_2⟩ : ∃ z : Int, z = (n - (1 : Int)) := ⟨_, rfl⟩
          have s_22 : Stp F_9 [(p_runs, .lst us_runs_2)] H_8 F_24 [(p_runs, .lst us_runs_2)] H_22 := by exact s_22
          have r_before_3 : R K F_24 v_before_3 (eI before_2) := by subst hx_before_2; exact r_before_3
          have st := st.trans s_22
          have sb := sb.trans s_22
          have sj := sj.trans s_22
          have r_trade := r_trade.mono s_22.gr
          have r_legs := r_legs.mono s_22.gr
          have r_n := r_n.mono s_22.gr
          have r_runs_2 := r_runs_2.mono s_22.gr
          have r_3 := r_3.mono s_22.gr
          show ZS _ _ [some v_trade, some v_legs, some v_n, some (.ref p_runs), some v_2, some v_before_3, z_many, z_k, z_after] H_22 _
          have hfb : runsL_L1 trade legs n runs_2 leg = runsL_12 trade legs n runs_2 leg before_2 := by subst hx_before_2; exact hfb
          refine zs_nil ?_
          exact ⟨before_2, _, _, hfb, sj, v_before_3, rfl, rfl, r_before_3, trivial⟩
        · have s_8 : Stp F_8 [(p_runs, .lst us_runs_2)] H_7 F_9 [(p_runs, .lst us_runs_2)] H_8 := by exact s_8
          have sj := s_8
          have st := st.trans s_8
          have sb := sb.trans s_8
          have r_trade := r_trade.mono s_8.gr
          have r_legs := r_legs.mono s_8.gr
          have r_n := r_n.mono s_8.gr
          have r_runs_2 := r_runs_2.mono s_8.gr
          have r_3 := r_3.mono s_8.gr
          have r_before := r_before.mono s_8.gr
          have hfb := hfb.trans (cond_f hb_2)
          refine zs_nil ?_
          exact ⟨before, _, _, hfb, sj, v_before, rfl, rfl, r_before, trivial⟩
        · obtain ⟨j_before, F_10, O_3, hfb, s_9, hJ⟩ := hJ
          obtain ⟨v_before_2, rfl, rfl, r_before_2, hinv_2⟩ := hJ
          have r_before_2 : R K _ v_before_2 (eI j_before) := r_before_2
          have st := st.trans s_9
          have sb := sb.trans s_9
          have r_trade := r_trade.mono s_9.gr
          have r_legs := r_legs.mono s_9.gr
          have r_n := r_n.mono s_9.gr
          have r_runs_2 := r_runs_2.mono s_9.gr
          have r_3 := r_3.mono s_9.gr
          show ZS _ _ [some v_trade, some v_legs, some v_n, some (.ref p_runs), some v_2, some v_before_2, z_many, z_k, z_after] H_9 _
          refine zs_if st.ok (zt_cm cm_ninI (ze_var 5 rfl r_before_2) (ze_var 1 rfl r_legs)) (fun hb_3 F_11 H_10 s_10 => ?_) (fun hb_3 F_11 H_10 s_10 => ?_)
          · have s_10 : Stp F_10 [(p_runs, .lst us_runs_2)] H_9 F_11 [(p_runs, .lst us_runs_2)] H_10 := by exact s_10
            have st := st.trans s_10
            have sb := sb.trans s_10
            have r_trade := r_trade.mono s_10.gr
            have r_legs := r_legs.mono s_10.gr
            have r_n := r_n.mono s_10.gr
            have r_runs_2 := r_runs_2.mono s_10.gr
            have r_3 := r_3.mono s_10.gr
            have r_before_2 := r_before_2.mono s_10.gr
            have hfb := hfb.trans (cond_t hb_3)
            refine zs_set (n := 6) st.ok ze_int sc.nd rfl (by first | exact Or.inl rfl | exact Or.inr rfl) fun v_many F_12 H_11 s_11 r_many => ?_
            obtain ⟨many, hx_many⟩ : ∃ z : Int, z = (1 : Int) := ⟨_, rfl⟩
            have s_11 : Stp F_11 [(p_runs, .lst us_runs_2)] H_10 F_12 [(p_runs, .lst us_runs_2)] H_11 := by exact s_11
            have r_many : R K F_12 v_many (eI many) := by subst hx_many; exact r_many
            have st := st.trans s_11
            have sb := sb.trans s_11
            have r_trade := r_trade.mono s_11.gr
            have r_legs := r_legs.mono s_11.gr
            have r_n := r_n.mono s_11.gr
            have r_runs_2 := r_runs_2.mono s_11.gr
            have r_3 := r_3.mono s_11.gr
            have r_before_2 := r_before_2.mono s_11.gr
            show ZS _ _ [some v_trade, some v_legs, some v_n, some (.ref p_runs), some v_2, some v_before_2, some v_many, z_k, z_after] H_11 _
            have hfb : runsL_L1 trade legs n runs_2 leg = runsL_5 trade legs n runs_2 leg many := by subst hx_many; exact hfb
            refine zs_forF (f := (runsL_L2 trade legs n leg)) (b0 := many) st.ok PassesOwn.never rfl (zi_range2 T.b_range ze_int (ze_var 2 rfl r_n) (by /-1-/ first | omega | (rw [← szL]; omega))) (fun iq b σ F O => ∃ (w1 : V) (z2 : Option V) (z3 : Option V), σ = [some v_trade, some v_legs, some v_n, some (.ref p_runs), some v_2, some v_before_2, some w1, z2, z3] ∧ O = [(p_runs, .lst us_runs_2)] ∧ R K F w1 (eI b) ∧ True) (fun F_23 H_21 s_21 => ⟨v_many, z_k, z_after, rfl, rfl, r_many.mono s_21.gr, trivial⟩) (fun i_2 b_2 k v_3 σ_3 F_13 F_14 O_4 H_12 ha_2 hbe_2 hz_2 rel_2 g_2 s_12 r_4 => ?_) (fun σ_5 F_21 O_6 H_19 s_19 rel_3 => ?_)
            · skip
              obtain ⟨many_2, rfl⟩ : ∃ z, z = b_2 := ⟨_, rfl⟩
              obtain ⟨v_many_2, z_k_2, z_after_2, rfl, rfl, r_many_2, hinv_3⟩ := rel_2
              have r_many_2 : R K _ v_many_2 (eI many_2) := r_many_2
              have st := st.trans s_12
              have sb := sb.trans s_12
              have r_trade := r_trade.mono s_12.gr
              have r_legs := r_legs.mono s_12.gr
              have r_n := r_n.mono s_12.gr
              have r_runs_2 := r_runs_2.mono s_12.gr
              have r_3 := r_3.mono s_12.gr
              have r_before_2 := r_before_2.mono s_12.gr
              have r_many_2 := r_many_2.mono g_2
              have hlt_i_2 := (List.getElem?_eq_some_iff.mp ha_2).1
              rw [rangeI_length] at hlt_i_2
              have hat_i_2 := rangeI_at ha_2
              have sb_2 : Stp F_14 [(p_runs, .lst us_runs_2)] H_12 F_14 [(p_runs, .lst us_runs_2)] H_12 := Stp.refl st.ok
              have hfb_2 : runsL_L2 trade legs n leg many_2 k = runsL_L2b trade legs n leg many_2 k := rfl
              refine zg_name (n := 7) sc.nd rfl (by first | exact Or.inl rfl | exact Or.inr rfl) ?_
              show ZS _ _ [some v_trade, some v_legs, some v_n, some (.ref p_runs), some v_2, some v_before_2, some v_many_2, some v_3, z_after_2] H_12 _
              refine zs_set (n := 8) st.ok (ze_add (ze_var 4 rfl r_3) (ze_var 7 rfl r_4)) sc.nd rfl (by first | exact Or.inl rfl | exact Or.inr rfl) fun v_after F_15 H_13 s_13 r_after => ?_
              obtain ⟨after, hx_after⟩ : ∃ z : Int, z = (leg + k) := ⟨_, rfl⟩
              have s_13 : Stp F_14 [(p_runs, .lst us_runs_2)] H_12 F_15 [(p_runs, .lst us_runs_2)] H_13 := by exact s_13
              have r_after : R K F_15 v_after (eI after) := by subst hx_after; exact r_after
              have st := st.trans s_13
              have sb := sb.trans s_13
              have sb_2 := sb_2.trans s_13
              have r_trade := r_trade.mono s_13.gr
              have r_legs := r_legs.mono s_13.gr
              have r_n := r_n.mono s_13.gr
              have r_runs_2 := r_runs_2.mono s_13.gr
              have r_3 := r_3.mono s_13.gr
              have r_before_2 := r_before_2.mono s_13.gr
              have r_many_2 := r_many_2.mono s_13.gr
              have r_4 := r_4.mono s_13.gr
              show ZS _ _ [some v_trade, some v_legs, some v_n, some (.ref p_runs), some v_2, some v_before_2, some v_many_2, some v_3, some v_after] H_13 _
              have hfb_2 : runsL_L2 trade legs n leg many_2 k = runsL_6 trade legs n many_2 k after := by subst hx_after; exact hfb_2
              refine zs_ifJ st.ok (zt_cm cm_eqS (ze_ixT (ze_var 0 rfl r_trade) ze_int atI_0) ze_str) (fun σ H' => ∃ (j_after : Int) (F : Hp) (O : Own), runsL_L2 trade legs n leg many_2 k = runsL_7 legs many_2 k j_after ∧ Stp F_15 [(p_runs, .lst us_runs_2)] H_13 F O H' ∧ ∃ (w1 : V), σ = [some v_trade, some v_legs, some v_n, some (.ref p_runs), some v_2, some v_before_2, some v_many_2, some v_3, some w1] ∧ O = [(p_runs, .lst us_runs_2)] ∧ R K F w1 (eI j_after) ∧ True) (fun hb_4 F_16 H_14 s_14 => ?_) (fun hb_4 F_16 H_14 s_14 => ?_) (fun σ_4 H_15 hJ_2 => ?_)
              · have s_14 : Stp F_15 [(p_runs, .lst us_runs_2)] H_13 F_16 [(p_runs, .lst us_runs_2)] H_14 := by exact s_14
                have sj_2 := s_14
                have st := st.trans s_14
                have sb := sb.trans s_14
                have sb_2 := sb_2.trans s_14
                have r_trade := r_trade.mono s_14.gr
                have r_legs := r_legs.mono s_14.gr
                have r_n := r_n.mono s_14.gr
                have r_runs_2 := r_runs_2.mono s_14.gr
                have r_3 := r_3.mono s_14.gr
                have r_before_2 := r_before_2.mono s_14.gr
                have r_many_2 := r_many_2.mono s_14.gr
                have r_4 := r_4.mono s_14.gr
                have r_after := r_after.mono s_14.gr
                have hfb_2 := hfb_2.trans (cond_t hb_4)
                refine zs_set (n := 8) st.ok (ze_mod (ze_intI T.b_int (ze_var 8 rfl r_after)) (ze_var 2 rfl r_n) (by /-2-/ first | omega | (rw [← szL]; omega))) sc.nd rfl (by first | exact Or.inl rfl | exact Or.inr rfl) fun v_after_3 F_20 H_18 s_18 r_after_3 => ?_
                obtain ⟨after_2, hx_after_2⟩ : ∃ z : Int, z = (after % n) := ⟨_, rfl⟩
                have s_18 : Stp F_16 [(p_runs, .lst us_runs_2)] H_14 F_20 [(p_runs, .lst us_runs_2)] H_18 := by exact s_18
                have r_after_3 : R K F_20 v_after_3 (eI after_2) := by subst hx_after_2; exact r_after_3
                have st := st.trans s_18
                have sb := sb.trans s_18
                have sb_2 := sb_2.trans s_18
                have sj_2 := sj_2.trans s_18
                have r_trade := r_trade.mono s_18.gr
                have r_legs := r_legs.mono s_18.gr
                have r_n := r_n.mono s_18.gr
                have r_runs_2 := r_runs_2.mono s_18.gr
                have r_3 := r_3.mono s_18.gr
                have r_before_2 := r_before_2.mono s_18.gr
                have r_many_2 := r_many_2.mono s_18.gr
                have r_4 := r_4.mono s_18.gr
                show ZS _ _ [some v_trade, some v_legs, some v_n, some (.ref p_runs), some v_2, some v_before_2, some v_many_2, some v_3, some v_after_3] H_18 _
                have hfb_2 : runsL_L2 trade legs n leg many_2 k = runsL_9 legs many_2 k after_2 := by subst hx_after_2; exact hfb_2
                refine zs_nil ?_
                exact ⟨after_2, _, _, hfb_2, sj_2, v_after_3, rfl, rfl, r_after_3, trivial⟩
              · have s_14 : Stp F_15 [(p_runs, .lst us_runs_2)] H_13 F_16 [(p_runs, .lst us_runs_2)] H_14 := by exact s_14
                have sj_2 := s_14
                have st := st.trans s_14
                have sb := sb.trans s_14
                have sb_2 := sb_2.trans s_14
                have r_trade := r_trade.mono s_14.gr
                have r_legs := r_legs.mono s_14.gr
                have r_n := r_n.mono s_14.gr
                have r_runs_2 := r_runs_2.mono s_14.gr
                have r_3 := r_3.mono s_14.gr
                have r_before_2 := r_before_2.mono s_14.gr
                have r_many_2 := r_many_2.mono s_14.gr
                have r_4 := r_4.mono s_14.gr
                have r_after := r_after.mono s_14.gr
                have hfb_2 := hfb_2.trans (cond_f hb_4)
                refine zs_nil ?_
                exact ⟨after, _, _, hfb_2, sj_2, v_after, rfl, rfl, r_after, trivial⟩
              · obtain ⟨j_after, F_17, O_5, hfb_2, s_15, hJ_2⟩ := hJ_2
                obtain ⟨v_after_2, rfl, rfl, r_after_2, hinv_4⟩ := hJ_2
                have r_after_2 : R K _ v_after_2 (eI j_after) := r_after_2
                have st := st.trans s_15
                have sb := sb.trans s_15
                have sb_2 := sb_2.trans s_15
                have r_trade := r_trade.mono s_15.gr
                have r_legs := r_legs.mono s_15.gr
                have r_n := r_n.mono s_15.gr
                have r_runs_2 := r_runs_2.mono s_15.gr
                have r_3 := r_3.mono s_15.gr
                have r_before_2 := r_before_2.mono s_15.gr
                have r_many_2 := r_many_2.mono s_15.gr
                have r_4 := r_4.mono s_15.gr
                show ZS _ _ [some v_trade, some v_legs, some v_n, some (.ref p_runs), some v_2, some v_before_2, some v_many_2, some v_3, some v_after_2] H_15 _
                refine zs_if st.ok (zt_w (zw_and (zt_cm cm_eqI (ze_var 6 rfl r_many_2) (ze_var 7 rfl r_4)) fun hb => (zw_and1 (zt_cm cm_inI (ze_var 8 rfl r_after_2) (ze_var 1 rfl r_legs))))) (fun hb_5 F_18 H_16 s_16 => ?_) (fun hb_5 F_18 H_16 s_16 => ?_)
                · have s_16 : Stp F_17 [(p_runs, .lst us_runs_2)] H_15 F_18 [(p_runs, .lst us_runs_2)] H_16 := by exact s_16
                  have st := st.trans s_16
                  have sb := sb.trans s_16
                  have sb_2 := sb_2.trans s_16
                  have r_trade := r_trade.mono s_16.gr
                  have r_legs := r_legs.mono s_16.gr
                  have r_n := r_n.mono s_16.gr
                  have r_runs_2 := r_runs_2.mono s_16.gr
                  have r_3 := r_3.mono s_16.gr
                  have r_before_2 := r_before_2.mono s_16.gr
                  have r_many_2 := r_many_2.mono s_16.gr
                  have r_4 := r_4.mono s_16.gr
                  have r_after_2 := r_after_2.mono s_16.gr
                  have hfb_2 := hfb_2.trans (cond_t hb_5)
                  refine zs_set (n := 6) st.ok (ze_add (ze_var 7 rfl r_4) ze_int) sc.nd rfl (by first | exact Or.inl rfl | exact Or.inr rfl) fun v_many_3 F_19 H_17 s_17 r_many_3 => ?_
                  obtain ⟨many_3, hx_many_3⟩ : ∃ z : Int, z = (k + (1 : Int)) := ⟨_, rfl⟩
                  have s_17 : Stp F_18 [(p_runs, .lst us_runs_2)] H_16 F_19 [(p_runs, .lst us_runs_2)] H_17 := by exact s_17
                  have r_many_3 : R K F_19 v_many_3 (eI many_3) := by subst hx_many_3; exact r_many_3
                  have st := st.trans s_17
                  have sb := sb.trans s_17
                  have sb_2 := sb_2.trans s_17
                  have r_trade := r_trade.mono s_17.gr
                  have r_legs := r_legs.mono s_17.gr
                  have r_n := r_n.mono s_17.gr
                  have r_runs_2 := r_runs_2.mono s_17.gr
                  have r_3 := r_3.mono s_17.gr
                  have r_before_2 := r_before_2.mono s_17.gr
                  have r_4 := r_4.mono s_17.gr
                  have r_after_2 := r_after_2.mono s_17.gr
                  show ZS _ _ [some v_trade, some v_legs, some v_n, some (.ref p_runs), some v_2, some v_before_2, some v_many_3, some v_3, some v_after_2] H_17 _
                  have hfb_2 : runsL_L2 trade legs n leg many_2 k = runsL_8 many_3 := by subst hx_many_3; exact hfb_2
                  refine zs_nil ?_
                  show ZS _ _ [some v_trade, some v_legs, some v_n, some (.ref p_runs), some v_2, some v_before_2, some v_many_3, some v_3, some v_after_2] H_17 _
                  refine zs_nil ?_
                  exact ⟨_, _, sb_2, by (try rw [hfb_2]); exact ⟨v_many_3, some v_3, some v_after_2, rfl, rfl, r_many_3, trivial⟩⟩
                · have s_16 : Stp F_17 [(p_runs, .lst us_runs_2)] H_15 F_18 [(p_runs, .lst us_runs_2)] H_16 := by exact s_16
                  have st := st.trans s_16
                  have sb := sb.trans s_16
                  have sb_2 := sb_2.trans s_16
                  have r_trade := r_trade.mono s_16.gr
                  have r_legs := r_legs.mono s_16.gr
                  have r_n := r_n.mono s_16.gr
                  have r_runs_2 := r_runs_2.mono s_16.gr
                  have r_3 := r_3.mono s_16.gr
                  have r_before_2 := r_before_2.mono s_16.gr
                  have r_many_2 := r_many_2.mono s_16.gr
                  have r_4 := r_4.mono s_16.gr
                  have r_after_2 := r_after_2.mono s_16.gr
                  have hfb_2 := hfb_2.trans (cond_f hb_5)
                  refine zs_nil ?_
                  show ZS _ _ [some v_trade, some v_legs, some v_n, some (.ref p_runs), some v_2, some v_before_2, some v_many_2, some v_3, some v_after_2] H_16 _
                  refine zs_nil ?_
                  exact ⟨_, _, sb_2, by (try rw [hfb_2]); exact ⟨v_many_2, some v_3, some v_after_2, rfl, rfl, r_many_2, trivial⟩⟩
            · skip
              obtain ⟨b_3, hb_6⟩ : ∃ z : (Int), z = List.foldl (runsL_L2 trade legs n leg) many (rangeI (1 : Int) n) := ⟨_, rfl⟩
              try rw [← hb_6] at rel_3
              obtain ⟨many_4, rfl⟩ : ∃ z, z = b_3 := ⟨_, rfl⟩
              obtain ⟨v_many_4, z_k_3, z_after_3, rfl, rfl, r_many_4, hinv_5⟩ := rel_3
              have r_many_4 : R K _ v_many_4 (eI many_4) := r_many_4
              have st := st.trans s_19
              have sb := sb.trans s_19
              have r_trade := r_trade.mono s_19.gr
              have r_legs := r_legs.mono s_19.gr
              have r_n := r_n.mono s_19.gr
              have r_runs_2 := r_runs_2.mono s_19.gr
              have r_3 := r_3.mono s_19.gr
              have r_before_2 := r_before_2.mono s_19.gr
              have hfb : runsL_L1 trade legs n runs_2 leg = (runsL_10 runs_2 leg) many_4 := by rw [hb_6]; exact hfb
              show ZS _ _ [some v_trade, some v_legs, some v_n, some (.ref p_runs), some v_2, some v_before_2, some v_many_4, z_k_3, z_after_3] H_19 _
              have hl : us_runs_2.length = runs_2.length := by have h := r_runs_2.len; rw [List.length_map] at h; exact h
              refine zs_append st.ok 3 0 rfl (ze_tup (za_cons (ze_var 4 rfl r_3) (za_cons (ze_var 6 rfl r_many_4) za_nil))) rfl (by rw [hl]; exact (by /-3-/ first | omega | (rw [← szL]; omega))) fun v_4 F_22 H_20 s_20 r_5 => ?_
              obtain ⟨runs_3, hx_runs_3⟩ : ∃ z : (List (Int × Int)), z = runs_2 ++ [(leg, many_4)] := ⟨_, rfl⟩
              obtain ⟨us_runs_3, hus_runs_3⟩ : ∃ z, z = us_runs_2 ++ [v_4] := ⟨_, rfl⟩
              have s_20 : Stp F_21 [(p_runs, .lst us_runs_2)] H_19 F_22 [(p_runs, .lst us_runs_3)] H_20 := by subst hus_runs_3; exact s_20
              have r_runs_3 : RA K F_22 us_runs_3 (runs_3.map (eT2 eI eI)) := by rw [hus_runs_3, hx_runs_3, List.map_append]; exact (r_runs_2.mono s_20.gr).snoc r_5
              have st := st.trans s_20
              have sb := sb.trans s_20
              have r_trade := r_trade.mono s_20.gr
              have r_legs := r_legs.mono s_20.gr
              have r_n := r_n.mono s_20.gr
              have r_3 := r_3.mono s_20.gr
              have r_before_2 := r_before_2.mono s_20.gr
              have r_many_4 := r_many_4.mono s_20.gr
              show ZS _ _ [some v_trade, some v_legs, some v_n, some (.ref p_runs), some v_2, some v_before_2, some v_many_4, z_k_3, z_after_3] H_20 _
              have hfb : runsL_L1 trade legs n runs_2 leg = runsL_11 runs_3 := by subst hx_runs_3; exact hfb
              refine zs_nil ?_
              show ZS _ _ [some v_trade, some v_legs, some v_n, some (.ref p_runs), some v_2, some v_before_2, some v_many_4, z_k_3, z_after_3] H_20 _
              refine zs_nil ?_
              exact ⟨_, _, sb, by (try rw [hfb]); exact ⟨some v_2, some v_before_2, some v_many_4, z_k_3, z_after_3, us_runs_3, rfl, rfl, r_runs_3, (show runs_3.length ≤ (i + 1) from by first | (rw [hx_runs_3, List.length_append]; show _ + 1 ≤ _; omega) | omega)⟩⟩
          · have s_10 : Stp F_10 [(p_runs, .lst us_runs_2)] H_9 F_11 [(p_runs, .lst us_runs_2)] H_10 := by exact s_10
            have st := st.trans s_10
            have sb := sb.trans s_10
            have r_trade := r_trade.mono s_10.gr
            have r_legs := r_legs.mono s_10.gr
            have r_n := r_n.mono s_10.gr
            have r_runs_2 := r_runs_2.mono s_10.gr
            have r_3 := r_3.mono s_10.gr
            have r_before_2 := r_before_2.mono s_10.gr
            have hfb := hfb.trans (cond_f hb_3)
            refine zs_nil ?_
            show ZS _ _ [some v_trade, some v_legs, some v_n, some (.ref p_runs), some v_2, some v_before_2, z_many, z_k, z_after] H_10 _
            refine zs_nil ?_
            exact ⟨_, _, sb, by (try rw [hfb]); exact ⟨some v_2, some v_before_2, z_many, z_k, z_after, us_runs_2, rfl, rfl, r_runs_2, (show runs_2.length ≤ (i + 1) from by first | (rw [hx_runs_2, List.length_append]; show _ + 1 ≤ _; omega) | omega)⟩⟩
      · skip
        obtain ⟨b_4, hb_7⟩ : ∃ z : ((List (Int × Int))), z = List.foldl (runsL_L1 trade legs n) runs legs := ⟨_, rfl⟩
        try rw [← hb_7] at rel_4
        obtain ⟨runs_4, rfl⟩ : ∃ z, z = b_4 := ⟨_, rfl⟩
        obtain ⟨z_leg_2, z_before_2, z_many_2, z_k_4, z_after_4, us_runs_4, rfl, rfl, r_runs_4, hinv_6⟩ := rel_4
        have r_runs_4 : RA K _ us_runs_4 (runs_4.map (eT2 eI eI)) := r_runs_4
        have st := st.trans s_23
        have r_trade := r_trade.mono s_23.gr
        have r_legs := r_legs.mono s_23.gr
        have r_n := r_n.mono s_23.gr
        have hinv_6 : runs_4.length ≤ legs.length := hinv_6
        have hf : runsL trade legs = runsL_13 runs_4 := by rw [hb_7]; exact hf
        show ZS _ _ [some v_trade, some v_legs, some v_n, some (.ref p_runs), z_leg_2, z_before_2, z_many_2, z_k_4, z_after_4] H_23 _
        have gz : Gr F_25 (upd F_25 p_runs (.lst us_runs_4)) := Gr.upd (st.ok.at_ (k := 0) rfl).2
        have r_runs_5 : R K (upd F_25 p_runs (.lst us_runs_4)) (.ref p_runs) (eL (eT2 eI eI) runs_4) := (r_runs_4.mono gz).lst upd_same
        have st : Stp _ _ _ (upd F_25 p_runs (.lst us_runs_4)) [] H_23 := st.freezeAt 0 rfl hn
        have r_trade := r_trade.mono gz
        have r_legs := r_legs.mono gz
        have r_n := r_n.mono gz
        show ZS _ _ [some v_trade, some v_legs, some v_n, some (.ref p_runs), z_leg_2, z_before_2, z_many_2, z_k_4, z_after_4] H_23 _
        refine zs_ret st.ok (zn_ze (zn_sortP T.b_sorted (ze_var 3 rfl r_runs_5))) fun v_5 F_27 H_24 s_24 r_6 => ?_
        exact q v_5 F_27 H_24 (st.trans s_24) (by rw [hf]; exact r_6)
theorem rangeI_nil {lo hi : Int} (h : hi ≤ lo) : rangeI lo hi = [] := by
  apply List.eq_nil_of_length_eq_zero
  rw [rangeI_length]; omega
theorem rangeI_get {lo hi : Int} {i : Nat} (h : i < (hi - lo).toNat) : (rangeI lo hi)[i]? = some (lo + (i : Int)) := by
  unfold rangeI
  rw [List.getElem?_map, List.getElem?_range h]; rfl
theorem rangeI_none {lo hi : Int} {i : Nat} (h : (hi - lo).toNat ≤ i) : (rangeI lo hi)[i]? = none := List.getElem?_eq_none_iff.mpr (by rw [rangeI_length]; exact h)
theorem rangeI_app {lo mid hi : Int} (h1 : lo ≤ mid) (h2 : mid ≤ hi) : rangeI lo mid ++ rangeI mid hi = rangeI lo hi := by
  apply List.ext_getElem?
  intro i
  rw [List.getElem?_append, rangeI_length]
  split
  · rw [rangeI_get (by omega), rangeI_get (by omega)]
  · by_cases h : i < (hi - lo).toNat
    · rw [rangeI_get (by omega), rangeI_get (by omega)]
      congr 1; omega
    · rw [rangeI_none (by omega), rangeI_none (by omega)]
theorem rangeI_cons {lo hi : Int} (h : lo < hi) : rangeI lo hi = lo :: rangeI (lo + 1) hi := by
  rw [← rangeI_app (mid := lo + 1) (by omega) (by omega)]
  have : rangeI lo (lo + 1) = [lo] := by
    apply List.ext_getElem?
    intro i
    cases i with
    | zero => rw [rangeI_get (by omega)]; simp
    | succ i => rw [rangeI_none (by omega)]; rfl
  rw [this]; rfl
theorem rangeI_snoc {lo hi : Int} (h : lo ≤ hi) : rangeI lo (hi + 1) = rangeI lo hi ++ [hi] := by
  rw [← rangeI_app (mid := hi) h (by omega), rangeI_cons (lo := hi) (by omega), rangeI_nil (lo := hi + 1) (by omega)]
theorem rangeI_pw (lo hi : Int) : (rangeI lo hi).Pairwise (· < ·) := by
  unfold rangeI
  rw [List.pairwise_map]
  exact List.pairwise_lt_range.imp fun {a b} h => by omega
/-! ### the runs of sorted legs -/
structure RunInv (R : List (Int × Int)) (pre : List Int) : Prop where
  each : ∀ p ∈ R, 1 ≤ p.2 ∧ p.1 - 1 ∉ pre ∧ p.1 + p.2 ∉ pre ∧ ∀ x, p.1 ≤ x → x < p.1 + p.2 → x ∈ pre
  all : ∀ x ∈ pre, ∃ p ∈ R, p.1 ≤ x ∧ x < p.1 + p.2
  srt : R.Pairwise fun p q => p.1 + p.2 < q.1
theorem ixL_last {R : List (Int × Int)} {q : Int × Int} : ixL (R ++ [q]) (-1) = q := by
  unfold ixL atI
  have : ixN (R ++ [q]).length (-1) = some R.length := by
    unfold ixN
    rw [List.length_append]
    simp
    omega
  rw [this]; simp
theorem setL_last {R : List (Int × Int)} {q r : Int × Int} : setL (R ++ [q]) (-1) r = R ++ [r] := by
  have : ixN (R ++ [q]).length (-1) = some R.length := by
    unfold ixN
    rw [List.length_append]
    simp
    omega
  rw [setL_eq this]; simp
theorem run_step {R : List (Int × Int)} {pre : List Int} {leg : Int} (h : RunInv R pre) (hl : ∀ x ∈ pre, x < leg) : RunInv (runs_ofP_L1 R leg) (pre ++ [leg]) := by
  rcases List.eq_nil_or_concat R with rfl | ⟨R', q, e⟩
  · have hp : pre = [] := by
      cases pre with
      | nil => rfl
      | cons x xs => obtain ⟨p, hp, _⟩ := h.all x List.mem_cons_self; cases hp
    subst hp
    show RunInv [(leg, 1)] [leg]
    refine ⟨fun p hp => ?_, fun x hx => ?_, List.pairwise_singleton _ _⟩
    · rw [List.mem_singleton.mp hp]
      refine ⟨Int.le_refl _, ?_, ?_, fun x h1 h2 => ?_⟩
      · simp; omega
      · simp; omega
      · simp; omega
    · rw [List.mem_singleton.mp hx]
      exact ⟨(leg, 1), List.mem_singleton.mpr rfl, Int.le_refl _, by show leg < leg + 1; omega⟩
  · rw [List.concat_eq_append] at e
    subst e
    have hq := h.each q (by simp)
    have hs := List.pairwise_append.mp h.srt
    have hqx : q.1 + q.2 - 1 < leg := hl _ (hq.2.2.2 _ (by omega) (by omega))
    have eq1 : runs_ofP_L1 (R' ++ [q]) leg = cond (decide (q.1 + q.2 = leg)) (R' ++ [(q.1, q.2 + 1)]) (R' ++ [q] ++ [(leg, 1)]) := by
      show cond (decide ((0 : Int) < ((R' ++ [q]).length : Int)) && decide ((ixL (R' ++ [q]) (-1)).1 + (ixL (R' ++ [q]) (-1)).2 = leg)) (setL (R' ++ [q]) (-1) ((ixL (R' ++ [q]) (-1)).1, (ixL (R' ++ [q]) (-1)).2 + 1)) (R' ++ [q] ++ [(leg, 1)]) = _
      rw [ixL_last, setL_last, decide_eq_true (p := (0 : Int) < ((R' ++ [q]).length : Int)) (by rw [List.length_append]; show (0 : Int) < ((_ + 1 : Nat) : Int); omega), Bool.true_and]
    rw [eq1]
    by_cases hc : q.1 + q.2 = leg
    · rw [cond_t (decide_eq_true hc)]
      refine ⟨fun p hp => ?_, fun x hx => ?_, ?_⟩
      · rcases List.mem_append.mp hp with hp | hp
        · obtain ⟨a1, a2, a3, a4⟩ := h.each p (List.mem_append_left _ hp)
          have := hs.2.2 p hp q (List.mem_singleton.mpr rfl)
          refine ⟨a1, ?_, ?_, fun x h1 h2 => List.mem_append_left _ (a4 x h1 h2)⟩
          · rw [List.mem_append, List.mem_singleton]; rintro (z | z)
            · exact a2 z
            · omega
          · rw [List.mem_append, List.mem_singleton]; rintro (z | z)
            · exact a3 z
            · omega
        · rw [List.mem_singleton.mp hp]
          refine ⟨by show 1 ≤ q.2 + 1; omega, ?_, ?_, fun x (h1 : q.1 ≤ x) (h2 : x < q.1 + (q.2 + 1)) => ?_⟩
          · rw [List.mem_append, List.mem_singleton]; rintro (z | z)
            · exact hq.2.1 z
            · have z : q.1 - 1 = leg := z; omega
          · show q.1 + (q.2 + 1) ∉ _
            rw [List.mem_append, List.mem_singleton]; rintro (z | z)
            · have := hl _ z; omega
            · omega
          · rw [List.mem_append, List.mem_singleton]
            by_cases hx : x = leg
            · exact .inr hx
            · exact .inl (hq.2.2.2 x h1 (by omega))
      · rcases List.mem_append.mp hx with hx | hx
        · obtain ⟨p, hp, g1, g2⟩ := h.all x hx
          rcases List.mem_append.mp hp with hp | hp
          · exact ⟨p, List.mem_append_left _ hp, g1, g2⟩
          · rw [List.mem_singleton.mp hp] at g1 g2
            exact ⟨(q.1, q.2 + 1), by simp, g1, by show x < q.1 + (q.2 + 1); omega⟩
        · rw [List.mem_singleton.mp hx]
          exact ⟨(q.1, q.2 + 1), by simp, by show q.1 ≤ leg; omega, by show leg < q.1 + (q.2 + 1); omega⟩
      · refine List.pairwise_append.mpr ⟨hs.1, List.pairwise_singleton _ _, fun a ha b hb => ?_⟩
        rw [List.mem_singleton.mp hb]
        exact hs.2.2 a ha q (List.mem_singleton.mpr rfl)
    · rw [cond_f (decide_eq_false hc)]
      refine ⟨fun p hp => ?_, fun x hx => ?_, ?_⟩
      · rcases List.mem_append.mp hp with hp | hp
        · obtain ⟨a1, a2, a3, a4⟩ := h.each p hp
          have hpx : p.1 + p.2 - 1 < leg := hl _ (a4 _ (by omega) (by omega))
          have hpq : p.1 + p.2 ≠ leg := by
            rcases List.mem_append.mp hp with hp | hp
            · have := hs.2.2 p hp q (List.mem_singleton.mpr rfl); omega
            · rw [List.mem_singleton.mp hp]; exact hc
          refine ⟨a1, ?_, ?_, fun x h1 h2 => List.mem_append_left _ (a4 x h1 h2)⟩
          · rw [List.mem_append, List.mem_singleton]; rintro (z | z)
            · exact a2 z
            · omega
          · rw [List.mem_append, List.mem_singleton]; rintro (z | z)
            · exact a3 z
            · omega
        · rw [List.mem_singleton.mp hp]
          refine ⟨Int.le_refl _, ?_, ?_, fun x (h1 : leg ≤ x) (h2 : x < leg + 1) => ?_⟩
          · show leg - 1 ∉ _
            rw [List.mem_append, List.mem_singleton]; rintro (z | z)
            · obtain ⟨p, hp, g1, g2⟩ := h.all _ z
              rcases List.mem_append.mp hp with hp | hp
              · have := hs.2.2 p hp q (List.mem_singleton.mpr rfl); omega
              · rw [List.mem_singleton.mp hp] at g1 g2; omega
            · omega
          · show leg + 1 ∉ _
            rw [List.mem_append, List.mem_singleton]; rintro (z | z)
            · have := hl _ z; omega
            · omega
          · rw [List.mem_append, List.mem_singleton]; exact .inr (by omega)
      · rcases List.mem_append.mp hx with hx | hx
        · obtain ⟨p, hp, g⟩ := h.all x hx
          exact ⟨p, List.mem_append_left _ hp, g⟩
        · rw [List.mem_singleton.mp hx]
          exact ⟨(leg, 1), by simp, Int.le_refl _, by show leg < leg + 1; omega⟩
      · refine List.pairwise_append.mpr ⟨h.srt, List.pairwise_singleton _ _, fun a ha b hb => ?_⟩
        rw [List.mem_singleton.mp hb]
        obtain ⟨a1, a2, a3, a4⟩ := h.each a ha
        have hpx : a.1 + a.2 - 1 < leg := hl _ (a4 _ (by omega) (by omega))
        show a.1 + a.2 < leg
        rcases List.mem_append.mp ha with ha | ha
        · have := hs.2.2 a ha q (List.mem_singleton.mpr rfl); omega
        · rw [List.mem_singleton.mp ha]; omega
theorem run_fold : ∀ (suf : List Int) {R : List (Int × Int)} {pre : List Int}, RunInv R pre → (pre ++ suf).Pairwise (· < ·) → RunInv (suf.foldl runs_ofP_L1 R) (pre ++ suf)
  | [], R, pre, h, _ => by rw [List.append_nil]; exact h
  | x :: suf, R, pre, h, hp => by
    have e : pre ++ x :: suf = (pre ++ [x]) ++ suf := by simp
    have h2 := run_step h fun y hy => (List.pairwise_append.mp hp).2.2 y hy x List.mem_cons_self
    rw [e] at hp ⊢
    exact run_fold suf h2 hp
theorem run_inv {legs : List Int} (h : legs.Pairwise (· < ·)) : RunInv (legs.foldl runs_ofP_L1 []) legs := by
  have := run_fold legs (R := []) (pre := []) ⟨fun p hp => (nomatch hp), fun x hx => (nomatch hx), List.Pairwise.nil⟩ (by simpa using h)
  simpa using this
/-! ### how many legs, counted step by step -/
theorem many_fold {P : Int → Bool} {l : Int} : ∀ (m : Nat) {lo hi : Int}, (hi - lo).toNat = m → 1 ≤ lo → lo ≤ hi → hi ≤ l → (∀ k, 1 ≤ k → k < l → P k = true) → (rangeI lo hi).foldl (fun b k => cond (decide (b = k) && P k) (k + 1) b) lo = hi
  | 0, lo, hi, e, h1, h2, h3, hp => by
    rw [rangeI_nil (by omega)]
    show lo = hi
    omega
  | m + 1, lo, hi, e, h1, h2, h3, hp => by
    rw [rangeI_cons (by omega), List.foldl_cons, hp lo h1 (by omega), decide_eq_true rfl]
    show (rangeI (lo + 1) hi).foldl _ (lo + 1) = hi
    exact many_fold m (by omega) (by omega) (by omega) h3 hp
theorem many_rest {P : Int → Bool} {l : Int} : ∀ (xs : List Int), (∀ k ∈ xs, k = l → P k = false) → xs.foldl (fun b k => cond (decide (b = k) && P k) (k + 1) b) l = l
  | [], _ => rfl
  | x :: xs, h => by
    have : (cond (decide (l = x) && P x) (x + 1) l) = l := by
      refine cond_f ?_
      by_cases e : l = x
      · rw [h x List.mem_cons_self e.symm, Bool.and_false]
      · rw [decide_eq_false e, Bool.false_and]
    rw [List.foldl_cons, this]
    exact many_rest xs fun k hk => h k (List.mem_cons_of_mem _ hk)
theorem many_is {P : Int → Bool} {n l : Int} (h1 : 1 ≤ l) (h2 : l ≤ n) (hp : ∀ k, 1 ≤ k → k < l → P k = true) (hl : l < n → P l = false) : (rangeI 1 n).foldl (fun b k => cond (decide (b = k) && P k) (k + 1) b) 1 = l := by
  rw [← rangeI_app (mid := l) h1 h2, List.foldl_append, many_fold _ rfl (Int.le_refl _) h1 (Int.le_refl _) hp]
  exact many_rest _ fun k hk e => by
    have := rangeI_mem.mp hk
    rw [e]; exact hl (by omega)
theorem sub_len : ∀ {a b : List Int}, a.Nodup → (∀ x ∈ a, x ∈ b) → a.length ≤ b.length
  | [], _, _, _ => Nat.zero_le _
  | x :: a, b, nd, h => by
    obtain ⟨n1, n2⟩ := List.nodup_cons.mp nd
    have h1 := h x List.mem_cons_self
    have h2 := sub_len (b := b.erase x) n2 fun y hy => (List.mem_erase_of_ne (fun (e : y = x) => n1 (by rw [← e]; exact hy))).mpr (h y (List.mem_cons_of_mem _ hy))
    rw [List.length_erase_of_mem h1] at h2
    have := List.length_pos_of_mem h1
    rw [List.length_cons]; omega
/-! ### the law's runs -/
def preL (t : Str × Int) (x : Int) : Int := cond (decide (t.1 = Str.ofString "round") && decide (x = 0)) (t.2 - 1) (x - 1)
def aftL (t : Str × Int) (x k : Int) : Int := cond (decide (t.1 = Str.ofString "round")) ((x + k) % t.2) (x + k)
def manyL (t : Str × Int) (legs : List Int) (x : Int) : Int := (rangeI 1 t.2).foldl (fun b k => cond (decide (b = k) && decide (aftL t x k ∈ legs)) (k + 1) b) 1
theorem manyL_eq (t : Str × Int) (legs : List Int) (x : Int) : (rangeI 1 t.2).foldl (runsL_L2 t legs t.2 x) 1 = manyL t legs x := by
  unfold manyL
  congr 1
  funext b k
  show cond (decide (t.1 = Str.ofString "round")) (cond (decide (b = k) && decide ((x + k) % t.2 ∈ legs)) (k + 1) b) (cond (decide (b = k) && decide (x + k ∈ legs)) (k + 1) b) = _
  unfold aftL
  cases decide (t.1 = Str.ofString "round") <;> rfl
theorem runsL_fold (t : Str × Int) (legs : List Int) : ∀ (xs : List Int) (R : List (Int × Int)), xs.foldl (runsL_L1 t legs t.2) R = R ++ ((xs.filter fun x => !decide (preL t x ∈ legs)).map fun x => (x, manyL t legs x))
  | [], R => by simp
  | x :: xs, R => by
    have e : runsL_L1 t legs t.2 R x = cond (!decide (preL t x ∈ legs)) (R ++ [(x, manyL t legs x)]) R := by
      rw [← manyL_eq]
      show cond (decide (t.1 = Str.ofString "round") && decide (x = 0)) (cond (!decide (t.2 - 1 ∈ legs)) (R ++ [(x, (rangeI 1 t.2).foldl (runsL_L2 t legs t.2 x) 1)]) R) (cond (!decide (x - 1 ∈ legs)) (R ++ [(x, (rangeI 1 t.2).foldl (runsL_L2 t legs t.2 x) 1)]) R) = _
      unfold preL
      cases (decide (t.1 = Str.ofString "round") && decide (x = 0)) <;> rfl
    rw [List.foldl_cons, e, runsL_fold t legs xs, List.filter_cons]
    cases (!decide (preL t x ∈ legs)) with
    | true => rw [if_pos rfl, List.map_cons]; show (R ++ [_]) ++ _ = _; rw [List.append_assoc]; rfl
    | false => rw [if_neg (by decide)]; rfl
/-- a sorted list of runs that has the law's starts and lengths is the law's list -/
theorem runs_char {t : Str × Int} {legs : List Int} {R : List (Int × Int)} (hl : legs.Pairwise (· < ·)) (hs : (R.map (·.1)).Pairwise (· < ·)) (hm : ∀ x, x ∈ R.map (·.1) ↔ x ∈ legs ∧ preL t x ∉ legs) (hn : ∀ p ∈ R, manyL t legs p.1 = p.2) :
    sortP (legs.foldl (runsL_L1 t legs t.2) []) = R := by
  rw [runsL_fold, List.nil_append]
  have hf : (legs.filter fun x => !decide (preL t x ∈ legs)) = R.map (·.1) := by
    have h1 := hl.filter fun x => !decide (preL t x ∈ legs)
    refine sorted_unique ((List.perm_ext_iff_of_nodup (h1.imp fun h => by omega) (hs.imp fun h => by omega)).mpr fun x => ?_) (h1.imp fun h => by omega) (hs.imp fun h => by omega)
    rw [List.mem_filter, hm x]
    simp
  rw [hf, List.map_map]
  have e : R.map ((fun x => (x, manyL t legs x)) ∘ (·.1)) = R := by
    conv => rhs; rw [← List.map_id R]
    exact List.map_congr_left fun p hp => by show (p.1, manyL t legs p.1) = p; rw [hn p hp]
  rw [e]
  refine sortP_of ?_
  rw [List.pairwise_map] at hs
  exact hs.imp fun h => leP_iff.mpr (.inl h)
theorem runs_eq {t : Str × Int} {legs : List Int} (hT : okT t) (hL : okL t.2 legs) : runsL t legs = runs_ofP t legs := by
  have iv := run_inv hL.1
  obtain ⟨ht1, ht2, ht3⟩ := hT
  show cond (decide ((legs.length : Int) = t.2)) [((0 : Int), t.2)] (sortP (legs.foldl (runsL_L1 t legs t.2) [])) = runs_ofP_4 t (legs.foldl runs_ofP_L1 [])
  generalize hR : legs.foldl runs_ofP_L1 [] = R at iv
  have hin : ∀ p ∈ R, p.1 ∈ legs := fun p hp => (iv.each p hp).2.2.2 _ (Int.le_refl _) (by have := (iv.each p hp).1; omega)
  have hb : ∀ p ∈ R, 0 ≤ p.1 ∧ p.1 + p.2 ≤ t.2 := fun p hp => by
    have h1 := iv.each p hp
    have h2 := hL.2 _ (hin p hp)
    have h3 := hL.2 _ (h1.2.2.2 (p.1 + p.2 - 1) (by omega) (by omega))
    omega
  have hst : (R.map (·.1)).Pairwise (· < ·) := by
    rw [List.pairwise_map]
    exact iv.srt.imp_of_mem fun {a b} ha _ h => by have := (iv.each a ha).1; omega
  by_cases hall : (legs.length : Int) = t.2
  · -- all legs
    rw [cond_t (decide_eq_true hall)]
    have hfull : ∀ x, 0 ≤ x → x < t.2 → x ∈ legs := fun x h0 h1 => by
      rcases Classical.em (x ∈ legs) with hx | hx
      · exact hx
      · exfalso
        have := sub_len (a := x :: legs) (b := rangeI 0 t.2) (List.nodup_cons.mpr ⟨hx, hL.1.imp fun h => by omega⟩) fun y hy => by
          rcases List.mem_cons.mp hy with rfl | hy
          · exact rangeI_mem.mpr ⟨h0, h1⟩
          · exact rangeI_mem.mpr (hL.2 y hy)
        rw [rangeI_length, List.length_cons] at this
        omega
    have hone : ∀ p ∈ R, p = ((0 : Int), t.2) := fun p hp => by
      obtain ⟨a1, a2, a3, a4⟩ := iv.each p hp
      have h2 := hb p hp
      have e1 : p.1 = 0 := by
        rcases Int.lt_or_le 0 p.1 with h | h
        · exact absurd (hfull (p.1 - 1) (by omega) (by omega)) a2
        · omega
      have e2 : p.2 = t.2 := by
        rcases Int.lt_or_le (p.1 + p.2) t.2 with h | h
        · exact absurd (hfull (p.1 + p.2) (by omega) h) a3
        · omega
      exact Prod.ext e1 e2
    have hR1 : R = [((0 : Int), t.2)] := by
      cases R with
      | nil =>
        obtain ⟨p, hp, _⟩ := iv.all 0 (hfull 0 (Int.le_refl _) (by omega))
        cases hp
      | cons p R' =>
        have e1 := hone p List.mem_cons_self
        cases R' with
        | nil => rw [e1]
        | cons q R'' =>
          have e2 := hone q (by simp)
          have := (List.pairwise_cons.mp iv.srt).1 q List.mem_cons_self
          rw [e1, e2] at this
          have : (0 : Int) + t.2 < 0 := this
          omega
    rw [hR1]
    symm
    exact cond_t (by simp)
  · rw [cond_f (decide_eq_false hall)]
    have hcov : ∀ x ∈ legs, x - 1 ∉ legs → x ∈ R.map (·.1) := fun x hx hn => by
      obtain ⟨p, hp, g1, g2⟩ := iv.all x hx
      rcases Int.lt_or_le p.1 x with h | h
      · exact absurd ((iv.each p hp).2.2.2 (x - 1) (by omega) (by omega)) hn
      · exact List.mem_map.mpr ⟨p, hp, by show p.1 = x; omega⟩
    have hshort : ∀ p ∈ R, p.2 < t.2 := fun p hp => by
      rcases Int.lt_or_le p.2 t.2 with h | h
      · exact h
      · exfalso
        have h2 := hb p hp
        have hsub : ∀ y ∈ rangeI 0 t.2, y ∈ legs := fun y hy => by
          have := rangeI_mem.mp hy
          exact (iv.each p hp).2.2.2 y (by omega) (by omega)
        have := sub_len ((rangeI_pw 0 t.2).imp fun h => by omega) hsub
        have h4 := okL_le hL (by omega)
        rw [rangeI_length] at this
        omega
    -- no run goes round
    have plain : (t.1 = Str.ofString "round" → ¬ ((0 : Int) ∈ legs ∧ t.2 - 1 ∈ legs)) → sortP (legs.foldl (runsL_L1 t legs t.2) []) = R := fun hw => by
      refine runs_char hL.1 hst (fun x => ?_) fun p hp => ?_
      · have hpre : x ∈ legs → (preL t x ∉ legs ↔ x - 1 ∉ legs) := fun hx => by
          unfold preL
          cases e : (decide (t.1 = Str.ofString "round") && decide (x = 0)) with
          | false => exact Iff.rfl
          | true =>
            obtain ⟨e1, e2⟩ := Bool.and_eq_true_iff.mp e
            have e1 := of_decide_eq_true e1
            have e2 := of_decide_eq_true e2
            subst e2
            exact ⟨fun _ z => by have := hL.2 _ z; omega, fun _ z => hw e1 ⟨hx, z⟩⟩
        constructor
        · intro h
          obtain ⟨p, hp, e⟩ := List.mem_map.mp h
          have e : p.1 = x := e
          subst e
          exact ⟨hin p hp, (hpre (hin p hp)).mpr (iv.each p hp).2.1⟩
        · rintro ⟨hx, hn⟩
          exact hcov x hx ((hpre hx).mp hn)
      · obtain ⟨a1, a2, a3, a4⟩ := iv.each p hp
        have h2 := hb p hp
        have h3 := hshort p hp
        unfold manyL
        refine many_is a1 (by omega) (fun k k1 k2 => decide_eq_true ?_) fun _ => decide_eq_false ?_
        · unfold aftL
          cases decide (t.1 = Str.ofString "round") with
          | false => show p.1 + k ∈ legs; exact a4 _ (by omega) (by omega)
          | true =>
            show (p.1 + k) % t.2 ∈ legs
            rw [Int.emod_eq_of_lt (by omega) (by omega)]
            exact a4 _ (by omega) (by omega)
        · unfold aftL
          cases e : decide (t.1 = Str.ofString "round") with
          | false => exact a3
          | true =>
            show ¬ ((p.1 + p.2) % t.2 ∈ legs)
            by_cases h5 : p.1 + p.2 = t.2
            · rw [h5, Int.emod_self]
              exact fun z => hw (of_decide_eq_true e) ⟨z, a4 _ (by omega) (by omega)⟩
            · rw [Int.emod_eq_of_lt (by omega) (by omega)]; exact a3
    have fin : runs_ofP_4 t R = cond (decide (t.1 = Str.ofString "line") || decide ((R.length : Int) < 2)) R (runs_ofP_5 t R (ixL R 0)) := rfl
    rw [fin]
    cases hc : (decide (t.1 = Str.ofString "line") || decide ((R.length : Int) < 2)) with
    | true =>
      refine plain fun hr => ?_
      rintro ⟨z0, z1⟩
      rcases Bool.or_eq_true_iff.mp hc with h | h
      · exact absurd ((of_decide_eq_true h).symm.trans hr) line_round
      · have hlen := of_decide_eq_true h
        obtain ⟨p, hp, g1, g2⟩ := iv.all _ z0
        obtain ⟨q, hq, g3, g4⟩ := iv.all _ z1
        have hpq : p = q := by
          cases R with
          | nil => cases hp
          | cons a R' =>
            cases R' with
            | nil => rw [List.mem_singleton.mp hp, List.mem_singleton.mp hq]
            | cons b R'' => rw [List.length_cons, List.length_cons] at hlen; omega
        subst hpq
        have := hb p hp
        have := hshort p hp
        omega
    | false =>
      obtain ⟨hc1, hc2⟩ := Bool.or_eq_false_iff.mp hc
      have hlen := of_decide_eq_false hc2
      have hround : t.1 = Str.ofString "round" := by
        rcases ht1 with h | h
        · exact absurd h (of_decide_eq_false hc1)
        · exact h
      -- first, middle, last
      obtain ⟨f, R1, rfl⟩ : ∃ f R1, R = f :: R1 := by
        cases R with
        | nil => exfalso; apply hlen; simp
        | cons f R1 => exact ⟨f, R1, rfl⟩
      rcases List.eq_nil_or_concat R1 with rfl | ⟨M, q, e⟩
      · exfalso; apply hlen; simp
      rw [List.concat_eq_append] at e
      subst e
      have e0 : ixL (f :: (M ++ [q])) 0 = f := by unfold ixL; rw [atI_0]; rfl
      have e1 : ixL (f :: (M ++ [q])) (-1) = q := ixL_last (R := f :: M) (q := q)
      have e2 : Z.cutD (f :: (M ++ [q])) (some 1) (some (-1)) = M := by
        unfold Z.cutD
        have h1 : HT.sIx (f :: (M ++ [q])).length 0 (some 1) = 1 := by
          have := HT.sIx_nat (f :: (M ++ [q])).length 0 1
          rw [show ((1 : Nat) : Int) = 1 from rfl] at this
          rw [this, List.length_cons]
          omega
        have h2 : HT.sIx (f :: (M ++ [q])).length (f :: (M ++ [q])).length (some (-1)) = M.length + 1 := by
          show (if (-1 : Int) < 0 then ((-1 : Int) + ((f :: (M ++ [q])).length : Int)).toNat else min (-1 : Int).toNat (f :: (M ++ [q])).length) = _
          rw [if_pos (by decide), List.length_cons, List.length_append, List.length_singleton]
          omega
        rw [h1, h2]
        simp
      show _ = runs_ofP_6 t (f :: (M ++ [q])) (ixL (f :: (M ++ [q])) 0) (ixL (f :: (M ++ [q])) (-1))
      rw [e0, e1]
      show _ = cond ((!decide (f.1 = 0)) || (!decide (q.1 + q.2 = t.2))) (f :: (M ++ [q])) (Z.cutD (f :: (M ++ [q])) (some 1) (some (-1)) ++ [(q.1, q.2 + f.2)])
      rw [e2]
      have hs1 := List.pairwise_cons.mp iv.srt
      have hs2 := List.pairwise_append.mp hs1.2
      have hfq : f.1 + f.2 < q.1 := hs1.1 q (by simp)
      cases hw : ((!decide (f.1 = 0)) || (!decide (q.1 + q.2 = t.2))) with
      | true =>
        refine plain fun _ => ?_
        rintro ⟨z0, z1⟩
        obtain ⟨p, hp, g1, g2⟩ := iv.all _ z0
        obtain ⟨r, hr, g3, g4⟩ := iv.all _ z1
        have hf0 : f.1 = 0 := by
          rcases List.mem_cons.mp hp with e | hp'
          · rw [← e]; have := hb p hp; omega
          · have := hs1.1 p hp'
            have := hb f (by simp)
            have := (iv.each f (by simp)).1
            omega
        have hq0 : q.1 + q.2 = t.2 := by
          have hbr := hb r hr
          rcases List.mem_cons.mp hr with e | hr'
          · have g3 := g3; have g4 := g4; rw [e] at g3 g4; have := hb q (by simp); have := (iv.each q (by simp)).1; omega
          · rcases List.mem_append.mp hr' with hr' | hr'
            · have := hs2.2.2 r hr' q (by simp); have := hb q (by simp); have := (iv.each q (by simp)).1; omega
            · rw [List.mem_singleton.mp hr'] at g3 g4 hbr; omega
        rw [decide_eq_true hf0, decide_eq_true hq0] at hw
        cases hw
      | false =>
        obtain ⟨w1, w2⟩ := Bool.or_eq_false_iff.mp hw
        have hf0 : f.1 = 0 := by simpa using w1
        have hq0 : q.1 + q.2 = t.2 := by simpa using w2
        obtain ⟨f1, f2, f3, f4⟩ := iv.each f (by simp)
        obtain ⟨q1, q2, q3, q4⟩ := iv.each q (by simp)
        have z0 : (0 : Int) ∈ legs := by rw [← hf0]; exact hin f (by simp)
        have z1 : t.2 - 1 ∈ legs := q4 _ (by omega) (by omega)
        show sortP _ = M ++ [(q.1, q.2 + f.2)]
        have hstM : ((M ++ [(q.1, q.2 + f.2)]).map (·.1)) = (M ++ [q]).map (·.1) := by simp
        have hst1 := List.pairwise_cons.mp (show ((f :: (M ++ [q])).map (·.1)).Pairwise (· < ·) from hst)
        refine runs_char hL.1 (by rw [hstM]; exact hst1.2) (fun x => ?_) fun p hp => ?_
        · rw [hstM]
          constructor
          · intro h
            have hx0 := hst1.1 x h
            have hx0 : f.1 < x := hx0
            obtain ⟨p, hp, e⟩ := List.mem_map.mp h
            have e : p.1 = x := e
            subst e
            refine ⟨hin p (List.mem_cons_of_mem _ hp), ?_⟩
            unfold preL
            rw [decide_eq_false (p := p.1 = 0) (by omega), Bool.and_false]
            exact (iv.each p (List.mem_cons_of_mem _ hp)).2.1
          · rintro ⟨hx, hn⟩
            have hx0 : x ≠ 0 := fun e => by
              subst e
              apply hn
              unfold preL
              rw [decide_eq_true hround, decide_eq_true rfl]
              exact z1
            unfold preL at hn
            rw [decide_eq_false hx0, Bool.and_false] at hn
            have := hcov x hx hn
            rcases List.mem_cons.mp (show x ∈ f.1 :: (M ++ [q]).map (·.1) from this) with e | h
            · omega
            · exact h
        · unfold manyL
          have haft : ∀ x k, aftL t x k = (x + k) % t.2 := fun x k => by unfold aftL; rw [decide_eq_true hround]; rfl
          rcases List.mem_append.mp hp with hp | hp
          · obtain ⟨a1, a2, a3, a4⟩ := iv.each p (by simp [hp])
            have hpq := hs2.2.2 p hp q (by simp)
            have h2 := hb p (by simp [hp])
            refine many_is a1 (by omega) (fun k k1 k2 => decide_eq_true ?_) fun _ => decide_eq_false ?_
            · rw [haft, Int.emod_eq_of_lt (by omega) (by omega)]
              exact a4 _ (by omega) (by omega)
            · rw [haft, Int.emod_eq_of_lt (by omega) (by omega)]
              exact a3
          · rw [List.mem_singleton.mp hp]
            show (rangeI 1 t.2).foldl (fun b k => cond (decide (b = k) && decide (aftL t q.1 k ∈ legs)) (k + 1) b) 1 = q.2 + f.2
            refine many_is (by omega) (by omega) (fun k k1 k2 => decide_eq_true ?_) fun _ => decide_eq_false ?_
            · rw [haft]
              by_cases hk : q.1 + k < t.2
              · rw [Int.emod_eq_of_lt (by omega) hk]; exact q4 _ (by omega) (by omega)
              · have : (q.1 + k) % t.2 = q.1 + k - t.2 := by rw [← Int.sub_emod_right]; exact Int.emod_eq_of_lt (by omega) (by omega)
                rw [this]; exact f4 _ (by omega) (by omega)
            · rw [haft]
              have : (q.1 + (q.2 + f.2)) % t.2 = f.1 + f.2 := by rw [← Int.sub_emod_right, Int.emod_eq_of_lt (by omega) (by omega)]; omega
              rw [this]; exact f3
theorem runs_le {t : Str × Int} {legs : List Int} (hT : okT t) (hL : okL t.2 legs) : (runs_ofP t legs).length ≤ 25 := by
  rw [← runs_eq hT hL]
  have h1 := okL_le hL (by have := hT.2.1; omega)
  have h2 := hT.2.2
  show (cond (decide ((legs.length : Int) = t.2)) [((0 : Int), t.2)] (sortP (legs.foldl (runsL_L1 t legs t.2) []))).length ≤ 25
  cases decide ((legs.length : Int) = t.2) with
  | true => show 1 ≤ 25; decide
  | false =>
    show (sortP _).length ≤ 25
    rw [(sortP_perm _).length_eq, runsL_fold, List.nil_append, List.length_map]
    have := List.length_filter_le (fun x => !decide (preL t x ∈ legs)) legs
    omega
theorem filter_range {p : Int → Bool} {lo mid hi : Int} (h1 : lo ≤ mid) (h2 : mid ≤ hi) (ha : ∀ k, lo ≤ k → k < mid → p k = true) (hb : ∀ k, mid ≤ k → k < hi → p k = false) : (rangeI lo hi).filter p = rangeI lo mid := by
  rw [← rangeI_app h1 h2, List.filter_append, List.filter_eq_self.mpr fun k hk => ha k (rangeI_mem.mp hk).1 (rangeI_mem.mp hk).2, List.filter_eq_nil_iff.mpr fun k hk => by rw [hb k (rangeI_mem.mp hk).1 (rangeI_mem.mp hk).2]; decide, List.append_nil]
theorem foldl_app {α β : Type} {g : α → List β} : ∀ (xs : List α) (d : List β), xs.foldl (fun d x => d ++ g x) d = d ++ xs.flatMap g
  | [], d => by simp
  | x :: xs, d => by rw [List.foldl_cons, foldl_app xs, List.flatMap_cons, List.append_assoc]
theorem flatMap_congr' {α β : Type} {f g : α → List β} : ∀ {xs : List α}, (∀ x ∈ xs, f x = g x) → xs.flatMap f = xs.flatMap g
  | [], _ => rfl
  | x :: xs, h => by rw [List.flatMap_cons, List.flatMap_cons, h x List.mem_cons_self, flatMap_congr' fun y hy => h y (List.mem_cons_of_mem _ hy)]
theorem all_due {t : Str × Int} (hT : okT t) : (rangeI 0 t.2).foldl (fun d first => d ++ (((rangeI 1 (t.2 + 1)).filter (fun many => is_pieceL t (first, many))).map (fun many => (first, many)))) [] = all_stretchesP t := by
  rw [foldl_app, List.nil_append]
  obtain ⟨ht1, ht2, ht3⟩ := hT
  show _ = cond (decide (t.1 = Str.ofString "line")) ((rangeI 0 t.2).flatMap fun a => (rangeI 1 (t.2 - a + 1)).map fun m => (a, m)) (sortP (((rangeI 0 t.2).flatMap fun a => (rangeI 1 t.2).map fun m => (a, m)) ++ [((0 : Int), t.2)]))
  by_cases hl : t.1 = Str.ofString "line"
  · rw [cond_t (decide_eq_true hl)]
    refine flatMap_congr' fun a ha => ?_
    have ha := rangeI_mem.mp ha
    have hp : ∀ m, is_pieceL t (a, m) = (decide ((0 : Int) ≤ a) && (decide ((1 : Int) ≤ m) && decide (a + m ≤ t.2))) := fun m => cond_t (decide_eq_true hl)
    rw [filter_range (mid := t.2 - a + 1) (by omega) (by omega) (fun k k1 k2 => by rw [hp]; simp; omega) fun k k1 k2 => by rw [hp]; simp; omega]
  · rw [cond_f (decide_eq_false hl)]
    have hp : ∀ a m, is_pieceL t (a, m) = ((decide (a = (0 : Int)) && decide (m = t.2)) || ((decide ((0 : Int) ≤ a) && decide (a < t.2)) && (decide ((1 : Int) ≤ m) && decide (m ≤ t.2 - 1)))) := fun a m => cond_f (decide_eq_false hl)
    have h0 : (rangeI 1 (t.2 + 1)).filter (fun many => is_pieceL t (0, many)) = rangeI 1 t.2 ++ [t.2] := by
      rw [filter_range (mid := t.2 + 1) (by omega) (by omega) (fun k k1 k2 => by rw [hp]; simp; omega) (fun k k1 k2 => by omega), rangeI_snoc ht2]
    have h1 : ∀ a ∈ rangeI 1 t.2, (rangeI 1 (t.2 + 1)).filter (fun many => is_pieceL t (a, many)) = rangeI 1 t.2 := fun a ha => by
      have ha := rangeI_mem.mp ha
      exact filter_range (mid := t.2) (by omega) (by omega) (fun k k1 k2 => by rw [hp]; simp; omega) (fun k k1 k2 => by rw [hp]; simp; omega)
    have hc := rangeI_cons (lo := 0) (hi := t.2) (by omega)
    rw [show (0 : Int) + 1 = 1 from rfl] at hc
    rw [hc, List.flatMap_cons, List.flatMap_cons, h0, List.map_append]
    have hD : ((rangeI 1 t.2).flatMap fun first => ((rangeI 1 (t.2 + 1)).filter (fun many => is_pieceL t (first, many))).map fun many => (first, many)) = (rangeI 1 t.2).flatMap fun a => (rangeI 1 t.2).map fun m => (a, m) := flatMap_congr' fun a ha => by rw [h1 a ha]
    rw [hD]
    have pw : ∀ a : Int, ((rangeI 1 t.2).map fun m => (a, m)).Pairwise (fun p q => leP p q = true) := fun a => by
      rw [List.pairwise_map]
      exact (rangeI_pw 1 t.2).imp fun {x y} (h : x < y) => (leP_iff (a := (a, x)) (b := (a, y))).mpr (.inr ⟨rfl, by show x ≤ y; omega⟩)
    have pf : ∀ xs : List Int, xs.Pairwise (· < ·) → (xs.flatMap fun a => (rangeI 1 t.2).map fun m => (a, m)).Pairwise (fun p q => leP p q = true) := fun xs => by
      induction xs with
      | nil => intro _; exact List.Pairwise.nil
      | cons x xs ih =>
        intro h
        obtain ⟨g1, g2⟩ := List.pairwise_cons.mp h
        rw [List.flatMap_cons]
        refine List.pairwise_append.mpr ⟨pw x, ih g2, fun p hp q hq => ?_⟩
        obtain ⟨m, _, rfl⟩ := List.mem_map.mp hp
        obtain ⟨y, hy, hq⟩ := List.mem_flatMap.mp hq
        obtain ⟨m', _, rfl⟩ := List.mem_map.mp hq
        exact leP_iff.mpr (.inl (g1 y hy))
    have pD := pf (rangeI 1 t.2) (rangeI_pw 1 t.2)
    have hDm : ∀ p ∈ ((rangeI 1 t.2).flatMap fun a => (rangeI 1 t.2).map fun m => (a, m)), 1 ≤ p.1 := fun p hp => by
      obtain ⟨y, hy, hq⟩ := List.mem_flatMap.mp hp
      obtain ⟨m', _, rfl⟩ := List.mem_map.mp hq
      exact (rangeI_mem.mp hy).1
    symm
    refine sortedP_unique ((sortP_perm _).trans ?_) (sortP_sorted _) ?_
    · rw [List.append_assoc, List.append_assoc]
      exact List.Perm.append_left _ List.perm_append_comm
    · refine List.pairwise_append.mpr ⟨List.pairwise_append.mpr ⟨pw 0, List.pairwise_singleton _ _, fun p hp q hq => ?_⟩, pD, fun p hp q hq => ?_⟩
      · obtain ⟨m, hm, rfl⟩ := List.mem_map.mp hp
        have hm := rangeI_mem.mp hm
        rw [List.mem_singleton.mp hq]
        exact leP_iff.mpr (.inr ⟨rfl, by show m ≤ t.2; omega⟩)
      · have h2 := hDm q hq
        have : p.1 = 0 := by
          rcases List.mem_append.mp hp with hp | hp
          · obtain ⟨m, _, rfl⟩ := List.mem_map.mp hp; rfl
          · rw [List.mem_singleton.mp hp]
        exact leP_iff.mpr (.inl (by omega))
theorem all_le {t : Str × Int} (hT : okT t) : (all_stretchesP t).length ≤ 700 := by
  rw [← all_due hT, foldl_app, List.nil_append]
  refine Nat.le_trans (flat_le (n := 25) fun x hx => ?_) ?_
  · rw [List.length_map]
    refine Nat.le_trans (List.length_filter_le _ _) ?_
    rw [rangeI_length]
    have := hT.2.2; omega
  · rw [rangeI_length]
    have := hT.2.2; omega
theorem okL_filter {n : Int} {p : Int → Bool} : okL n (((rangeI 0 n).filter p).map fun x => x) := by
  rw [List.map_id']
  exact ⟨(rangeI_pw 0 n).filter _, fun x hx => rangeI_mem.mp (List.mem_filter.mp hx).1⟩
theorem okL_range (n : Int) : okL n (rangeI 0 n) := ⟨rangeI_pw 0 n, fun x hx => rangeI_mem.mp hx⟩
theorem runS_sub {β α : Type} {pr : β → α → Bool} {s1 s2 : β → α → β} : ∀ (xs : List α) (s : β), (runS (genF pr (fun _ a => a) s1 s2) s xs).1.Sublist xs
  | [], s => List.Sublist.refl _
  | x :: xs, s => by
    show (match (genF pr (fun _ a => a) s1 s2 s x).1 with | some y => y :: _ | none => _).Sublist _
    cases h : (genF pr (fun _ a => a) s1 s2 s x).1 with
    | none => exact (runS_sub xs _).cons _
    | some y =>
      have e : y = x := by
        unfold genF at h
        cases hp : pr s x with
        | true => rw [hp, if_pos rfl] at h; exact (Option.some.inj h).symm
        | false => rw [hp, if_neg (by decide)] at h; cases h
      rw [e]
      exact (runS_sub xs _).cons_cons _
theorem lset_ok {cs : List Int} {s : Sto} {t : Str × Int} : okL t.2 (lset cs s t).1 := by
  show okL t.2 (lset_2 cs t t.2 (take cs s 8).1 (take cs s 8).2).1
  generalize (take cs s 8).1 = mode
  generalize (take cs s 8).2 = s1
  unfold lset_2
  cases decide (mode = 0) with
  | true => exact okL_range _
  | false =>
    cases decide (mode = 1) with
    | true => exact ⟨List.Pairwise.nil, fun x hx => nomatch hx⟩
    | false =>
      cases decide (mode < 4) with
      | true => exact okL_filter
      | false =>
        cases decide (mode = 4) with
        | true => exact okL_filter
        | false =>
          have h := runS_sub (pr := fun (z : Sto) (_ : Int) => decide ((if decide ((take cs z (pickT cs s1 ([(2 : Int), (2 : Int), (4 : Int)] : List Int)).1).1 = (0 : Int)) then (1 : Int) else 0) = (take cs (pickT cs s1 ([(2 : Int), (2 : Int), (4 : Int)] : List Int)).2 2).1)) (s1 := fun (z : Sto) (_ : Int) => (take cs z (pickT cs s1 ([(2 : Int), (2 : Int), (4 : Int)] : List Int)).1).2) (s2 := fun (z : Sto) (_ : Int) => (take cs z (pickT cs s1 ([(2 : Int), (2 : Int), (4 : Int)] : List Int)).1).2) (rangeI 0 t.2) (take cs (pickT cs s1 ([(2 : Int), (2 : Int), (4 : Int)] : List Int)).2 2).2
          exact ⟨(rangeI_pw 0 t.2).sublist h, fun x hx => rangeI_mem.mp (h.subset hx)⟩
theorem pick59 {cs : List Int} {s : Sto} : 1 ≤ (pickT cs s ([(5 : Int), (9 : Int), (24 : Int)] : List Int)).1 ∧ (pickT cs s ([(5 : Int), (9 : Int), (24 : Int)] : List Int)).1 ≤ 24 := by
  have h := pickT_mem (cs := cs) (s := s) (xs := ([(5 : Int), (9 : Int), (24 : Int)] : List Int)) (by simp)
  simp only [List.mem_cons, List.not_mem_nil, or_false] at h
  omega

end ZL

end
section
namespace ZL
open PySem PySem.Spec PyProof.Rows L2 Z
/-! _law_asked -/
abbrev s_askedL : Stmt := topS 18
theorem sc_askedL : FnScope ["trade", "legs", "turn", "handed", "told"] ["trade", "legs"] (defScope s_askedL) := ⟨rfl, rfl, rfl, by decide +kernel, rfl, by decide +kernel, by decide +kernel⟩
def askedL_2 : Unit :=
  ()
def askedL_1 : Unit :=
  askedL_2
def askedL_L1b : Unit :=
  askedL_1
def askedL_L1 (b : Unit) (a : Int) : Unit :=
  askedL_L1b
def askedL_3 (b : Unit) : Bool :=
  true
def askedL (trade : (Str × Int)) (legs : (List Int)) : Bool :=
  askedL_3 (List.foldl askedL_L1 () (rangeI 0 (2 : Int)))
def A_askedL : List PyData → PyData → Prop := fun ds r => ∃ (trade : (Str × Int)) (legs : (List Int)), ds = [(eT2 eS eI) trade, (eL eI) legs] ∧ (okT trade ∧ okL trade.2 legs) ∧ r = eB true
set_option maxHeartbeats 4000000 in
theorem ok_askedL {P : Program} {w : World} {K : PySem.W.Frag} {mg : Str → Option Value} {base : Heap} (T : Top K mg) : Fn P w K mg base 2 "_law_asked" ["trade", "legs"] (spD K A_askedL) := by
  obtain ⟨f, fd, F, gm⟩ := T.f_askedL
  have sc := sc_askedL
  refine ⟨f, fd, F.ok sc (fun vs H Q E h => ?_) (fun cdv A outer s0 H vs Q E hr h => ⟨_, PSs.nox pss_w, ?_⟩), gm, F.kp, F.bindsN (fun _ _ _ _ _ _ us hl => match us, hl with | [_, _], _ => rfl)⟩
  · obtain ⟨F, ds, r, w, ra, ⟨trade, legs, rfl, hpre, rfl⟩, q⟩ := h
    exact ra.len
  · obtain ⟨F, ds, r, w, ra, ⟨trade, legs, rfl, hpre, rfl⟩, q⟩ := h
    obtain ⟨v_trade, ws, rfl, r_trade, ra⟩ := ra.cons_inv
    obtain ⟨v_legs, ws, rfl, r_legs, ra⟩ := ra.cons_inv
    obtain rfl := ra.nil_inv
    have st := Stp.refl w
    have hT : okT trade := hpre.1
    obtain ⟨ht1, ht2, ht3⟩ := id hT
    have hL := hpre.2
    have hll := okL_le hL (by omega)
    have hf : askedL trade legs = askedL trade legs := rfl
    show ZS _ _ [some v_trade, some v_legs, none, none, none] H _
    refine zs_forF (f := askedL_L1) (b0 := ()) st.ok PassesOwn.never rfl (zi_range1 T.b_range ze_int (by decide)) (fun iq b σ F O => ∃ (z1 : Option V) (z2 : Option V) (z3 : Option V), σ = [some v_trade, some v_legs, z1, z2, z3] ∧ O = [] ∧ True) (fun F_12 H_11 s_11 => ⟨none, none, none, rfl, rfl, trivial⟩) (fun i b turn v σ F_2 F_3 O_2 H_2 ha hbe hz rel g s_2 r_2 => ?_) (fun σ_2 F_10 O_3 H_9 s_9 rel_2 => ?_)
    · skip
      obtain ⟨z_turn, z_handed, z_told, rfl, rfl, hinv⟩ := rel
      have st := st.trans s_2
      have r_trade := r_trade.mono s_2.gr
      have r_legs := r_legs.mono s_2.gr
      have hlt_i := (List.getElem?_eq_some_iff.mp ha).1
      rw [rangeI_length] at hlt_i
      have hat_i := rangeI_at ha
      have sb : Stp F_3 [] H_2 F_3 [] H_2 := Stp.refl st.ok
      have hfb : askedL_L1 () turn = askedL_L1b := rfl
      refine zg_name (n := 2) sc.nd rfl (by first | exact Or.inl rfl | exact Or.inr rfl) ?_
      show ZS _ _ [some v_trade, some v_legs, some v, z_handed, z_told] H_2 _
      refine zs_setN (n := 3) st.ok (zn_list T.b_list (ze_var 1 rfl r_legs)) sc.nd rfl (by first | exact Or.inl rfl | exact Or.inr rfl) fun p_handed us_handed F_4 H_3 hp_2 s_3 r_handed => ?_
      obtain ⟨handed, hx_handed⟩ : ∃ z : (List Int), z = legs := ⟨_, rfl⟩
      have hn := st.newAt hp_2
      have hn_2 := sb.newAt hp_2
      have s_3 : Stp F_3 [] H_2 F_4 [(p_handed, .lst us_handed)] H_3 := by exact s_3
      have r_handed : RA K F_4 us_handed (handed.map eI) := by subst hx_handed; exact r_handed
      have st := st.trans s_3
      have sb := sb.trans s_3
      have r_trade := r_trade.mono s_3.gr
      have r_legs := r_legs.mono s_3.gr
      have r_2 := r_2.mono s_3.gr
      have gz : Gr F_4 (upd F_4 p_handed (.lst us_handed)) := Gr.upd (st.ok.at_ (k := 0) rfl).2
      have r_handed_2 : R K (upd F_4 p_handed (.lst us_handed)) (.ref p_handed) (eL eI handed) := (r_handed.mono gz).lst upd_same
      have st : Stp _ _ _ (upd F_4 p_handed (.lst us_handed)) [] H_3 := st.freezeAt 0 rfl hn
      have sb : Stp _ _ _ (upd F_4 p_handed (.lst us_handed)) [] H_3 := sb.freezeAt 0 rfl hn_2
      have r_trade := r_trade.mono gz
      have r_legs := r_legs.mono gz
      have r_2 := r_2.mono gz
      show ZS _ _ [some v_trade, some v_legs, some v, some (.ref p_handed), z_told] H_3 _
      have hfb : askedL_L1 () turn = askedL_1 := by subst hx_handed; exact hfb
      refine zs_setN (n := 4) st.ok (zn_callN (ok_runs_ofP T) (hr.mono (by decide)) (za_cons (ze_var 0 rfl r_trade) (za_cons (ze_var 3 rfl r_handed_2) za_nil)) ⟨trade, handed, rfl, (by /-1-/ rw [hx_handed]; exact ⟨hT, hL⟩), rfl⟩) sc.nd rfl (by first | exact Or.inl rfl | exact Or.inr rfl) fun p_told us_told F_6 H_4 hp_3 s_4 r_told => ?_
      obtain ⟨told, hx_told⟩ : ∃ z : (List (Int × Int)), z = (runs_ofP trade handed) := ⟨_, rfl⟩
      have hn_3 := st.newAt hp_3
      have hn_4 := sb.newAt hp_3
      have s_4 : Stp (upd F_4 p_handed (.lst us_handed)) [] H_3 F_6 [(p_told, .lst us_told)] H_4 := by exact s_4
      have r_told : RA K F_6 us_told (told.map (eT2 eI eI)) := by subst hx_told; exact r_told
      have st := st.trans s_4
      have sb := sb.trans s_4
      have r_trade := r_trade.mono s_4.gr
      have r_legs := r_legs.mono s_4.gr
      have r_2 := r_2.mono s_4.gr
      have r_handed_2 := r_handed_2.mono s_4.gr
      show ZS _ _ [some v_trade, some v_legs, some v, some (.ref p_handed), some (.ref p_told)] H_4 _
      have hfb : askedL_L1 () turn = askedL_2 := by subst hx_told; exact hfb
      have htold : told = runs_ofP trade legs := by rw [hx_told, hx_handed]
      have htl : told.length ≤ 25 := by rw [htold]; exact runs_le hT hL
      refine zs_ifF st.ok (zt_eq (zt_w (zw_or (zt_not (zt_val (ze_callDO 4 0 (ok_same T) (hr.mono (by decide)) rfl rfl r_told (za_cons (ze_callD (ok_runsL T) (hr.mono (by decide)) (za_cons (ze_var 0 rfl r_trade) (za_cons (ze_var 1 rfl r_legs) za_nil)) ⟨trade, legs, rfl, (by /-2-/ first | exact ⟨hT, hL⟩ | exact hT), rfl⟩) za_nil) (A_same_of (a := ((eL (eT2 eI eI)) told)) (b := ((eL (eT2 eI eI)) (runsL trade legs))) (congrArg (eL (eT2 eI eI)) (show (runsL trade legs) = told from (by /-3-/ rw [htold]; exact runs_eq hT hL))) (by /-4-/ have q1 := dsz_LP told; omega))))) fun hb => (zw_or1 (zt_not (zt_val (ze_callD (ok_same T) (hr.mono (by decide)) (za_cons (ze_var 3 rfl r_handed_2) (za_cons (ze_var 1 rfl r_legs) za_nil)) (A_same_of (a := ((eL eI) handed)) (b := ((eL eI) legs)) (congrArg (eL eI) (show legs = handed from (by /-5-/ rw [hx_handed]))) (by /-6-/ have q1 := dsz_LI handed; rw [hx_handed] at *; omega)))))))) (by simp)) fun F_7 H_5 s_5 => ?_
      have s_5 : Stp F_6 [(p_told, .lst us_told)] H_4 F_7 [(p_told, .lst us_told)] H_5 := by exact s_5
      have st := st.trans s_5
      have sb := sb.trans s_5
      have r_trade := r_trade.mono s_5.gr
      have r_legs := r_legs.mono s_5.gr
      have r_2 := r_2.mono s_5.gr
      have r_handed_2 := r_handed_2.mono s_5.gr
      have r_told := r_told.mono s_5.gr
      refine zs_nil ?_
      show ZS _ _ [some v_trade, some v_legs, some v, some (.ref p_handed), some (.ref p_told)] H_5 _
      have hl : us_told.length = told.length := by have h := r_told.len; rw [List.length_map] at h; exact h
      refine zs_append st.ok 4 0 rfl ze_non rfl (by rw [hl]; exact (by /-7-/ rw [← szL]; omega)) fun v_2 F_8 H_6 s_6 r_3 => ?_
      have s_6 : Stp F_7 [(p_told, .lst us_told)] H_5 F_8 [(p_told, .lst (us_told ++ [v_2]))] H_6 := s_6
      have st := st.trans s_6
      have sb := sb.trans s_6
      have r_trade := r_trade.mono s_6.gr
      have r_legs := r_legs.mono s_6.gr
      have r_2 := r_2.mono s_6.gr
      have r_handed_2 := r_handed_2.mono s_6.gr
      show ZS _ _ [some v_trade, some v_legs, some v, some (.ref p_handed), some (.ref p_told)] H_6 _
      refine zs_reverse st.ok 4 0 rfl rfl fun H_7 s_7 => ?_
      have s_7 : Stp _ _ _ F_8 [(p_told, .lst ((us_told ++ [v_2]).reverse))] H_7 := s_7
      have st := st.trans s_7
      have sb := sb.trans s_7
      show ZS _ _ [some v_trade, some v_legs, some v, some (.ref p_handed), some (.ref p_told)] H_7 _
      refine zs_ifF st.ok (zt_eq (zt_not (zt_val (ze_callD (ok_same T) (hr.mono (by decide)) (za_cons (ze_var 3 rfl r_handed_2) (za_cons (ze_var 1 rfl r_legs) za_nil)) (A_same_of (a := ((eL eI) handed)) (b := ((eL eI) legs)) (congrArg (eL eI) (show legs = handed from (by /-8-/ rw [hx_handed]))) (by /-9-/ have q1 := dsz_LI handed; rw [hx_handed] at *; omega))))) (by simp)) fun F_9 H_8 s_8 => ?_
      have s_8 : Stp F_8 [(p_told, .lst ((us_told ++ [v_2]).reverse))] H_7 F_9 [(p_told, .lst ((us_told ++ [v_2]).reverse))] H_8 := by exact s_8
      have st := st.trans s_8
      have sb := sb.trans s_8
      have r_trade := r_trade.mono s_8.gr
      have r_legs := r_legs.mono s_8.gr
      have r_2 := r_2.mono s_8.gr
      have r_handed_2 := r_handed_2.mono s_8.gr
      refine zs_nil ?_
      show ZS _ _ [some v_trade, some v_legs, some v, some (.ref p_handed), some (.ref p_told)] H_8 _
      refine zs_nil ?_
      have st := st.dropAt 0
      have sb := sb.dropAt 0
      exact ⟨_, _, sb, by (try rw [hfb]); exact ⟨some v, some (.ref p_handed), some (.ref p_told), rfl, rfl, trivial⟩⟩
    · skip
      obtain ⟨b_2, hb⟩ : ∃ z : Unit, z = List.foldl askedL_L1 () (rangeI 0 (2 : Int)) := ⟨_, rfl⟩
      try rw [← hb] at rel_2
      obtain ⟨z_turn_2, z_handed_2, z_told_2, rfl, rfl, hinv_2⟩ := rel_2
      have st := st.trans s_9
      have r_trade := r_trade.mono s_9.gr
      have r_legs := r_legs.mono s_9.gr
      have hf : askedL trade legs = askedL_3 () := hf
      show ZS _ _ [some v_trade, some v_legs, z_turn_2, z_handed_2, z_told_2] H_9 _
      refine zs_ret st.ok ze_bl fun v_3 F_11 H_10 s_10 r_4 => ?_
      exact q v_3 F_11 H_10 (st.trans s_10) r_4
/-! _law_all -/
abbrev s_allL : Stmt := topS 19
theorem sc_allL : FnScope ["trade", "n", "due", "first", "turn", "told", "many"] ["trade"] (defScope s_allL) := ⟨rfl, rfl, rfl, by decide +kernel, rfl, by decide +kernel, by decide +kernel⟩
def allL_3 (due_3 : (List (Int × Int))) : ((List (Int × Int))) :=
  due_3
def allL_L1b (trade : (Str × Int)) (n : Int) (due_2 : (List (Int × Int))) (first : Int) : ((List (Int × Int))) :=
  allL_3 (due_2 ++ (((rangeI (1 : Int) (n + (1 : Int))).filter (fun a_many : Int => (is_pieceL trade (first, a_many)))).map (fun a_many : Int => (first, a_many))))
def allL_L1 (trade : (Str × Int)) (n : Int) (b : ((List (Int × Int)))) (a : Int) : ((List (Int × Int))) :=
  allL_L1b trade n b a
def allL_5 : Unit :=
  ()
def allL_L2b : Unit :=
  allL_5
def allL_L2 (b : Unit) (a : Int) : Unit :=
  allL_L2b
def allL_6 (b : Unit) : Bool :=
  true
def allL_4 (b : ((List (Int × Int)))) : Bool :=
  allL_6 (List.foldl allL_L2 () (rangeI 0 (2 : Int)))
def allL_2 (trade : (Str × Int)) (n : Int) (due : (List (Int × Int))) : Bool :=
  allL_4 (List.foldl (allL_L1 trade n) due (rangeI 0 n))
def allL_1 (trade : (Str × Int)) (n : Int) : Bool :=
  allL_2 trade n ([] : List (Int × Int))
def allL (trade : (Str × Int)) : Bool :=
  allL_1 trade trade.2
def A_allL : List PyData → PyData → Prop := fun ds r => ∃ (trade : (Str × Int)), ds = [(eT2 eS eI) trade] ∧ (okT trade) ∧ r = eB true
set_option maxHeartbeats 4000000 in
theorem ok_allL {P : Program} {w : World} {K : PySem.W.Frag} {mg : Str → Option Value} {base : Heap} (T : Top K mg) : Fn P w K mg base 3 "_law_all" ["trade"] (spD K A_allL) := by
  obtain ⟨f, fd, F, gm⟩ := T.f_allL
  have sc := sc_allL
  refine ⟨f, fd, F.ok sc (fun vs H Q E h => ?_) (fun cdv A outer s0 H vs Q E hr h => ⟨_, PSs.nox pss_w, ?_⟩), gm, F.kp, F.bindsN (fun _ _ _ _ _ _ us hl => match us, hl with | [_], _ => rfl)⟩
  · obtain ⟨F, ds, r, w, ra, ⟨trade, rfl, hpre, rfl⟩, q⟩ := h
    exact ra.len
  · obtain ⟨F, ds, r, w, ra, ⟨trade, rfl, hpre, rfl⟩, q⟩ := h
    obtain ⟨v_trade, ws, rfl, r_trade, ra⟩ := ra.cons_inv
    obtain rfl := ra.nil_inv
    have st := Stp.refl w
    have hT : okT trade := hpre
    obtain ⟨ht1, ht2, ht3⟩ := id hT
    have hf : allL trade = allL trade := rfl
    show ZS _ _ [some v_trade, none, none, none, none, none, none] H _
    refine zs_set (n := 1) st.ok (ze_ixT (ze_var 0 rfl r_trade) ze_int atI_1) sc.nd rfl (by first | exact Or.inl rfl | exact Or.inr rfl) fun v_n F_2 H_2 s_2 r_n => ?_
    obtain ⟨n, hx_n⟩ : ∃ z : Int, z = trade.2 := ⟨_, rfl⟩
    have s_2 : Stp F [] H F_2 [] H_2 := by exact s_2
    have r_n : R K F_2 v_n (eI n) := by subst hx_n; exact r_n
    have st := st.trans s_2
    have r_trade := r_trade.mono s_2.gr
    show ZS _ _ [some v_trade, some v_n, none, none, none, none, none] H_2 _
    have hf : allL trade = allL_1 trade n := by subst hx_n; exact hf
    refine zs_setN (n := 2) st.ok (zn_lstt (enc := (eT2 eI eI)) (xs := ([] : List (Int × Int))) za_nil) sc.nd rfl (by first | exact Or.inl rfl | exact Or.inr rfl) fun p_due us_due F_3 H_3 hp_2 s_3 r_due => ?_
    obtain ⟨due, hx_due⟩ : ∃ z : (List (Int × Int)), z = ([] : List (Int × Int)) := ⟨_, rfl⟩
    have hn := st.newAt hp_2
    have s_3 : Stp F_2 [] H_2 F_3 [(p_due, .lst us_due)] H_3 := by exact s_3
    have r_due : RA K F_3 us_due (due.map (eT2 eI eI)) := by subst hx_due; exact r_due
    have st := st.trans s_3
    have r_trade := r_trade.mono s_3.gr
    have r_n := r_n.mono s_3.gr
    have gz : Gr F_3 (upd F_3 p_due (.lst us_due)) := Gr.upd (st.ok.at_ (k := 0) rfl).2
    have r_due_2 : R K (upd F_3 p_due (.lst us_due)) (.ref p_due) (eL (eT2 eI eI) due) := (r_due.mono gz).lst upd_same
    have st : Stp _ _ _ (upd F_3 p_due (.lst us_due)) [] H_3 := st.freezeAt 0 rfl hn
    have r_trade := r_trade.mono gz
    have r_n := r_n.mono gz
    show ZS _ _ [some v_trade, some v_n, some (.ref p_due), none, none, none, none] H_3 _
    have hf : allL trade = allL_2 trade n due := by subst hx_due; exact hf
    refine zs_forF (f := (allL_L1 trade n)) (b0 := due) st.ok PassesOwn.never rfl (zi_range1 T.b_range (ze_var 1 rfl r_n) (by /-1-/ first | omega | exact hT | exact ⟨hT, hL⟩ | (rw [← szL]; omega) | (simp only [List.length_append, List.length_cons, List.length_nil, List.length_map, rangeI_length, ← szL]; omega))) (fun iq b σ F O => ∃ (w1 : V) (z2 : Option V), σ = [some v_trade, some v_n, some w1, z2, none, none, none] ∧ O = [] ∧ R K F w1 ((eL (eT2 eI eI)) b) ∧ (b.length ≤ 25 * iq)) (fun F_18 H_15 s_15 => ⟨(.ref p_due), none, rfl, rfl, r_due_2.mono s_15.gr, by rw [hx_due]; exact Nat.zero_le _⟩) (fun i b first v σ F_5 F_6 O_2 H_4 ha hbe hz rel g s_4 r_2 => ?_) (fun σ_2 F_9 O_3 H_6 s_6 rel_2 => ?_)
    · skip
      obtain ⟨due_2, rfl⟩ : ∃ z, z = b := ⟨_, rfl⟩
      obtain ⟨v_due_2, z_first, rfl, rfl, r_due_3, hinv⟩ := rel
      have r_due_3 : R K _ v_due_2 ((eL (eT2 eI eI)) due_2) := r_due_3
      have st := st.trans s_4
      have r_trade := r_trade.mono s_4.gr
      have r_n := r_n.mono s_4.gr
      have r_due_3 := r_due_3.mono g
      have hinv : due_2.length ≤ 25 * i := hinv
      have hlt_i := (List.getElem?_eq_some_iff.mp ha).1
      rw [rangeI_length] at hlt_i
      have hat_i := rangeI_at ha
      have sb : Stp F_6 [] H_4 F_6 [] H_4 := Stp.refl st.ok
      have hfb : allL_L1 trade n due_2 first = allL_L1b trade n due_2 first := rfl
      refine zg_name (n := 3) sc.nd rfl (by first | exact Or.inl rfl | exact Or.inr rfl) ?_
      show ZS _ _ [some v_trade, some v_n, some v_due_2, some v, none, none, none] H_4 _
      refine zs_setN (n := 2) st.ok (zn_catt (ze_var 2 rfl r_due_3) (zn_ze (zn_lcF (n := 6) (f0 := (fun a_many : Int => (first, a_many))) (pr := (fun a_many : Int => (is_pieceL trade (first, a_many)))) (encR := (eT2 eI eI)) rfl sc.nd (zi_range2 T.b_range ze_int (ze_add (ze_var 1 rfl r_n) ze_int) (by /-2-/ first | omega | exact hT | exact ⟨hT, hL⟩ | (rw [← szL]; omega) | (simp only [List.length_append, List.length_cons, List.length_nil, List.length_map, rangeI_length, ← szL]; omega))) (fun _ _ _ _ _ a_many v_a_many _ h_a_many g_c r_a_many => (zt_val (ze_callD (ok_is_pieceL T) (hr.mono (by decide)) (za_cons (ze_var 0 rfl (r_trade.mono g_c)) (za_cons (ze_tup (za_cons (ze_var 3 rfl (r_2.mono g_c)) (za_cons (ze_var 6 rfl r_a_many) za_nil))) za_nil)) ⟨trade, (first, a_many), rfl, (by /-3-/ first | omega | exact hT | exact ⟨hT, hL⟩ | (rw [← szL]; omega) | (simp only [List.length_append, List.length_cons, List.length_nil, List.length_map, rangeI_length, ← szL]; omega)), rfl⟩))) (fun _ _ _ _ _ a_many v_a_many _ h_a_many hp_c g_c r_a_many => (ze_tup (za_cons (ze_var 3 rfl (r_2.mono g_c)) (za_cons (ze_var 6 rfl r_a_many) za_nil)))) (blkOk_by (N := ["trade", "n", "due", "first", "turn", "told", "many"]) (sc := defScope (topS 19)) (by decide +kernel)) (fun _ _ _ _ _ => pg_name (i := 6) sc.nd rfl (Or.inl rfl)))) (by /-4-/ rw [← szL, List.length_map]; have h8 := List.length_filter_le (fun many => is_pieceL trade (first, many)) (rangeI 1 (n + 1)); rw [rangeI_length] at h8; omega)) sc.nd rfl (by first | exact Or.inl rfl | exact Or.inr rfl) fun p_due_2 us_due_2 F_7 H_5 hp_3 s_5 r_due_4 => ?_
      obtain ⟨due_3, hx_due_3⟩ : ∃ z : (List (Int × Int)), z = (due_2 ++ (((rangeI (1 : Int) (n + (1 : Int))).filter (fun a_many : Int => (is_pieceL trade (first, a_many)))).map (fun a_many : Int => (first, a_many)))) := ⟨_, rfl⟩
      have hn_2 := st.newAt hp_3
      have hn_3 := sb.newAt hp_3
      have s_5 : Stp F_6 [] H_4 F_7 [(p_due_2, .lst us_due_2)] H_5 := by exact s_5
      have r_due_4 : RA K F_7 us_due_2 (due_3.map (eT2 eI eI)) := by subst hx_due_3; exact r_due_4
      have st := st.trans s_5
      have sb := sb.trans s_5
      have r_trade := r_trade.mono s_5.gr
      have r_n := r_n.mono s_5.gr
      have r_2 := r_2.mono s_5.gr
      have gz_2 : Gr F_7 (upd F_7 p_due_2 (.lst us_due_2)) := Gr.upd (st.ok.at_ (k := 0) rfl).2
      have r_due_5 : R K (upd F_7 p_due_2 (.lst us_due_2)) (.ref p_due_2) (eL (eT2 eI eI) due_3) := (r_due_4.mono gz_2).lst upd_same
      have st : Stp _ _ _ (upd F_7 p_due_2 (.lst us_due_2)) [] H_5 := st.freezeAt 0 rfl hn_2
      have sb : Stp _ _ _ (upd F_7 p_due_2 (.lst us_due_2)) [] H_5 := sb.freezeAt 0 rfl hn_3
      have r_trade := r_trade.mono gz_2
      have r_n := r_n.mono gz_2
      have r_2 := r_2.mono gz_2
      show ZS _ _ [some v_trade, some v_n, some (.ref p_due_2), some v, none, none, none] H_5 _
      have hfb : allL_L1 trade n due_2 first = allL_3 due_3 := by subst hx_due_3; exact hfb
      refine zs_nil ?_
      exact ⟨_, _, sb, by (try rw [hfb]); exact ⟨(.ref p_due_2), some v, rfl, rfl, r_due_5, (show due_3.length ≤ 25 * (i + 1) from by rw [hx_due_3, List.length_append, List.length_map]; have h8 := List.length_filter_le (fun many => is_pieceL trade (first, many)) (rangeI 1 (n + 1)); rw [rangeI_length] at h8; omega)⟩⟩
    · skip
      obtain ⟨b_2, hb⟩ : ∃ z : ((List (Int × Int))), z = List.foldl (allL_L1 trade n) due (rangeI 0 n) := ⟨_, rfl⟩
      try rw [← hb] at rel_2
      obtain ⟨due_4, rfl⟩ : ∃ z, z = b_2 := ⟨_, rfl⟩
      obtain ⟨v_due_4, z_first_2, rfl, rfl, r_due_6, hinv_2⟩ := rel_2
      have r_due_6 : R K _ v_due_4 ((eL (eT2 eI eI)) due_4) := r_due_6
      have st := st.trans s_6
      have r_trade := r_trade.mono s_6.gr
      have r_n := r_n.mono s_6.gr
      have hinv_2 : due_4.length ≤ 25 * (rangeI 0 n).length := hinv_2
      have hf : allL trade = allL_4 due_4 := by rw [hb]; exact hf
      have hdue : due_4 = all_stretchesP trade := by rw [hb, hx_due, hx_n]; exact all_due hT
      show ZS _ _ [some v_trade, some v_n, some v_due_4, z_first_2, none, none, none] H_6 _
      refine zs_forF (f := allL_L2) (b0 := ()) st.ok PassesOwn.never rfl (zi_range1 T.b_range ze_int (by decide)) (fun iq b σ F O => ∃ (z1 : Option V) (z2 : Option V), σ = [some v_trade, some v_n, some v_due_4, z_first_2, z1, z2, none] ∧ O = [] ∧ True) (fun F_17 H_14 s_14 => ⟨none, none, rfl, rfl, trivial⟩) (fun i_2 b_3 turn v_2 σ_3 F_10 F_11 O_4 H_7 ha_2 hbe_2 hz_2 rel_3 g_2 s_7 r_3 => ?_) (fun σ_4 F_15 O_5 H_12 s_12 rel_4 => ?_)
      · skip
        obtain ⟨z_turn, z_told, rfl, rfl, hinv_3⟩ := rel_3
        have st := st.trans s_7
        have r_trade := r_trade.mono s_7.gr
        have r_n := r_n.mono s_7.gr
        have r_due_6 := r_due_6.mono s_7.gr
        have hlt_i_2 := (List.getElem?_eq_some_iff.mp ha_2).1
        rw [rangeI_length] at hlt_i_2
        have hat_i_2 := rangeI_at ha_2
        have sb_2 : Stp F_11 [] H_7 F_11 [] H_7 := Stp.refl st.ok
        have hfb_2 : allL_L2 () turn = allL_L2b := rfl
        refine zg_name (n := 4) sc.nd rfl (by first | exact Or.inl rfl | exact Or.inr rfl) ?_
        show ZS _ _ [some v_trade, some v_n, some v_due_4, z_first_2, some v_2, z_told, none] H_7 _
        refine zs_setN (n := 5) st.ok (zn_callN (ok_all_stretchesP T) (hr.mono (by decide)) (za_cons (ze_var 0 rfl r_trade) za_nil) ⟨trade, rfl, (by /-5-/ first | omega | exact hT | exact ⟨hT, hL⟩ | (rw [← szL]; omega) | (simp only [List.length_append, List.length_cons, List.length_nil, List.length_map, rangeI_length, ← szL]; omega)), rfl⟩) sc.nd rfl (by first | exact Or.inl rfl | exact Or.inr rfl) fun p_told us_told F_12 H_8 hp_4 s_8 r_told => ?_
        obtain ⟨told, hx_told⟩ : ∃ z : (List (Int × Int)), z = (all_stretchesP trade) := ⟨_, rfl⟩
        have hn_4 := st.newAt hp_4
        have hn_5 := sb_2.newAt hp_4
        have s_8 : Stp F_11 [] H_7 F_12 [(p_told, .lst us_told)] H_8 := by exact s_8
        have r_told : RA K F_12 us_told (told.map (eT2 eI eI)) := by subst hx_told; exact r_told
        have st := st.trans s_8
        have sb_2 := sb_2.trans s_8
        have r_trade := r_trade.mono s_8.gr
        have r_n := r_n.mono s_8.gr
        have r_due_6 := r_due_6.mono s_8.gr
        have r_3 := r_3.mono s_8.gr
        show ZS _ _ [some v_trade, some v_n, some v_due_4, z_first_2, some v_2, some (.ref p_told), none] H_8 _
        have hfb_2 : allL_L2 () turn = allL_5 := by subst hx_told; exact hfb_2
        have htl : told.length ≤ 700 := by rw [hx_told]; exact all_le hT
        refine zs_ifF st.ok (zt_eq (zt_not (zt_val (ze_callDO 5 0 (ok_same T) (hr.mono (by decide)) rfl rfl r_told (za_cons (ze_var 2 rfl r_due_6) za_nil) (A_same_of (a := ((eL (eT2 eI eI)) told)) (b := ((eL (eT2 eI eI)) due_4)) (congrArg (eL (eT2 eI eI)) (show due_4 = told from (by /-6-/ rw [hdue, hx_told]))) (by /-7-/ have q1 := dsz_LP told; omega))))) (by simp)) fun F_13 H_9 s_9 => ?_
        have s_9 : Stp F_12 [(p_told, .lst us_told)] H_8 F_13 [(p_told, .lst us_told)] H_9 := by exact s_9
        have st := st.trans s_9
        have sb_2 := sb_2.trans s_9
        have r_trade := r_trade.mono s_9.gr
        have r_n := r_n.mono s_9.gr
        have r_due_6 := r_due_6.mono s_9.gr
        have r_3 := r_3.mono s_9.gr
        have r_told := r_told.mono s_9.gr
        refine zs_nil ?_
        show ZS _ _ [some v_trade, some v_n, some v_due_4, z_first_2, some v_2, some (.ref p_told), none] H_9 _
        have hl : us_told.length = told.length := by have h := r_told.len; rw [List.length_map] at h; exact h
        refine zs_append st.ok 5 0 rfl ze_non rfl (by rw [hl]; exact (by /-8-/ rw [← szL]; omega)) fun v_3 F_14 H_10 s_10 r_4 => ?_
        have s_10 : Stp F_13 [(p_told, .lst us_told)] H_9 F_14 [(p_told, .lst (us_told ++ [v_3]))] H_10 := s_10
        have st := st.trans s_10
        have sb_2 := sb_2.trans s_10
        have r_trade := r_trade.mono s_10.gr
        have r_n := r_n.mono s_10.gr
        have r_due_6 := r_due_6.mono s_10.gr
        have r_3 := r_3.mono s_10.gr
        show ZS _ _ [some v_trade, some v_n, some v_due_4, z_first_2, some v_2, some (.ref p_told), none] H_10 _
        refine zs_reverse st.ok 5 0 rfl rfl fun H_11 s_11 => ?_
        have s_11 : Stp _ _ _ F_14 [(p_told, .lst ((us_told ++ [v_3]).reverse))] H_11 := s_11
        have st := st.trans s_11
        have sb_2 := sb_2.trans s_11
        show ZS _ _ [some v_trade, some v_n, some v_due_4, z_first_2, some v_2, some (.ref p_told), none] H_11 _
        refine zs_nil ?_
        have st := st.dropAt 0
        have sb_2 := sb_2.dropAt 0
        exact ⟨_, _, sb_2, by (try rw [hfb_2]); exact ⟨some v_2, some (.ref p_told), rfl, rfl, trivial⟩⟩
      · skip
        obtain ⟨b_4, hb_2⟩ : ∃ z : Unit, z = List.foldl allL_L2 () (rangeI 0 (2 : Int)) := ⟨_, rfl⟩
        try rw [← hb_2] at rel_4
        obtain ⟨z_turn_2, z_told_2, rfl, rfl, hinv_4⟩ := rel_4
        have st := st.trans s_12
        have r_trade := r_trade.mono s_12.gr
        have r_n := r_n.mono s_12.gr
        have r_due_6 := r_due_6.mono s_12.gr
        have hf : allL trade = allL_6 () := hf
        show ZS _ _ [some v_trade, some v_n, some v_due_4, z_first_2, z_turn_2, z_told_2, none] H_12 _
        refine zs_ret st.ok ze_bl fun v_4 F_16 H_13 s_13 r_5 => ?_
        exact q v_4 F_16 H_13 (st.trans s_13) r_5
theorem other_ix (b : Bool) : -((([(Str.ofString "line"), (Str.ofString "round")] : List Str).length : Nat) : Int) ≤ (if b then (1 : Int) else 0) ∧ (if b then (1 : Int) else 0) < ((([(Str.ofString "line"), (Str.ofString "round")] : List Str).length : Nat) : Int) := by cases b <;> decide
theorem other_ok (b : Bool) : ixL ([(Str.ofString "line"), (Str.ofString "round")] : List Str) (if b then (1 : Int) else 0) = Str.ofString "line" ∨ ixL ([(Str.ofString "line"), (Str.ofString "round")] : List Str) (if b then (1 : Int) else 0) = Str.ofString "round" := by
  cases b with
  | true => exact .inr (by unfold ixL; rw [if_pos rfl, atI_1]; rfl)
  | false => exact .inl (by unfold ixL; rw [if_neg (by decide), atI_0]; rfl)

/-! law -/
abbrev s_law : Stmt := topS 20
theorem sc_law : FnScope ["script", "store", "trade", "other", "sets", "legs", "k"] ["script"] (defScope s_law) := ⟨rfl, rfl, rfl, by decide +kernel, rfl, by decide +kernel, by decide +kernel⟩
def law_L1b : Unit :=
  ()
def law_L1 (b : Unit) (a : (List Int)) : Unit :=
  law_L1b
def law_4 (s_6 : Sto) (b : Unit) : Bool × Sto :=
  (true, s_6)
def law_3 (trade : (Str × Int)) (sets : (List (List Int))) (s_6 : Sto) : Bool × Sto :=
  (law_4 s_6) (List.foldl law_L1 () (sets ++ ([([] : List Int), (rangeI 0 trade.2), (ixL sets (0 : Int))] : List (List Int))))
def law_2 (cs : List Int) (trade : (Str × Int)) (s_3 : Sto) : Bool × Sto :=
  law_3 trade ((mapS (fun (z : Sto) (a_k : Int) => ((lset cs z trade).1, (lset cs z trade).2)) s_3 (rangeI 0 (3 : Int))).1) ((mapS (fun (z : Sto) (a_k : Int) => ((lset cs z trade).1, (lset cs z trade).2)) s_3 (rangeI 0 (3 : Int))).2)
def law_1 (cs : List Int) (trade : (Str × Int)) (s_3 : Sto) : Bool × Sto :=
  law_2 cs trade s_3
def law (cs : List Int) (s : Sto) : Bool × Sto :=
  law_1 cs ((hallL cs ((pickT cs s ([(5 : Int), (9 : Int), (24 : Int)] : List Int)).2) ((pickT cs s ([(5 : Int), (9 : Int), (24 : Int)] : List Int)).1)).1) ((hallL cs ((pickT cs s ([(5 : Int), (9 : Int), (24 : Int)] : List Int)).2) ((pickT cs s ([(5 : Int), (9 : Int), (24 : Int)] : List Int)).1)).2)
set_option maxHeartbeats 16000000 in
theorem ok_law {P : Program} {w : World} {K : PySem.W.Frag} {mg : Str → Option Value} {base : Heap} (T : Top K mg) {f : Addr} {fd : FuncData} (F : FunD K "law" "law" (defArgs (topS 20)) (defBody (topS 20)) (defScope (topS 20)) [] [] f fd) : FnOk P w K mg base CX0 7 f fd ["script"] (spLaw K) := by
  have sc := sc_law
  refine F.ok sc (fun vs H Q E h => ?_) (fun cdv A outer s0 H vs Q E hr h => ⟨_, PSs.nox pss_w, ?_⟩)
  · obtain ⟨a, ns, rfl, hl, hS, q⟩ := h
    rfl
  · obtain ⟨a, cs, rfl, hl, hS, q⟩ := h
    obtain ⟨F0, w, hS⟩ := law_start (by rw [List.length_map]; exact hl) hS
    have st := Stp.refl w
    show ZS _ _ [some (.ref a), none, none, none, none, none, none] H _
    refine zs_setN (n := 1) st.ok (zn_callMk 0 (ok_mkStore T) (hr.mono (by decide)) rfl hS hl) sc.nd rfl (by first | exact Or.inl rfl | exact Or.inr rfl) fun p us F1 H1 hp s1 r1 => ?_
    obtain ⟨c, rfl, rc⟩ := sto_inv r1
    obtain ⟨s, hs0⟩ : ∃ z, z = sto0 cs := ⟨_, rfl⟩
    rw [← hs0] at s1
    have s1 : Stp F0 [] H F1 [stoO p c s] H1 := s1
    have st := st.trans s1
    have hf : law cs s = law cs s := rfl
    show ZS _ _ [some (.ref a), some (.ref p), none, none, none, none, none] H1 _
    refine zs_set (n := 2) st.ok (ze_callS 1 0 (ok_hallL T) (hr.mono (by decide)) rfl rc (za_cons (ze_callS 1 0 (ok_pick T) (hr.mono (by decide)) rfl rc (za_cons (zn_ze (zn_lstt (enc := eI) (xs := ([(5 : Int), (9 : Int), (24 : Int)] : List Int)) (za_cons ze_int (za_cons ze_int (za_cons ze_int za_nil))))) za_nil) rfl (A_pick_of eI (by /-1-/ first | exact hT | exact hT2 | exact pick59 | exact ⟨hT, hlm⟩ | exact ⟨hT2, by rw [ho2]; exact hlm⟩ | decide | omega | (rw [← szL]; omega)))) za_nil) rfl ⟨(pickT cs s ([(5 : Int), (9 : Int), (24 : Int)] : List Int)).1, rfl, (by /-2-/ first | exact hT | exact hT2 | exact pick59 | exact ⟨hT, hlm⟩ | exact ⟨hT2, by rw [ho2]; exact hlm⟩ | decide | omega | (rw [← szL]; omega)), rfl, rfl⟩) sc.nd rfl (by first | exact Or.inl rfl | exact Or.inr rfl) fun v_trade F_11 H_11 s_2 r_trade => ?_
    obtain ⟨trade, hx_trade⟩ : ∃ z : (Str × Int), z = (hallL cs ((pickT cs s ([(5 : Int), (9 : Int), (24 : Int)] : List Int)).2) ((pickT cs s ([(5 : Int), (9 : Int), (24 : Int)] : List Int)).1)).1 := ⟨_, rfl⟩
    obtain ⟨s_3, hx_s_3⟩ : ∃ z : Sto, z = (hallL cs ((pickT cs s ([(5 : Int), (9 : Int), (24 : Int)] : List Int)).2) ((pickT cs s ([(5 : Int), (9 : Int), (24 : Int)] : List Int)).1)).2 := ⟨_, rfl⟩
    have s_2 : Stp F1 [stoO p c s] H1 F_11 [stoO p c s_3] H_11 := by subst hx_s_3; exact s_2
    have r_trade : R K F_11 v_trade ((eT2 eS eI) trade) := by subst hx_trade; exact r_trade
    have st := st.trans s_2
    have rc := rc.mono s_2.gr
    show ZS _ _ [some (.ref a), some (.ref p), some v_trade, none, none, none, none] H_11 _
    have hf : law cs s = law_1 cs trade s_3 := by subst hx_trade; subst hx_s_3; exact hf
    have hT : okT trade := by rw [hx_trade]; exact hall_ok pick59
    obtain ⟨ht1, ht2, ht3⟩ := id hT
    refine zs_set (n := 3) st.ok (ze_tup (za_cons (ze_ixLt (enc := eS) (zn_ze (zn_lstt (enc := eS) (xs := ([(Str.ofString "line"), (Str.ofString "round")] : List Str)) (za_cons ze_str (za_cons ze_str za_nil)))) (ze_intB T.b_int (ze_cm cm_eqS (ze_ixT (ze_var 2 rfl r_trade) ze_int atI_0) ze_str)) (by /-3-/ exact other_ix _)) (za_cons (ze_ixT (ze_var 2 rfl r_trade) ze_int atI_1) za_nil))) sc.nd rfl (by first | exact Or.inl rfl | exact Or.inr rfl) fun v_other F_12 H_12 s_4 r_other => ?_
    obtain ⟨other, hx_other⟩ : ∃ z : (Str × Int), z = ((ixL ([(Str.ofString "line"), (Str.ofString "round")] : List Str) (if decide (trade.1 = (Str.ofString "line")) then (1 : Int) else 0)), trade.2) := ⟨_, rfl⟩
    have s_4 : Stp F_11 [stoO p c s_3] H_11 F_12 [stoO p c s_3] H_12 := by exact s_4
    have r_other : R K F_12 v_other ((eT2 eS eI) other) := by subst hx_other; exact r_other
    have st := st.trans s_4
    have rc := rc.mono s_4.gr
    have r_trade := r_trade.mono s_4.gr
    show ZS _ _ [some (.ref a), some (.ref p), some v_trade, some v_other, none, none, none] H_12 _
    have hf : law cs s = law_2 cs trade s_3 := by subst hx_other; exact hf
    have ho2 : other.2 = trade.2 := by rw [hx_other]
    have hT2 : okT other := by
          refine ⟨?_, by rw [ho2]; exact ht2, by rw [ho2]; exact ht3⟩
          rw [hx_other]
          exact other_ok _
    refine zs_setLcS (i0 := 4) (w := st.ok) (n := 6) (G := (fun z => [stoO p c z])) (st0 := s_3) (f0 := (fun (z : Sto) (a_k : Int) => ((lset cs z trade).1, (lset cs z trade).2))) (encR := (eL eI)) rfl sc.nd (zi_range1 T.b_range ze_int (by decide)) (fun _ _ _ _ _ z a_k v_a_k _ h_a_k g_c r_a_k => ze_to (ze_callS 1 0 (ok_lset T) (hr.mono (by decide)) rfl (rc.mono g_c) (za_cons (ze_var 2 rfl (r_trade.mono g_c)) za_nil) rfl ⟨trade, rfl, (by /-4-/ first | exact hT | exact hT2 | exact pick59 | exact ⟨hT, hlm⟩ | exact ⟨hT2, by rw [ho2]; exact hlm⟩ | decide | omega | (rw [← szL]; omega)), rfl, rfl⟩) rfl rfl) (blkOk_by (N := ["script", "store", "trade", "other", "sets", "legs", "k"]) (sc := defScope (topS 20)) (by decide +kernel)) (fun _ _ _ _ _ => pg_name (i := 6) sc.nd rfl (Or.inl rfl)) rfl rfl (sw_true rfl rfl rfl (by decide +kernel)) fun p_sets us_sets F_13 H_13 hp_2 s_5 r_sets => ?_
    obtain ⟨sets, hx_sets⟩ : ∃ z : (List (List Int)), z = (mapS (fun (z : Sto) (a_k : Int) => ((lset cs z trade).1, (lset cs z trade).2)) s_3 (rangeI 0 (3 : Int))).1 := ⟨_, rfl⟩
    obtain ⟨s_6, hx_s_6⟩ : ∃ z : Sto, z = (mapS (fun (z : Sto) (a_k : Int) => ((lset cs z trade).1, (lset cs z trade).2)) s_3 (rangeI 0 (3 : Int))).2 := ⟨_, rfl⟩
    have hn_2 := st.newAt hp_2
    have s_5 : Stp F_12 [stoO p c s_3] H_12 F_13 [(p_sets, .lst us_sets), stoO p c s_6] H_13 := by subst hx_s_6; exact s_5
    have r_sets : RA K F_13 us_sets (sets.map (eL eI)) := by subst hx_sets; exact r_sets
    have st := st.trans s_5
    have rc := rc.mono s_5.gr
    have r_trade := r_trade.mono s_5.gr
    have r_other := r_other.mono s_5.gr
    have gz : Gr F_13 (upd F_13 p_sets (.lst us_sets)) := Gr.upd (st.ok.at_ (k := 0) rfl).2
    have r_sets_2 : R K (upd F_13 p_sets (.lst us_sets)) (.ref p_sets) (eL (eL eI) sets) := (r_sets.mono gz).lst upd_same
    have st : Stp _ _ _ (upd F_13 p_sets (.lst us_sets)) [stoO p c s_6] H_13 := st.freezeAt 0 rfl hn_2
    have rc := rc.mono gz
    have r_trade := r_trade.mono gz
    have r_other := r_other.mono gz
    show ZS _ _ [some (.ref a), some (.ref p), some v_trade, some v_other, some (.ref p_sets), none, none] H_13 _
    have hf : law cs s = law_3 trade sets s_6 := by subst hx_sets; subst hx_s_6; exact hf
    have hset : ∀ l ∈ sets, okL trade.2 l := by
          rw [hx_sets]; intro l hl; obtain ⟨s', x, _, e⟩ := mapS_mem hl; rw [e]; exact lset_ok
    have hslen : sets.length = 3 := by rw [hx_sets, mapS_length]; decide +kernel
    refine zs_forF (f := law_L1) (b0 := ()) st.ok PassesOwn.never rfl (zi_list (zn_ze (zn_catt (ze_var 4 rfl r_sets_2) (zn_ze (zn_lstt (enc := (eL eI)) (xs := ([([] : List Int), (rangeI 0 trade.2), (ixL sets (0 : Int))] : List (List Int))) (za_cons (zn_ze (zn_lstt (enc := eI) (xs := ([] : List Int)) za_nil)) (za_cons (zn_ze (zn_lr1 rfl T.b_list T.b_range (ze_ixT (ze_var 2 rfl r_trade) ze_int atI_1) (by /-5-/ first | exact hT | exact hT2 | exact pick59 | exact ⟨hT, hlm⟩ | exact ⟨hT2, by rw [ho2]; exact hlm⟩ | decide | omega | (rw [← szL]; omega)))) (za_cons (ze_ixLt (enc := (eL eI)) (ze_var 4 rfl r_sets_2) ze_int (by /-6-/ first | exact hT | exact hT2 | exact pick59 | exact ⟨hT, hlm⟩ | exact ⟨hT2, by rw [ho2]; exact hlm⟩ | decide | omega | (rw [← szL]; omega))) za_nil))))) (by /-7-/ rw [← szL]; show _ + 3 ≤ _; omega)))) (fun iq b σ F O => ∃ (z1 : Option V), σ = [some (.ref a), some (.ref p), some v_trade, some v_other, some (.ref p_sets), z1, none] ∧ O = [stoO p c s_6] ∧ True) (fun F_20 H_18 s_11 => ⟨none, rfl, rfl, trivial⟩) (fun i b legs v σ F_15 F_16 O_2 H_14 ha hbe hz rel g s_7 r_2 => ?_) (fun σ_2 F_18 O_3 H_16 s_9 rel_2 => ?_)
    · skip
      obtain ⟨z_legs, rfl, rfl, hinv⟩ := rel
      have st := st.trans s_7
      have rc := rc.mono s_7.gr
      have r_trade := r_trade.mono s_7.gr
      have r_other := r_other.mono s_7.gr
      have r_sets_2 := r_sets_2.mono s_7.gr
      have hlt_i := (List.getElem?_eq_some_iff.mp ha).1
      have sb : Stp F_16 [stoO p c s_6] H_14 F_16 [stoO p c s_6] H_14 := Stp.refl st.ok
      have hfb : law_L1 () legs = law_L1b := rfl
      refine zg_name (n := 5) sc.nd rfl (by first | exact Or.inl rfl | exact Or.inr rfl) ?_
      have hlm : okL trade.2 legs := by
            have hm := List.mem_of_getElem? ha
            rcases List.mem_append.mp hm with hm | hm
            · exact hset _ hm
            · simp only [List.mem_cons, List.not_mem_nil, or_false] at hm
              rcases hm with rfl | rfl | rfl
              · exact ⟨List.Pairwise.nil, fun x hx => nomatch hx⟩
              · exact okL_range _
              · exact hset _ (ixL_mem (by rw [hslen]; decide))
      show ZS _ _ [some (.ref a), some (.ref p), some v_trade, some v_other, some (.ref p_sets), some v, none] H_14 _
      refine zs_ifF st.ok (zt_eq (zt_w (zw_or (zt_not (zt_val (ze_callD (ok_askedL T) (hr.mono (by decide)) (za_cons (ze_var 2 rfl r_trade) (za_cons (ze_var 5 rfl r_2) za_nil)) ⟨trade, legs, rfl, (by /-8-/ first | exact hT | exact hT2 | exact pick59 | exact ⟨hT, hlm⟩ | exact ⟨hT2, by rw [ho2]; exact hlm⟩ | decide | omega | (rw [← szL]; omega)), rfl⟩))) fun hb => (zw_or1 (zt_not (zt_val (ze_callD (ok_askedL T) (hr.mono (by decide)) (za_cons (ze_var 3 rfl r_other) (za_cons (ze_var 5 rfl r_2) za_nil)) ⟨other, legs, rfl, (by /-9-/ first | exact hT | exact hT2 | exact pick59 | exact ⟨hT, hlm⟩ | exact ⟨hT2, by rw [ho2]; exact hlm⟩ | decide | omega | (rw [← szL]; omega)), rfl⟩)))))) (by simp)) fun F_17 H_15 s_8 => ?_
      have s_8 : Stp F_16 [stoO p c s_6] H_14 F_17 [stoO p c s_6] H_15 := by exact s_8
      have st := st.trans s_8
      have sb := sb.trans s_8
      have rc := rc.mono s_8.gr
      have r_trade := r_trade.mono s_8.gr
      have r_other := r_other.mono s_8.gr
      have r_sets_2 := r_sets_2.mono s_8.gr
      have r_2 := r_2.mono s_8.gr
      refine zs_nil ?_
      show ZS _ _ [some (.ref a), some (.ref p), some v_trade, some v_other, some (.ref p_sets), some v, none] H_15 _
      refine zs_nil ?_
      exact ⟨_, _, sb, by (try rw [hfb]); exact ⟨some v, rfl, rfl, trivial⟩⟩
    · skip
      obtain ⟨b_2, hb⟩ : ∃ z : Unit, z = List.foldl law_L1 () (sets ++ ([([] : List Int), (rangeI 0 trade.2), (ixL sets (0 : Int))] : List (List Int))) := ⟨_, rfl⟩
      try rw [← hb] at rel_2
      obtain ⟨z_legs_2, rfl, rfl, hinv_2⟩ := rel_2
      have st := st.trans s_9
      have rc := rc.mono s_9.gr
      have r_trade := r_trade.mono s_9.gr
      have r_other := r_other.mono s_9.gr
      have r_sets_2 := r_sets_2.mono s_9.gr
      have hf : law cs s = (law_4 s_6) () := hf
      show ZS _ _ [some (.ref a), some (.ref p), some v_trade, some v_other, some (.ref p_sets), z_legs_2, none] H_16 _
      refine zs_ret st.ok (ze_eqB (k1 := (true && true)) (k := true) (ze_and (ze_callD (ok_allL T) (hr.mono (by decide)) (za_cons (ze_var 2 rfl r_trade) za_nil) ⟨trade, rfl, (by /-10-/ first | exact hT | exact hT2 | exact pick59 | exact ⟨hT, hlm⟩ | exact ⟨hT2, by rw [ho2]; exact hlm⟩ | decide | omega | (rw [← szL]; omega)), rfl⟩) fun hb => (ze_one (ze_callD (ok_allL T) (hr.mono (by decide)) (za_cons (ze_var 3 rfl r_other) za_nil) ⟨other, rfl, (by /-11-/ first | exact hT | exact hT2 | exact pick59 | exact ⟨hT, hlm⟩ | exact ⟨hT2, by rw [ho2]; exact hlm⟩ | decide | omega | (rw [← szL]; omega)), rfl⟩))) (by simp)) fun v_2 F_19 H_17 s_10 r_3 => ?_
      rw [r_3.bl_inv]; exact q _
end ZL

end
section
set_option maxHeartbeats 0
namespace ZL
open PySem PySem.Spec PyProof.Rows L2
def d_mix : He.DefD := ⟨("_law_mix", none), "_law_mix", "_law_mix", defArgs (topS 4), defBody (topS 4), defScope (topS 4), [], []⟩
def d_mkStore : He.DefD := ⟨("_law_store", none), "_law_store", "_law_store", defArgs (topS 5), defBody (topS 5), defScope (topS 5), [], []⟩
def d_take : He.DefD := ⟨("_law_take", none), "_law_take", "_law_take", defArgs (topS 6), defBody (topS 6), defScope (topS 6), [], []⟩
def d_odds : He.DefD := ⟨("_law_odds", none), "_law_odds", "_law_odds", defArgs (topS 7), defBody (topS 7), defScope (topS 7), [], []⟩
def d_number : He.DefD := ⟨("_law_number", none), "_law_number", "_law_number", defArgs (topS 8), defBody (topS 8), defScope (topS 8), [], []⟩
def d_same : He.DefD := ⟨("_law_same", none), "_law_same", "_law_same", defArgs (topS 13), defBody (topS 13), defScope (topS 13), [], []⟩
def d_pick : He.DefD := ⟨("_law_pick", none), "_law_pick", "_law_pick", defArgs (topS 9), defBody (topS 9), defScope (topS 9), [], []⟩
def d_hallL : He.DefD := ⟨("_law_hall", none), "_law_hall", "_law_hall", defArgs (topS 10), defBody (topS 10), defScope (topS 10), [], []⟩
def d_stretchL : He.DefD := ⟨("_law_stretch", none), "_law_stretch", "_law_stretch", defArgs (topS 11), defBody (topS 11), defScope (topS 11), [], []⟩
def d_is_numberL : He.DefD := ⟨("_law_is_number", none), "_law_is_number", "_law_is_number", defArgs (topS 12), defBody (topS 12), defScope (topS 12), [], []⟩
def d_is_pieceL : He.DefD := ⟨("_law_is_piece", none), "_law_is_piece", "_law_is_piece", defArgs (topS 14), defBody (topS 14), defScope (topS 14), [], []⟩
def d_legsL : He.DefD := ⟨("_law_legs", none), "_law_legs", "_law_legs", defArgs (topS 15), defBody (topS 15), defScope (topS 15), [], []⟩
def d_lset : He.DefD := ⟨("_law_set", none), "_law_set", "_law_set", defArgs (topS 16), defBody (topS 16), defScope (topS 16), [], []⟩
def d_all_stretchesP : He.DefD := ⟨("all_stretches", none), "all_stretches", "all_stretches", defArgs (topS 1), defBody (topS 1), defScope (topS 1), [], []⟩
def d_runs_ofP : He.DefD := ⟨("runs_of", none), "runs_of", "runs_of", defArgs (topS 2), defBody (topS 2), defScope (topS 2), [], []⟩
def d_runsL : He.DefD := ⟨("_law_runs", none), "_law_runs", "_law_runs", defArgs (topS 17), defBody (topS 17), defScope (topS 17), [], []⟩
def d_askedL : He.DefD := ⟨("_law_asked", none), "_law_asked", "_law_asked", defArgs (topS 18), defBody (topS 18), defScope (topS 18), [], []⟩
def d_allL : He.DefD := ⟨("_law_all", none), "_law_all", "_law_all", defArgs (topS 19), defBody (topS 19), defScope (topS 19), [], []⟩
def d_law : He.DefD := ⟨("law", none), "law", "law", defArgs (topS 20), defBody (topS 20), defScope (topS 20), [], []⟩
def hfn : List He.DefD := [d_mix, d_mkStore, d_take, d_odds, d_number, d_same, d_pick, d_hallL, d_stretchL, d_is_numberL, d_is_pieceL, d_legsL, d_lset, d_all_stretchesP, d_runs_ofP, d_runsL, d_askedL, d_allL, d_law]
def hfa : List He.Fa := [.glo "_law_mix", .glo "_law_store", .glo "_law_take", .glo "_law_odds", .glo "_law_number", .glo "_law_same", .glo "_law_pick", .glo "_law_hall", .glo "_law_stretch", .glo "_law_is_number", .glo "_law_is_piece", .glo "_law_legs", .glo "_law_set", .glo "all_stretches", .glo "runs_of", .glo "_law_runs", .glo "_law_asked", .glo "_law_all", .glo "law", .free "abs", .free "bool", .free "int", .free "isinstance", .free "len", .free "list", .free "range", .free "sorted", .free "str", .free "tuple"]
abbrev hR : PySem.W.OpenRow := PySem.W.OpenLaw.row PySem.Challenge.rw_flushends_k07_runs_of_legs
abbrev hhk : PySem.W.Hook := He.hookD 4 hfa hfn
def hob (s : PySem.W.SharedT) : He.AlD := He.obsDG 4 hfa hfn (HandSHeadRun.getT s)
theorem hob_eq (s : PySem.W.SharedT) : hob s = hhk.obs s.abs := He.obsDG_eq (HandSHeadRun.getT_eq s)
abbrev loose0 : List Str := ["all_stretches", "runs_of", "_law_mix", "_law_store", "_law_take", "_law_odds", "_law_number", "_law_pick", "_law_hall", "_law_stretch", "_law_is_number", "_law_same", "_law_is_piece", "_law_legs", "_law_set", "_law_runs", "_law_asked", "_law_all"]
theorem hrun (w : World) : HandSHeadRun.RunEq hR (PySem.W.view hR.prog [20]) hhk hob 2000 ["all_stretches", "runs_of", "_law_mix", "_law_store", "_law_take", "_law_odds", "_law_number", "_law_pick", "_law_hall", "_law_stretch", "_law_is_number", "_law_same", "_law_is_piece", "_law_legs", "_law_set", "_law_runs", "_law_asked", "_law_all"] w := by
  intro os
  kernel_rfl
theorem hfacts {P : Program} {w : World} {K : PySem.W.Frag} {h : Heap} {mg : Str → Option Value} {f : Addr} (X : K.In h) (G : h.Ns mainGlobals mg) (hf : mg ("law" : Str) = some (.ref f)) (c : He.SaysD hfa hfn K) :
    ∃ fd : FuncData, (∀ (s : Shared) (v : Value), BindsTo s fd ⟨[v], []⟩ [("script", v)]) ∧ ∀ base : Heap, K.In base → base.Ns mainGlobals mg → FnOk P w K mg base CX0 7 f fd ["script"] (Z.spLaw K) := by
  have T : Top K mg := {
    f_mix := by obtain ⟨fd, F⟩ := c.def_ 0 (d := d_mix) rfl; exact ⟨_, fd, F, He.glo_ok X G (c.fact 0 (f := .glo "_law_mix") rfl)⟩
    f_mkStore := by obtain ⟨fd, F⟩ := c.def_ 1 (d := d_mkStore) rfl; exact ⟨_, fd, F, He.glo_ok X G (c.fact 1 (f := .glo "_law_store") rfl)⟩
    f_take := by obtain ⟨fd, F⟩ := c.def_ 2 (d := d_take) rfl; exact ⟨_, fd, F, He.glo_ok X G (c.fact 2 (f := .glo "_law_take") rfl)⟩
    f_odds := by obtain ⟨fd, F⟩ := c.def_ 3 (d := d_odds) rfl; exact ⟨_, fd, F, He.glo_ok X G (c.fact 3 (f := .glo "_law_odds") rfl)⟩
    f_number := by obtain ⟨fd, F⟩ := c.def_ 4 (d := d_number) rfl; exact ⟨_, fd, F, He.glo_ok X G (c.fact 4 (f := .glo "_law_number") rfl)⟩
    f_same := by obtain ⟨fd, F⟩ := c.def_ 5 (d := d_same) rfl; exact ⟨_, fd, F, He.glo_ok X G (c.fact 5 (f := .glo "_law_same") rfl)⟩
    f_pick := by obtain ⟨fd, F⟩ := c.def_ 6 (d := d_pick) rfl; exact ⟨_, fd, F, He.glo_ok X G (c.fact 6 (f := .glo "_law_pick") rfl)⟩
    f_hallL := by obtain ⟨fd, F⟩ := c.def_ 7 (d := d_hallL) rfl; exact ⟨_, fd, F, He.glo_ok X G (c.fact 7 (f := .glo "_law_hall") rfl)⟩
    f_stretchL := by obtain ⟨fd, F⟩ := c.def_ 8 (d := d_stretchL) rfl; exact ⟨_, fd, F, He.glo_ok X G (c.fact 8 (f := .glo "_law_stretch") rfl)⟩
    f_is_numberL := by obtain ⟨fd, F⟩ := c.def_ 9 (d := d_is_numberL) rfl; exact ⟨_, fd, F, He.glo_ok X G (c.fact 9 (f := .glo "_law_is_number") rfl)⟩
    f_is_pieceL := by obtain ⟨fd, F⟩ := c.def_ 10 (d := d_is_pieceL) rfl; exact ⟨_, fd, F, He.glo_ok X G (c.fact 10 (f := .glo "_law_is_piece") rfl)⟩
    f_legsL := by obtain ⟨fd, F⟩ := c.def_ 11 (d := d_legsL) rfl; exact ⟨_, fd, F, He.glo_ok X G (c.fact 11 (f := .glo "_law_legs") rfl)⟩
    f_lset := by obtain ⟨fd, F⟩ := c.def_ 12 (d := d_lset) rfl; exact ⟨_, fd, F, He.glo_ok X G (c.fact 12 (f := .glo "_law_set") rfl)⟩
    f_all_stretchesP := by obtain ⟨fd, F⟩ := c.def_ 13 (d := d_all_stretchesP) rfl; exact ⟨_, fd, F, He.glo_ok X G (c.fact 13 (f := .glo "all_stretches") rfl)⟩
    f_runs_ofP := by obtain ⟨fd, F⟩ := c.def_ 14 (d := d_runs_ofP) rfl; exact ⟨_, fd, F, He.glo_ok X G (c.fact 14 (f := .glo "runs_of") rfl)⟩
    f_runsL := by obtain ⟨fd, F⟩ := c.def_ 15 (d := d_runsL) rfl; exact ⟨_, fd, F, He.glo_ok X G (c.fact 15 (f := .glo "_law_runs") rfl)⟩
    f_askedL := by obtain ⟨fd, F⟩ := c.def_ 16 (d := d_askedL) rfl; exact ⟨_, fd, F, He.glo_ok X G (c.fact 16 (f := .glo "_law_asked") rfl)⟩
    f_allL := by obtain ⟨fd, F⟩ := c.def_ 17 (d := d_allL) rfl; exact ⟨_, fd, F, He.glo_ok X G (c.fact 17 (f := .glo "_law_all") rfl)⟩
    f_law := by obtain ⟨fd, F⟩ := c.def_ 18 (d := d_law) rfl; exact ⟨_, fd, F, He.glo_ok X G (c.fact 18 (f := .glo "law") rfl)⟩
    b_abs := He.free_ok X G (c.fact 19 (f := .free "abs") rfl)
    b_bool := He.free_ok X G (c.fact 20 (f := .free "bool") rfl)
    b_int := He.free_ok X G (c.fact 21 (f := .free "int") rfl)
    b_isinstance := He.free_ok X G (c.fact 22 (f := .free "isinstance") rfl)
    b_len := He.free_ok X G (c.fact 23 (f := .free "len") rfl)
    b_list := He.free_ok X G (c.fact 24 (f := .free "list") rfl)
    b_range := He.free_ok X G (c.fact 25 (f := .free "range") rfl)
    b_sorted := He.free_ok X G (c.fact 26 (f := .free "sorted") rfl)
    b_str := He.free_ok X G (c.fact 27 (f := .free "str") rfl)
    b_tuple := He.free_ok X G (c.fact 28 (f := .free "tuple") rfl) }
  obtain ⟨fd, F⟩ := c.def_ 18 (d := d_law) rfl
  have e := hf.symm.trans (He.glo_ok X G (c.fact 18 (f := .glo "law") rfl))
  cases e
  have b := FunD.bindsA (ps := ["script"]) F fun _ _ _ _ _ _ us hl => match us, hl with | [_], _ => rfl
  exact ⟨fd, fun s v => b s [v] rfl, fun base _ _ => ok_law T F⟩
end ZL
open PySem PySem.W PySem.Calls PyProof.Rows
theorem PySem.Challenge.cw_flushends_k07_runs_of_legs_holds : PySem.Challenge.rw_flushends_k07_runs_of_legs.Holds := by
  w_on; o_law
  refine HandSHeadRun.head_any (r := OpenLaw.row PySem.Challenge.rw_flushends_k07_runs_of_legs) (q := view (OpenLaw.row PySem.Challenge.rw_flushends_k07_runs_of_legs).prog [20]) (H := ZL.hhk) (ob := ZL.hob) (M := 2000) (loose := ["all_stretches", "runs_of", "_law_mix", "_law_store", "_law_take", "_law_odds", "_law_number", "_law_pick", "_law_hall", "_law_stretch", "_law_is_number", "_law_same", "_law_is_piece", "_law_legs", "_law_set", "_law_runs", "_law_asked", "_law_all"]) (d := HandSHeadRun.topDef (OpenLaw.row PySem.Challenge.rw_flushends_k07_runs_of_legs).prog 20) (kwd := []) ZL.hob_eq
    (by kernel_rfl) (fun s => by kernel_rfl) ZL.hrun (by kernel_rfl) (by kernel_rfl) (by kernel_rfl) (by rfl) (by first | assumption | decide +kernel) (by decide +kernel) ⟨rfl, rfl, rfl, rfl, rfl, by decide +kernel⟩ ?hw ?hc
  case hw => w_witness2
  case hc =>
    refine L2.walk_ofE (l := PySem.Challenge.rw_flushends_k07_runs_of_legs) (n := 63) (k := 7) (x := "script") (CX := L2.CX0) rfl (by decide) (by kernel_rfl) ⟨rfl, by decide, by decide⟩ ?F (fun _ _ _ _ z => z)
    intro w mg fa h Y G hmg0
    obtain ⟨K, KX, c⟩ := Y
    have hmg : mg ("law" : PySem.Str) = some (.ref fa) := by
      have e : (HandSHeadRun.topDef (OpenLaw.row PySem.Challenge.rw_flushends_k07_runs_of_legs).prog 20).name = ("law" : PySem.Str) := by kernel_rfl
      rw [← e]
      exact hmg0
    obtain ⟨fd, hb, hF⟩ := ZL.hfacts (P := (PySem.Challenge.rw_flushends_k07_runs_of_legs).prog) (w := w) KX G hmg c
    exact ⟨K, fd, Z.spLaw K, KX, hb, fun H a ns hl _ hS => ⟨a, ns, rfl, hl, hS, fun _ => rfl⟩, hF⟩

end
