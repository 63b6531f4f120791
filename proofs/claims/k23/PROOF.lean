import PyProof.Rows.All
import Wide.All
import OpenK.AllK
import Wide.FinOn
import HandS.ForMost
import HandS.Wide
import HandS.SortInts
import HandS.Defaults
import HandS.IsInst
import HandS.SortRule
import HandS.Conv
import HandS.SetFor
import HandS.Strs
import HandS.SetBool
import HandS.Rev
import HandS.RevTup
import HandS.Flow
import HandS.Dict
import HandS.ListItems
import KE.KDictList
import KE.KStateDown
import Lean
import HandS.Base
import HandS.Call
import HandS.Ends
import HandS.More
import HandS.Words
import HandS.WordsExc
import HandS.Head0
import HandS.Head1
import HandS.Head2
import HandS.HeadEnd
import HandS.HeadHook1
import HandS.HeadHook2
import PySem.Challenge.RW_flushends_k23_exchanges_cut_into_primiti
set_option Elab.async false
set_option linter.all false
set_option maxRecDepth 100000
section
namespace Z
open PySem PySem.Spec PyProof.Rows L2

/-! ### arguments without stars -/
def plE : Expr → Bool
  | .Starred _ _ => false
  | _ => true
theorem se_pl {e : Expr} {es : List Expr} {env : Env} (h : plE e = true) : starEach (e :: es) env = (false, eval e env) :: starEach es env := by
  cases e <;> first | rfl | cases h
theorem se_any {pos : Pos} {env : Env} : ∀ {es : List Expr}, es.all plE = true → (backTo pos (starEach es env)).any (·.1) = false
  | [], _ => rfl
  | e :: es, h => by
    obtain ⟨h1, h2⟩ := Bool.and_eq_true_iff.mp (show (plE e && es.all plE) = true from h)
    rw [se_pl h1]
    exact se_any h2
/-! ### data in a part of the heap that stays -/
def kD : Key → PyData
  | .inl i => .int i
  | .inr x => .str x
mutual
def noD : PyData → Bool
  | .list xs => noDL xs
  | .tuple xs => noDL xs
  | .dict _ => false
  | _ => true
def noDL : List PyData → Bool
  | [] => true
  | d :: ds => noD d && noDL ds
end
theorem noDL_at : ∀ {ds : List PyData} {i : Nat} {d : PyData}, noDL ds = true → ds[i]? = some d → noD d = true
  | [], i, d, _, h => by simp at h
  | e :: ds, 0, d, h, e1 => by cases e1; exact (Bool.and_eq_true_iff.mp h).1
  | e :: ds, i + 1, d, h, e1 => noDL_at (Bool.and_eq_true_iff.mp h).2 e1
inductive R (K : PySem.W.Frag) (F : Hp) : V → PyData → Prop
  | non : R K F .non .none
  | bl (b : Bool) : R K F (.bl b) (.bool b)
  | int (i : Int) : R K F (.int i) (.int i)
  | str (x : Str) : R K F (.str x) (.str x)
  | lst {a : Addr} {vs : List V} {ds : List PyData} : F a = some (.lst vs) → vs.length = ds.length → (∀ (i : Nat) v d, vs[i]? = some v → ds[i]? = some d → R K F v d) → R K F (.ref a) (.list ds)
  | tup {a : Addr} {vs : List V} {ds : List PyData} : F a = some (.tup vs) → vs.length = ds.length → (∀ (i : Nat) v d, vs[i]? = some v → ds[i]? = some d → R K F v d) → R K F (.ref a) (.tuple ds)
  | dct {a : Addr} {kvs : List (Key × V)} {ds : List (PyData × PyData)} : F a = some (.dK kvs) → ds.map (·.1) = kvs.map (fun kv => kD kv.1) → (∀ (i : Nat) kv e, kvs[i]? = some kv → ds[i]? = some e → R K F kv.2 e.2) → R K F (.ref a) (.dict ds)
structure RA (K : PySem.W.Frag) (F : Hp) (vs : List V) (ds : List PyData) : Prop where
  len : vs.length = ds.length
  at_ : ∀ (i : Nat) v d, vs[i]? = some v → ds[i]? = some d → R K F v d
def Gr (F F' : Hp) : Prop := ∀ b o, F b = some o → F' b = some o
abbrev Own := List (Addr × HO)
def keys (O : Own) : List Addr := O.map (·.1)
section
variable {K : PySem.W.Frag} {F F' F1 F2 F3 H H' H1 H2 : Hp} {v : V} {d : PyData} {a p : Addr} {vs : List V} {ds : List PyData} {O O' O1 O2 : Own} {o o' : HO}
theorem Gr.refl : Gr F F := fun _ _ h => h
theorem Gr.trans (x : Gr F F1) (y : Gr F1 F2) : Gr F F2 := fun b o h => y b o (x b o h)
theorem Gr.sqT (g : Gr F F') (h : SqT K F a vs) : SqT K F' a vs := by
  rcases h with (h | ⟨o, h⟩) | h
  · exact .inl (.inl (g _ _ h))
  · exact .inl (.inr ⟨o, g _ _ h⟩)
  · exact .inr h
theorem Gr.sqL (g : Gr F F') (h : SqL K F a vs) : SqL K F' a vs := by
  rcases h with (h | ⟨o, h⟩) | h
  · exact .inl (.inl (g _ _ h))
  · exact .inl (.inr ⟨o, g _ _ h⟩)
  · exact .inr h
theorem R.mono (h : R K F v d) (g : Gr F F') : R K F' v d := by
  induction h with
  | non => exact .non
  | bl b => exact .bl b
  | int i => exact .int i
  | str x => exact .str x
  | lst h l _ ih => exact .lst (g _ _ h) l ih
  | tup h l _ ih => exact .tup (g _ _ h) l ih
  | dct h l _ ih => exact .dct (g _ _ h) l ih
theorem RA.mono (h : RA K F vs ds) (g : Gr F F') : RA K F' vs ds := ⟨h.len, fun i v d a b => (h.at_ i v d a b).mono g⟩
theorem RA.lst (h : RA K F vs ds) (e : F a = some (.lst vs)) : R K F (.ref a) (.list ds) := .lst e h.len h.at_
theorem RA.tup (h : RA K F vs ds) (e : F a = some (.tup vs)) : R K F (.ref a) (.tuple ds) := .tup e h.len h.at_
theorem R.lst_inv (h : R K F v (.list ds)) : ∃ a vs, v = .ref a ∧ F a = some (.lst vs) ∧ RA K F vs ds := by
  cases h with
  | lst e l x => exact ⟨_, _, rfl, e, l, x⟩
theorem R.tupH_inv (h : R K F v (.tuple ds)) : ∃ a vs, v = .ref a ∧ F a = some (.tup vs) ∧ RA K F vs ds := by
  cases h with
  | tup e l x => exact ⟨_, _, rfl, e, l, x⟩
theorem R.tup_inv (h : R K F v (.tuple ds)) : ∃ a vs, v = .ref a ∧ SqT K F a vs ∧ RA K F vs ds := by
  cases h with
  | tup e l x => exact ⟨_, _, rfl, .inl (.inl e), l, x⟩
theorem R.int_inv {i : Int} (h : R K F v (.int i)) : v = .int i := by cases h; rfl
theorem R.str_inv {i : Str} (h : R K F v (.str i)) : v = .str i := by cases h; rfl
theorem R.bl_inv {i : Bool} (h : R K F v (.bool i)) : v = .bl i := by cases h; rfl
theorem R.non_inv (h : R K F v .none) : v = .non := by cases h; rfl
theorem RA.nil : RA K F [] [] := ⟨rfl, fun i v d h => by simp at h⟩
theorem RA.cons (h : R K F v d) (t : RA K F vs ds) : RA K F (v :: vs) (d :: ds) := ⟨by simp [t.len], fun i w e a b => by
  cases i with
  | zero => simp at a b; subst a b; exact h
  | succ i => exact t.at_ i w e (by simpa using a) (by simpa using b)⟩
theorem RA.app {ws : List V} {es : List PyData} (h : RA K F vs ds) (t : RA K F ws es) : RA K F (vs ++ ws) (ds ++ es) := ⟨by simp [t.len, h.len], fun i w e a b => by
  by_cases hi : i < vs.length
  · rw [List.getElem?_append_left hi] at a
    rw [List.getElem?_append_left (by rw [← h.len]; exact hi)] at b
    exact h.at_ i w e a b
  · rw [List.getElem?_append_right (by omega)] at a
    rw [List.getElem?_append_right (by rw [← h.len]; omega)] at b
    rw [← h.len] at b
    exact t.at_ _ w e a b⟩
theorem RA.snoc (h : RA K F vs ds) (t : R K F v d) : RA K F (vs ++ [v]) (ds ++ [d]) := h.app (.cons t .nil)
theorem RA.get {i : Nat} (h : RA K F vs ds) (e : ds[i]? = some d) : ∃ v, vs[i]? = some v ∧ R K F v d := by
  obtain ⟨hi, _⟩ := List.getElem?_eq_some_iff.mp e
  have hv : i < vs.length := by rw [h.len]; exact hi
  exact ⟨vs[i], List.getElem?_eq_getElem hv, h.at_ i _ d (List.getElem?_eq_getElem hv) e⟩
theorem RA.get' {i : Nat} (h : RA K F vs ds) (e : vs[i]? = some v) : ∃ d, ds[i]? = some d ∧ R K F v d := by
  obtain ⟨hi, _⟩ := List.getElem?_eq_some_iff.mp e
  have hv : i < ds.length := by rw [← h.len]; exact hi
  exact ⟨ds[i], List.getElem?_eq_getElem hv, h.at_ i v _ e (List.getElem?_eq_getElem hv)⟩
theorem RA.cons_inv (h : RA K F vs (d :: ds)) : ∃ v ws, vs = v :: ws ∧ R K F v d ∧ RA K F ws ds := by
  cases vs with
  | nil => have := h.len; simp at this
  | cons v ws => exact ⟨v, ws, rfl, h.at_ 0 v d rfl rfl, by have := h.len; simpa using this, fun i w e a b => h.at_ (i + 1) w e (by simpa using a) (by simpa using b)⟩
theorem RA.nil_inv (h : RA K F vs []) : vs = [] := by
  have := h.len
  simpa using this
theorem RA.take {n : Nat} (h : RA K F vs ds) : RA K F (vs.take n) (ds.take n) := ⟨by simp [h.len], fun i w e a b => by
  rw [List.getElem?_take] at a b
  split at a
  · rename_i hi
    rw [if_pos hi] at b
    exact h.at_ i w e a b
  · cases a⟩
theorem RA.drop {n : Nat} (h : RA K F vs ds) : RA K F (vs.drop n) (ds.drop n) := ⟨by simp [h.len], fun i w e a b => by
  rw [List.getElem?_drop] at a b
  exact h.at_ _ w e a b⟩
theorem RA.rev (h : RA K F vs ds) : RA K F vs.reverse ds.reverse := ⟨by simp [h.len], fun i w e a b => by
  have hi : i < vs.reverse.length := (List.getElem?_eq_some_iff.mp a).1
  rw [List.length_reverse] at hi
  rw [List.getElem?_reverse hi] at a
  rw [List.getElem?_reverse (by rw [← h.len]; exact hi)] at b
  rw [← h.len] at b
  exact h.at_ _ w e a b⟩
theorem RA.set {n : Nat} (h : RA K F vs ds) (t : R K F v d) : RA K F (vs.set n v) (ds.set n d) := ⟨by simp [h.len], fun i w e a b => by
  rw [List.getElem?_set] at a b
  split at a
  · rename_i hi
    rw [if_pos hi, ← h.len] at b
    split at a
    · rename_i h2
      rw [if_pos h2] at b
      cases a; cases b; exact t
    · cases a
  · rename_i hi
    rw [if_neg hi] at b
    exact h.at_ i w e a b⟩
theorem RA.dropLast (h : RA K F vs ds) : RA K F vs.dropLast ds.dropLast := by
  rw [List.dropLast_eq_take, List.dropLast_eq_take, h.len]
  exact h.take
theorem RA.eraseIdx {n : Nat} (h : RA K F vs ds) : RA K F (vs.eraseIdx n) (ds.eraseIdx n) := by
  rw [List.eraseIdx_eq_take_drop_succ, List.eraseIdx_eq_take_drop_succ]
  exact h.take.app h.drop
theorem dpAll_of : ∀ {vs : List V} {ds : List PyData}, vs.length = ds.length → (∀ (i : Nat) v d, vs[i]? = some v → ds[i]? = some d → Dp K H v d) → DpAll K H vs ds
  | [], [], _, _ => .nil
  | v :: vs, d :: ds, l, h => .cons (h 0 v d rfl rfl) (dpAll_of (by simpa using l) fun i w e a b => h (i + 1) w e (by simpa using a) (by simpa using b))
theorem R.dp (h : R K F v d) (g : Gr F H) (hn : noD d = true) : Dp K H v d := by
  induction h with
  | non => exact .non
  | bl b => exact .bl b
  | int i => exact .int i
  | str x => exact .str x
  | lst h l _ ih => exact .lst (.inl (.inl (g _ _ h))) (dpAll_of l fun i v d e1 e2 => ih i v d e1 e2 (noDL_at hn e2))
  | tup h l _ ih => exact .tup (.inl (.inl (g _ _ h))) (dpAll_of l fun i v d e1 e2 => ih i v d e1 e2 (noDL_at hn e2))
  | dct h l _ ih => cases hn
theorem R.dct_inv {ds : List (PyData × PyData)} (h : R K F v (.dict ds)) : ∃ a kvs, v = .ref a ∧ F a = some (.dK kvs) ∧ ds.map (·.1) = kvs.map (fun kv => kD kv.1) ∧ ∀ (i : Nat) kv e, kvs[i]? = some kv → ds[i]? = some e → R K F kv.2 e.2 := by
  cases h with
  | dct e l x => exact ⟨_, _, rfl, e, l, x⟩

/-! ### the heap: what stays (F), what is mine (O) -/
structure WOk (F : Hp) (O : Own) (H : Hp) : Prop where
  sub : Gr F H
  own : ∀ p ∈ O, H p.1 = some p.2 ∧ F p.1 = none
  nd : (keys O).Nodup
  sz : ∀ a xs, F a = some (.lst xs) → xs.length ≤ sizeLine
  szo : ∀ p ∈ O, ∀ xs, p.2 = .lst xs → xs.length ≤ sizeLine
structure Stp (F : Hp) (O : Own) (H F' : Hp) (O' : Own) (H' : Hp) : Prop where
  ok : WOk F' O' H'
  gr : Gr F F'
  keep : ∀ b o, H b = some o → b ∉ keys O → H' b = some o
  fr : ∀ b o, F' b = some o → F b = some o ∨ H b = none
  ky : ∀ b ∈ keys O', b ∈ keys O ∨ H b = none
  dom : ∀ b, H b ≠ none → H' b ≠ none
theorem Stp.refl (w : WOk F O H) : Stp F O H F O H := ⟨w, Gr.refl, fun _ _ h _ => h, fun _ _ h => .inl h, fun _ h => .inl h, fun _ h => h⟩
theorem Stp.trans (x : Stp F O H F1 O1 H1) (y : Stp F1 O1 H1 F2 O2 H2) : Stp F O H F2 O2 H2 where
  ok := y.ok
  gr := x.gr.trans y.gr
  keep := fun b o h n => y.keep b o (x.keep b o h n) fun hb => by
    rcases x.ky b hb with q | q
    · exact n q
    · rw [q] at h; cases h
  fr := fun b o h => by
    rcases y.fr b o h with q | q
    · exact x.fr b o q
    · refine .inr ?_
      cases e : H b with
      | none => rfl
      | some u => exact absurd q (x.dom b (by rw [e]; simp))
  ky := fun b hb => by
    rcases y.ky b hb with q | q
    · exact x.ky b q
    · refine .inr ?_
      cases e : H b with
      | none => rfl
      | some u => exact absurd q (x.dom b (by rw [e]; simp))
  dom := fun b h => y.dom b (x.dom b h)
theorem WOk.at_ (w : WOk F O H) {k : Nat} (h : O[k]? = some (a, o)) : H a = some o ∧ F a = none := w.own (a, o) (List.mem_of_getElem? h)
theorem WOk.key (w : WOk F O H) {k : Nat} (h : O[k]? = some (a, o)) : a ∈ keys O := List.mem_map.mpr ⟨(a, o), List.mem_of_getElem? h, rfl⟩
theorem WOk.new (w : WOk F O H) (h : H p = none) : F p = none := by
  cases e : F p with
  | none => rfl
  | some u => rw [w.sub p u e] at h; cases h
theorem WOk.newK (w : WOk F O H) (h : H p = none) : p ∉ keys O := fun hp => by
  obtain ⟨q, hq, rfl⟩ := List.mem_map.mp hp
  rw [(w.own q hq).1] at h; cases h
def szOk : HO → Prop
  | .lst xs => xs.length ≤ sizeLine
  | _ => True
theorem Stp.alloc (w : WOk F O H) (h : H p = none) (hs : szOk o) : Stp F O H F ((p, o) :: O) (upd H p o) where
  ok := {
    sub := fun b u e => by rw [upd_ne (ne_of_none (w.sub b u e) h)]; exact w.sub b u e
    own := fun q hq => by
      rcases List.mem_cons.mp hq with rfl | hq
      · exact ⟨upd_same, w.new h⟩
      · rw [upd_ne (ne_of_none (w.own q hq).1 h)]; exact w.own q hq
    nd := by
      show (p :: keys O).Nodup
      exact List.nodup_cons.mpr ⟨w.newK h, w.nd⟩
    sz := w.sz
    szo := fun q hq xs e => by
      rcases List.mem_cons.mp hq with rfl | hq
      · have e : o = .lst xs := e
        subst e; exact hs
      · exact w.szo q hq xs e }
  gr := Gr.refl
  keep := fun b u e _ => by rw [upd_ne (ne_of_none e h)]; exact e
  fr := fun _ _ e => .inl e
  ky := fun b hb => by
    rcases List.mem_cons.mp hb with rfl | hb
    · exact .inr h
    · exact .inl hb
  dom := fun b e => by
    by_cases hb : b = p
    · rw [hb] at e; exact absurd h e
    · rw [upd_ne hb]; exact e
/-- what is mine and new becomes what stays -/
theorem Stp.freeze (x : Stp F O H F' ((p, o) :: O') H') (h : H p = none) : Stp F O H (upd F' p o) O' H' where
  ok := {
    sub := fun b u e => by
      by_cases hb : b = p
      · subst hb
        rw [upd_same] at e; cases e
        exact (x.ok.own (b, o) List.mem_cons_self).1
      · rw [upd_ne hb] at e; exact x.ok.sub b u e
    own := fun q hq => by
      have nd := x.ok.nd
      have hq' := x.ok.own q (List.mem_cons_of_mem _ hq)
      refine ⟨hq'.1, ?_⟩
      have : q.1 ≠ p := fun e => by
        have nd : (p :: keys O').Nodup := nd
        exact (List.nodup_cons.mp nd).1 (List.mem_map.mpr ⟨q, hq, e⟩)
      rw [upd_ne this]; exact hq'.2
    nd := by
      have nd : (p :: keys O').Nodup := x.ok.nd
      exact (List.nodup_cons.mp nd).2
    sz := fun b xs e => by
      by_cases hb : b = p
      · subst hb
        rw [upd_same] at e; cases e
        exact x.ok.szo (b, .lst xs) List.mem_cons_self xs rfl
      · rw [upd_ne hb] at e; exact x.ok.sz b xs e
    szo := fun q hq => x.ok.szo q (List.mem_cons_of_mem _ hq) }
  gr := fun b u e => by
    have hb : b ≠ p := fun z => by
      subst z
      rw [(x.ok.own (b, o) List.mem_cons_self).2.symm] at *
      have := x.gr b u e
      rw [(x.ok.own (b, o) List.mem_cons_self).2] at this; cases this
    rw [upd_ne hb]; exact x.gr b u e
  keep := x.keep
  fr := fun b u e => by
    by_cases hb : b = p
    · subst hb; exact .inr h
    · rw [upd_ne hb] at e; exact x.fr b u e
  ky := fun b hb => x.ky b (List.mem_cons_of_mem _ hb)
  dom := x.dom
/-- what is mine is let go -/
theorem Stp.drop (x : Stp F O H F' ((p, o) :: O') H') : Stp F O H F' O' H' where
  ok := ⟨x.ok.sub, fun q hq => x.ok.own q (List.mem_cons_of_mem _ hq), by
    have nd : (p :: keys O').Nodup := x.ok.nd
    exact (List.nodup_cons.mp nd).2, x.ok.sz, fun q hq => x.ok.szo q (List.mem_cons_of_mem _ hq)⟩
  gr := x.gr
  keep := x.keep
  fr := x.fr
  ky := fun b hb => x.ky b (List.mem_cons_of_mem _ hb)
  dom := x.dom
theorem keys_set {O : Own} {k : Nat} (h : O[k]? = some (a, o)) : keys (O.set k (a, o')) = keys O := by
  unfold keys
  rw [List.map_set]
  apply List.ext_getElem?
  intro i
  rw [List.getElem?_set]
  split
  · rename_i e
    subst e
    obtain ⟨hi, e2⟩ := List.getElem?_eq_some_iff.mp h
    rw [if_pos (by simpa using hi), List.getElem?_map, h]; rfl
  · rfl
theorem Stp.write (w : WOk F O H) {k : Nat} (h : O[k]? = some (a, o)) (hs : szOk o') : Stp F O H F (O.set k (a, o')) (upd H a o') where
  ok := {
    sub := fun b u e => by
      have hb : b ≠ a := fun z => by subst z; rw [(w.at_ h).2] at e; cases e
      rw [upd_ne hb]; exact w.sub b u e
    own := fun q hq => by
      obtain ⟨i, hi⟩ := List.mem_iff_getElem?.mp hq
      rw [List.getElem?_set] at hi
      split at hi
      · rename_i e
        split at hi
        · cases hi
          exact ⟨upd_same, (w.at_ h).2⟩
        · cases hi
      · rename_i e
        have hne : q.1 ≠ a := fun z => by
          have nd := w.nd
          have h1 : (keys O)[k]? = some a := by unfold keys; rw [List.getElem?_map, h]; rfl
          have h2 : (keys O)[i]? = some a := by unfold keys; rw [List.getElem?_map, hi]; simp [z]
          obtain ⟨l1, g1⟩ := List.getElem?_eq_some_iff.mp h1
          obtain ⟨l2, g2⟩ := List.getElem?_eq_some_iff.mp h2
          exact e ((List.getElem_inj nd).mp (g1.trans g2.symm))
        have hq' := w.own q (List.mem_of_getElem? hi)
        rw [upd_ne hne]; exact hq'
    nd := by rw [keys_set h]; exact w.nd
    sz := w.sz
    szo := fun q hq xs e => by
      obtain ⟨i, hi⟩ := List.mem_iff_getElem?.mp hq
      rw [List.getElem?_set] at hi
      split at hi
      · split at hi
        · cases hi
          have e : o' = .lst xs := e
          subst e; exact hs
        · cases hi
      · exact w.szo q (List.mem_of_getElem? hi) xs e }
  gr := Gr.refl
  keep := fun b u e n => by
    have hb : b ≠ a := fun z => by subst z; exact n (w.key h)
    rw [upd_ne hb]; exact e
  fr := fun _ _ e => .inl e
  ky := fun b hb => by rw [keys_set h] at hb; exact .inl hb
  dom := fun b e => by
    by_cases hb : b = a
    · subst hb; rw [upd_same]; simp
    · rw [upd_ne hb]; exact e
/-- a callee that sees less of what is mine -/
theorem WOk.less (w : WOk F O H) : WOk F [] H := ⟨w.sub, (fun _ h => nomatch h), List.nodup_nil, w.sz, (fun _ h => nomatch h)⟩
theorem Stp.more (w : WOk F O H) (x : Stp F [] H F' O' H') : Stp F O H F' (O' ++ O) H' where
  ok := {
    sub := x.ok.sub
    own := fun q hq => by
      rcases List.mem_append.mp hq with hq | hq
      · exact x.ok.own q hq
      · obtain ⟨e, n⟩ := w.own q hq
        refine ⟨x.keep _ _ e (by intro z; cases z), ?_⟩
        cases r : F' q.1 with
        | none => rfl
        | some u =>
          rcases x.fr _ _ r with z | z
          · rw [n] at z; cases z
          · rw [e] at z; cases z
    nd := by
      unfold keys
      rw [List.map_append]
      refine List.nodup_append.mpr ⟨x.ok.nd, w.nd, fun b hb c hc e => ?_⟩
      subst e
      rcases x.ky b hb with z | z
      · cases z
      · obtain ⟨q, hq, rfl⟩ := List.mem_map.mp hc
        rw [(w.own q hq).1] at z; cases z
    sz := x.ok.sz
    szo := fun q hq => by
      rcases List.mem_append.mp hq with hq | hq
      · exact x.ok.szo q hq
      · exact w.szo q hq }
  gr := x.gr
  keep := fun b o e _ => x.keep b o e (by intro z; cases z)
  fr := x.fr
  ky := fun b hb => by
    unfold keys at hb
    rw [List.map_append] at hb
    rcases List.mem_append.mp hb with hb | hb
    · rcases x.ky b hb with z | z
      · cases z
      · exact .inr z
    · exact .inl hb
  dom := x.dom
/-- a callee that sees one of what is mine -/
theorem WOk.one (w : WOk F O H) {k : Nat} (h : O[k]? = some (a, o)) : WOk F [(a, o)] H := ⟨w.sub, fun q hq => by
  have e : q = (a, o) := by simpa using hq
  subst e
  exact w.at_ h, by unfold keys; simp, w.sz, fun q hq xs e => by
  have e' : q = (a, o) := by simpa using hq
  subst e'
  exact w.szo (a, o) (List.mem_of_getElem? h) xs e⟩
theorem Stp.moreAt (w : WOk F O H) {k : Nat} (h : O[k]? = some (a, o)) (x : Stp F [(a, o)] H F' [(a, o')] H') : Stp F O H F' (O.set k (a, o')) H' where
  ok := {
    sub := x.ok.sub
    own := fun q hq => by
      obtain ⟨i, hi⟩ := List.mem_iff_getElem?.mp hq
      rw [List.getElem?_set] at hi
      split at hi
      · split at hi
        · cases hi
          exact x.ok.own (a, o') (by simp)
        · cases hi
      · rename_i ei
        have hne : q.1 ≠ a := fun z => by
          have nd := w.nd
          have h1 : (keys O)[k]? = some a := by unfold keys; rw [List.getElem?_map, h]; rfl
          have h2 : (keys O)[i]? = some a := by unfold keys; rw [List.getElem?_map, hi]; simp [z]
          obtain ⟨l1, g1⟩ := List.getElem?_eq_some_iff.mp h1
          obtain ⟨l2, g2⟩ := List.getElem?_eq_some_iff.mp h2
          exact ei ((List.getElem_inj nd).mp (g1.trans g2.symm))
        obtain ⟨e, n⟩ := w.own q (List.mem_of_getElem? hi)
        refine ⟨x.keep _ _ e (by unfold keys; simpa using hne), ?_⟩
        cases r : F' q.1 with
        | none => rfl
        | some u =>
          rcases x.fr _ _ r with z | z
          · rw [n] at z; cases z
          · rw [e] at z; cases z
    nd := by rw [keys_set h]; exact w.nd
    sz := x.ok.sz
    szo := fun q hq xs e => by
      obtain ⟨i, hi⟩ := List.mem_iff_getElem?.mp hq
      rw [List.getElem?_set] at hi
      split at hi
      · split at hi
        · cases hi
          exact x.ok.szo (a, o') (by simp) xs e
        · cases hi
      · exact w.szo q (List.mem_of_getElem? hi) xs e }
  gr := x.gr
  keep := fun b u e n => x.keep b u e (by
    unfold keys
    intro z
    have z : b = a := by simpa using z
    subst z
    exact n (w.key h))
  fr := x.fr
  ky := fun b hb => by rw [keys_set h] at hb; exact .inl hb
  dom := x.dom
theorem R.size (w : WOk F O H) (h : R K F v (.list ds)) : ds.length ≤ sizeLine := by
  obtain ⟨a, vs, _, e, r⟩ := h.lst_inv
  rw [← r.len]; exact w.sz a vs e
end
end Z

end
section
namespace Z
open PySem PySem.Spec PyProof.Rows L2

section
variable {K : PySem.W.Frag} {F F' F1 F2 F3 H H' H1 H2 : Hp} {v : V} {d : PyData} {a p : Addr} {vs : List V} {ds : List PyData} {O O' O1 O2 : Own} {o o' : HO}
theorem WOk.tail {q : Addr × HO} (w : WOk F (q :: O) H) : WOk F O H :=
  ⟨w.sub, fun p hp => w.own p (List.mem_cons_of_mem _ hp), (List.nodup_cons.mp (show (q.1 :: keys O).Nodup from w.nd)).2, w.sz, fun p hp => w.szo p (List.mem_cons_of_mem _ hp)⟩
/-- one thing more that is mine, untouched -/
theorem Stp.cons {q : Addr × HO} (w : WOk F (q :: O) H) (x : Stp F O H F' O' H') : Stp F (q :: O) H F' (q :: O') H' := by
  have hq := w.own q List.mem_cons_self
  have nk : q.1 ∉ keys O := (List.nodup_cons.mp (show (q.1 :: keys O).Nodup from w.nd)).1
  have hF' : F' q.1 = none := by
    cases r : F' q.1 with
    | none => rfl
    | some u =>
      rcases x.fr _ _ r with z | z
      · rw [hq.2] at z; cases z
      · rw [hq.1] at z; cases z
  refine ⟨⟨x.ok.sub, fun p hp => ?_, ?_, x.ok.sz, fun p hp => ?_⟩, x.gr, fun b u e n => ?_, x.fr, fun b hb => ?_, x.dom⟩
  · rcases List.mem_cons.mp hp with rfl | hp
    · exact ⟨x.keep _ _ hq.1 nk, hF'⟩
    · exact x.ok.own p hp
  · show (q.1 :: keys O').Nodup
    refine List.nodup_cons.mpr ⟨fun hb => ?_, x.ok.nd⟩
    rcases x.ky _ hb with z | z
    · exact nk z
    · rw [hq.1] at z; cases z
  · rcases List.mem_cons.mp hp with rfl | hp
    · exact w.szo _ List.mem_cons_self
    · exact x.ok.szo p hp
  · refine x.keep b u e fun hb => n ?_
    exact List.mem_cons_of_mem _ hb
  · rcases List.mem_cons.mp hb with rfl | hb
    · exact .inl List.mem_cons_self
    · rcases x.ky b hb with z | z
      · exact .inl (List.mem_cons_of_mem _ z)
      · exact .inr z
theorem Gr.upd (h : F p = none) : Gr F (L2.upd F p o) := fun b u e => by rw [upd_ne (ne_of_none e h)]; exact e
/-- a new tuple that stays -/
theorem Stp.tupF (w : WOk F O H) (h : H p = none) : Stp F O H (upd F p (.tup vs)) O (upd H p (.tup vs)) := (Stp.alloc w h (show szOk (.tup vs) from trivial)).freeze h
end

/-! ### readings as the thing itself -/
@[irreducible] def wE (X : Cx) (e : Expr) : TE := fun σ H Q => ∀ (pins : List (Addr × Obj)) (s : Shared), Inv X pins σ H s → wpAny (model X.prog X.w) X.A (eval e X.env) (EP X pins σ Q) X.xe s
@[irreducible] def wT (X : Cx) (e : Expr) : TT := fun σ H Q => ∀ (pins : List (Addr × Obj)) (s : Shared), Inv X pins σ H s → wpAny (model X.prog X.w) X.A (isTrue e X.env (eval e X.env)) (TP X pins σ Q) X.xe s
@[irreducible] def wW (X : Cx) (e : Expr) : TT := fun σ H Q => ∀ (whole : Sem Value) (pins : List (Addr × Obj)) (s : Shared), Inv X pins σ H s → wpAny (model X.prog X.w) X.A (isTrue e X.env whole) (TP X pins σ Q) X.xe s
@[irreducible] def wA (X : Cx) (es : List Expr) : TA := fun σ H Q => ∀ (pos : Pos) (pins : List (Addr × Obj)) (s : Shared), Inv X pins σ H s → wpAny (model X.prog X.w) X.A (spliced (backTo pos (starEach es X.env))) (AP X pins σ Q) X.xe s
@[irreducible] def wSs (X : Cx) (st : List Stmt) : TS := fun D σ H => ∀ (pins : List (Addr × Obj)) (s : Shared), Inv X pins σ H s → wpAny (model X.prog X.w) X.A (execs st X.env) (SP X pins D) X.xe s
@[irreducible] def wS (X : Cx) (st : Stmt) : TS := fun D σ H => ∀ (pins : List (Addr × Obj)) (s : Shared), Inv X pins σ H s → wpAny (model X.prog X.w) X.A (exec st X.env) (SP X pins D) X.xe s
@[irreducible] def wG (X : Cx) (tg : Expr) : TG := fun v σ H Q => ∀ (pins : List (Addr × Obj)) (s : Shared) (u : Value), Inv X pins σ H s → RelV v u → wpAny (model X.prog X.w) X.A (assign tg X.env u) (fun _ s' => ∃ σ' H', Inv X pins σ' H' s' ∧ Q σ' H') X.xe s
@[irreducible] def wI (X : Cx) (tg iter : Expr) : TI := fun σ H Rr => ∀ (pins : List (Addr × Obj)) (s : Shared), Inv X pins σ H s →
  wpAny (model X.prog X.w) X.A (eval iter X.env) (fun v s1 => wpAny (model X.prog X.w) X.A (pyIter v) (PIE X pins σ tg Rr) X.xe s1) X.xe s
@[irreducible] def wO (X : Cx) (e : Option Expr) : TO := fun σ H Q => ∀ (pins : List (Addr × Obj)) (s : Shared), Inv X pins σ H s →
  wpAny (model X.prog X.w) X.A (evalPart e X.env) (fun u s' => ∃ o H', Inv X pins σ H' s' ∧ IsPart u o ∧ Q o H') X.xe s
section
variable {X : Cx} {e : Expr} {es : List Expr} {σ : L2.St} {H : Hp}
theorem pe_w : PE X e (wE X e) := ⟨fun pins s _ _ _ I h => by unfold wE at h; exact h pins s I⟩
theorem pt_w : PT X e (wT X e) := ⟨fun pins s _ _ _ I h => by unfold wT at h; exact h pins s I⟩
theorem pw_w : PW X e (wW X e) := ⟨fun wh pins s _ _ _ I h => by unfold wW at h; exact h wh pins s I⟩
theorem pa_w : PA X es (wA X es) := ⟨fun pos pins s _ _ _ I h => by unfold wA at h; exact h pos pins s I⟩
theorem pss_w {st : List Stmt} : PSs X st (wSs X st) := ⟨fun pins s _ _ _ I h => by unfold wSs at h; exact h pins s I⟩
theorem ps_w {st : Stmt} : PS X st (wS X st) := ⟨fun pins s _ _ _ I h => by unfold wS at h; exact h pins s I⟩
theorem pg_w {tg : Expr} : PG X tg (wG X tg) := ⟨fun pins s _ _ _ u _ I r h => by unfold wG at h; exact h pins s u I r⟩
theorem pi_w {tg iter : Expr} : PI X tg iter (wI X tg iter) := ⟨fun pins s _ _ _ I h => by unfold wI at h; exact h pins s I⟩
theorem po_w {e : Option Expr} : PO X e (wO X e) := ⟨fun pins s _ _ _ I h => by unfold wO at h; exact h pins s I⟩
theorem wE_of {t : TE} {Q : VK} (h : PE X e t) (q : t σ H Q) : wE X e σ H Q := by unfold wE; exact fun pins s I => h.run pins s σ H Q I q
theorem wT_of {t : TT} {Q : Bool → Hp → Prop} (h : PT X e t) (q : t σ H Q) : wT X e σ H Q := by unfold wT; exact fun pins s I => h.run pins s σ H Q I q
theorem wW_of {t : TT} {Q : Bool → Hp → Prop} (h : PW X e t) (q : t σ H Q) : wW X e σ H Q := by unfold wW; exact fun wh pins s I => h.run wh pins s σ H Q I q
theorem wA_of {t : TA} {Q : List V → Hp → Prop} (h : PA X es t) (q : t σ H Q) : wA X es σ H Q := by unfold wA; exact fun pos pins s I => h.run pos pins s σ H Q I q
theorem wSs_of {st : List Stmt} {t : TS} {D : Ends} (h : PSs X st t) (q : t D σ H) : wSs X st D σ H := by unfold wSs; exact fun pins s I => h.run pins s σ H D I q
theorem wG_of {tg : Expr} {t : TG} {v : V} {Q : L2.St → Hp → Prop} (h : PG X tg t) (q : t v σ H Q) : wG X tg v σ H Q := by unfold wG; exact fun pins s u I r => h.run pins s σ H v u Q I r q
theorem wI_of {tg iter : Expr} {t : TI} {Q : It → Hp → Prop} (h : PI X tg iter t) (q : t σ H Q) : wI X tg iter σ H Q := by unfold wI; exact fun pins s I => h.run pins s σ H Q I q
theorem wO_of {e : Option Expr} {t : TO} {Q : Option Int → Hp → Prop} (h : PO X e t) (q : t σ H Q) : wO X e σ H Q := by unfold wO; exact fun pins s I => h.run pins s σ H Q I q
end

/-! ### the judgements -/
def ZE (X : Cx) (e : Expr) (σ : L2.St) (F : Hp) (O : Own) (d : PyData) (O' : Own) : Prop :=
  ∀ F1 H, Gr F F1 → WOk F1 O H → ∀ Q : VK, (∀ v F2 H2, Stp F1 O H F2 O' H2 → R X.K F2 v d → Q v H2) → wE X e σ H Q
/-- .. a new list, mine -/
def ZN (X : Cx) (e : Expr) (σ : L2.St) (F : Hp) (O : Own) (ds : List PyData) (O' : Own) : Prop :=
  ∀ F1 H, Gr F F1 → WOk F1 O H → ∀ Q : VK, (∀ p vs F2 H2, H p = none → Stp F1 O H F2 ((p, .lst vs) :: O') H2 → RA X.K F2 vs ds → Q (.ref p) H2) → wE X e σ H Q
def ZT (X : Cx) (e : Expr) (σ : L2.St) (F : Hp) (O : Own) (b : Bool) (O' : Own) : Prop :=
  ∀ F1 H, Gr F F1 → WOk F1 O H → ∀ Q : Bool → Hp → Prop, (∀ F2 H2, Stp F1 O H F2 O' H2 → Q b H2) → wT X e σ H Q
def ZW (X : Cx) (e : Expr) (σ : L2.St) (F : Hp) (O : Own) (b : Bool) (O' : Own) : Prop :=
  ∀ F1 H, Gr F F1 → WOk F1 O H → ∀ Q : Bool → Hp → Prop, (∀ F2 H2, Stp F1 O H F2 O' H2 → Q b H2) → wW X e σ H Q
def ZA (X : Cx) (es : List Expr) (σ : L2.St) (F : Hp) (O : Own) (ds : List PyData) (O' : Own) : Prop :=
  ∀ F1 H, Gr F F1 → WOk F1 O H → ∀ Q : List V → Hp → Prop, (∀ vs F2 H2, Stp F1 O H F2 O' H2 → RA X.K F2 vs ds → Q vs H2) → wA X es σ H Q
def ZO (X : Cx) (e : Option Expr) (σ : L2.St) (F : Hp) (O : Own) (o : Option Int) (O' : Own) : Prop :=
  ∀ F1 H, Gr F F1 → WOk F1 O H → ∀ Q : Option Int → Hp → Prop, (∀ F2 H2, Stp F1 O H F2 O' H2 → Q o H2) → wO X e σ H Q
def ZS (X : Cx) (st : List Stmt) (σ : L2.St) (H : Hp) (D : Ends) : Prop := wSs X st D σ H

section
variable {X : Cx} {e a b c : Expr} {es : List Expr} {σ : L2.St} {F H : Hp} {O O1 O2 O3 : Own} {d da db : PyData} {ds : List PyData} {pos : Pos} {i j : Int} {k : Bool}
theorem ZE.at_ (h : ZE X e σ F O d O1) {F1 : Hp} (g : Gr F F1) : ZE X e σ F1 O d O1 := fun F2 H g2 => h F2 H (g.trans g2)
theorem ZN.ze (h : ZN X e σ F O ds O1) : ZE X e σ F O (.list ds) O1 := fun F1 H g w Q q => h F1 H g w Q fun p vs F2 H2 hp st r =>
  q _ _ _ (st.freeze hp) ((r.mono (Gr.upd (st.ok.own (p, .lst vs) List.mem_cons_self).2)).lst upd_same)
theorem ze_eq {d' : PyData} (h : ZE X e σ F O d O1) (e' : d = d') : ZE X e σ F O d' O1 := e' ▸ h
theorem zt_eq {k' : Bool} (h : ZT X e σ F O k O1) (e' : k = k') : ZT X e σ F O k' O1 := e' ▸ h

/-! ### names and constants -/
theorem ze_var (n : Nat) {x : Str} {v : V} (hσ : σ[n]? = some (some v)) (hr : R X.K F v d) (hN : X.N[n]? = some x := by rfl) (hv : Vis X.env.scope x := by first | exact Or.inl rfl | exact Or.inr (Or.inl rfl) | exact Or.inr (Or.inr rfl)) (hd : (x == ("__debug__" : Str)) = false := by decide)
    (hcd : (x == ("__classdict__" : Str)) = false := by decide) : ZE X (.Name x pos) σ F O d O := fun F1 H g w Q q =>
  wE_of (pe_var hN hv hd hcd) ⟨v, hσ, q _ _ _ (Stp.refl w) (hr.mono g)⟩
theorem ze_int {n : Int} {kk} : ZE X (.Constant (.int n) kk pos) σ F O (.int n) O := fun F1 H g w Q q => wE_of pe_int (q _ _ _ (Stp.refl w) (.int n))
theorem ze_str {n : Str} {kk} : ZE X (.Constant (.str n) kk pos) σ F O (.str n) O := fun F1 H g w Q q => wE_of pe_str (q _ _ _ (Stp.refl w) (.str n))
theorem ze_bl {n : Bool} {kk} : ZE X (.Constant (.bool n) kk pos) σ F O (.bool n) O := fun F1 H g w Q q => wE_of pe_bl (q _ _ _ (Stp.refl w) (.bl n))
theorem ze_non {kk} : ZE X (.Constant .none kk pos) σ F O .none O := fun F1 H g w Q q => wE_of pe_non (q _ _ _ (Stp.refl w) .non)
/-- a constant of the module -/
theorem ze_glob {x : Str} {v : V} {u : Value} (hm : X.mg x = some u) (r : RelV v u) (hr : R X.K F v d) (hg : Gl X x := by rfl) (hd : (x == ("__debug__" : Str)) = false := by decide) : ZE X (.Name x pos) σ F O d O := fun F1 H g w Q q =>
  wE_of (pe_glob hg hm r hd) (q _ _ _ (Stp.refl w) (hr.mono g))

/-! ### operators -/
theorem ze_op {op : Operator} {r : R2} (ho : OpR X (binaryOp op) r) (ha : ZE X a σ F O da O1) (hb : ZE X b σ F O1 db O2)
    (hr : ∀ F2 H2 x y, Gr F F2 → WOk F2 O2 H2 → R X.K F2 x da → R X.K F2 y db → ∀ Q : VK, (∀ v F3 H3, Stp F2 O2 H2 F3 O3 H3 → R X.K F3 v d → Q v H3) → r x y H2 Q) : ZE X (.BinOp a op b pos) σ F O d O3 := fun F1 H g w Q q =>
  wE_of (pe_op ho pe_w pe_w) (ha F1 H g w _ fun x F2 H2 s1 r1 => hb F2 H2 (g.trans s1.gr) s1.ok _ fun y F3 H3 s2 r2 =>
    hr F3 H3 x y (g.trans (s1.gr.trans s2.gr)) s2.ok (r1.mono s2.gr) r2 Q fun v F4 H4 s3 r3 => q _ _ _ (s1.trans (s2.trans s3)) r3)
theorem zn_op {op : Operator} {r : R2} (ho : OpR X (binaryOp op) r) (ha : ZE X a σ F O da O1) (hb : ZE X b σ F O1 db O2)
    (hr : ∀ F2 H2 x y, Gr F F2 → WOk F2 O2 H2 → R X.K F2 x da → R X.K F2 y db → ∀ Q : VK, (∀ p vs F3 H3, H2 p = none → Stp F2 O2 H2 F3 ((p, .lst vs) :: O3) H3 → RA X.K F3 vs ds → Q (.ref p) H3) → r x y H2 Q) : ZN X (.BinOp a op b pos) σ F O ds O3 := fun F1 H g w Q q =>
  wE_of (pe_op ho pe_w pe_w) (ha F1 H g w _ fun x F2 H2 s1 r1 => hb F2 H2 (g.trans s1.gr) s1.ok _ fun y F3 H3 s2 r2 =>
    hr F3 H3 x y (g.trans (s1.gr.trans s2.gr)) s2.ok (r1.mono s2.gr) r2 Q fun p vs F4 H4 hp s3 r3 => q p vs _ _ (by
      cases z : H p with
      | none => rfl
      | some u => exact absurd hp ((s1.trans s2).dom p (by rw [z]; simp))) (s1.trans (s2.trans s3)) r3)
theorem ze_opI {op : Operator} {g : Int → Int → Int} (ho : OpR X (binaryOp op) (rI0 fun i j => .int (g i j))) (ha : ZE X a σ F O (.int i) O1) (hb : ZE X b σ F O1 (.int j) O2) : ZE X (.BinOp a op b pos) σ F O (.int (g i j)) O2 :=
  ze_op ho ha hb fun F2 H2 x y _ w r1 r2 Q q => ⟨i, j, r1.int_inv, r2.int_inv, q _ _ _ (Stp.refl w) (.int _)⟩
theorem ze_opC {op : Operator} {C : Int → Int → Prop} {g : Int → Int → Int} (ho : OpR X (binaryOp op) (rI C fun i j => .int (g i j))) (hC : C i j) (ha : ZE X a σ F O (.int i) O1) (hb : ZE X b σ F O1 (.int j) O2) : ZE X (.BinOp a op b pos) σ F O (.int (g i j)) O2 :=
  ze_op ho ha hb fun F2 H2 x y _ w r1 r2 Q q => ⟨i, j, r1.int_inv, r2.int_inv, hC, q _ _ _ (Stp.refl w) (.int _)⟩
theorem ze_add (ha : ZE X a σ F O (.int i) O1) (hb : ZE X b σ F O1 (.int j) O2) : ZE X (.BinOp a .Add b pos) σ F O (.int (i + j)) O2 := ze_opI op_add ha hb
theorem ze_sub (ha : ZE X a σ F O (.int i) O1) (hb : ZE X b σ F O1 (.int j) O2) : ZE X (.BinOp a .Sub b pos) σ F O (.int (i - j)) O2 := ze_opI op_sub ha hb
theorem ze_mul (ha : ZE X a σ F O (.int i) O1) (hb : ZE X b σ F O1 (.int j) O2) (h : CMul i j) : ZE X (.BinOp a .Mult b pos) σ F O (.int (i * j)) O2 := ze_opC op_mul h ha hb
theorem ze_mod (ha : ZE X a σ F O (.int i) O1) (hb : ZE X b σ F O1 (.int j) O2) (h : 0 < j) : ZE X (.BinOp a .Mod b pos) σ F O (.int (i % j)) O2 := ze_opC op_mod h ha hb
theorem ze_fdiv (ha : ZE X a σ F O (.int i) O1) (hb : ZE X b σ F O1 (.int j) O2) (h : CDiv i j) : ZE X (.BinOp a .FloorDiv b pos) σ F O (.int (i / j)) O2 := ze_opC op_fdiv h ha hb
theorem ze_pow (ha : ZE X a σ F O (.int i) O1) (hb : ZE X b σ F O1 (.int j) O2) (h : CPow i j) : ZE X (.BinOp a .Pow b pos) σ F O (.int (i ^ j.toNat)) O2 := ze_opC op_pow h ha hb
theorem ze_neg (ha : ZE X a σ F O (.int i) O1) : ZE X (.UnaryOp .USub a pos) σ F O (.int (-i)) O1 := fun F1 H g w Q q =>
  wE_of (pe_un un_neg pe_w) (ha F1 H g w _ fun x F2 H2 s1 r1 => ⟨i, r1.int_inv, q _ _ _ s1 (.int _)⟩)
theorem ze_addS {x y : Str} (ha : ZE X a σ F O (.str x) O1) (hb : ZE X b σ F O1 (.str y) O2) (h : x.length + y.length ≤ sizeLine) : ZE X (.BinOp a .Add b pos) σ F O (.str (x ++ y)) O2 :=
  ze_op op_add_str ha hb fun F2 H2 _ _ _ w r1 r2 Q q => ⟨x, y, r1.str_inv, r2.str_inv, h, q _ _ _ (Stp.refl w) (.str _)⟩
/-- xs + ys -/
theorem zn_cat {es : List PyData} (ha : ZE X a σ F O (.list ds) O1) (hb : ZE X b σ F O1 (.list es) O2) (h : ds.length + es.length ≤ sizeLine) : ZN X (.BinOp a .Add b pos) σ F O (ds ++ es) O2 :=
  zn_op op_cat ha hb fun F2 H2 x y _ w r1 r2 Q q => by
    obtain ⟨l, xs, rfl, e1, a1⟩ := r1.lst_inv
    obtain ⟨m, ys, rfl, e2, a2⟩ := r2.lst_inv
    have hz : xs.length + ys.length ≤ sizeLine := by rw [a1.len, a2.len]; exact h
    exact ⟨l, m, xs, ys, rfl, rfl, w.sub _ _ e1, w.sub _ _ e2, hz, fun p hp => q p _ _ _ hp (Stp.alloc w hp (by show (xs ++ ys).length ≤ _; rw [List.length_append]; exact hz)) (a1.app a2)⟩
theorem zn_rep (ha : ZE X a σ F O (.list ds) O1) (hb : ZE X b σ F O1 (.int i) O2) (h0 : 0 ≤ i) (h1 : i < 2 ^ 62) (h : ds.length * i.toNat ≤ sizeLine) : ZN X (.BinOp a .Mult b pos) σ F O (List.replicate i.toNat ds).flatten O2 :=
  zn_op op_rep ha hb fun F2 H2 x y _ w r1 r2 Q q => by
    obtain ⟨l, xs, rfl, e1, a1⟩ := r1.lst_inv
    have hz : xs.length * i.toNat ≤ sizeLine := by rw [a1.len]; exact h
    refine ⟨l, i, xs, rfl, r2.int_inv, w.sub _ _ e1, by omega, by omega, hz, fun p hp => q p _ _ _ hp (Stp.alloc w hp ?_) ?_⟩
    · show (List.replicate i.toNat xs).flatten.length ≤ _
      rw [List.length_flatten, List.map_replicate, List.sum_replicate_nat, Nat.mul_comm]; exact hz
    · generalize i.toNat = n
      induction n with
      | zero => exact .nil
      | succ n ih => rw [List.replicate_succ, List.replicate_succ, List.flatten_cons, List.flatten_cons]; exact a1.app ih
theorem ze_catT {es : List PyData} (ha : ZE X a σ F O (.tuple ds) O1) (hb : ZE X b σ F O1 (.tuple es) O2) (hne : ds ≠ []) (h : ds.length + es.length ≤ sizeLine) : ZE X (.BinOp a .Add b pos) σ F O (.tuple (ds ++ es)) O2 :=
  ze_op op_catT ha hb fun F2 H2 x y _ w r1 r2 Q q => by
    obtain ⟨l, xs, rfl, e0, a1⟩ := r1.tupH_inv
    have e1 : SqT X.K _ l xs := .inl (.inl e0)
    obtain ⟨m, ys, rfl, e2, a2⟩ := r2.tup_inv
    refine ⟨l, m, xs, ys, rfl, rfl, w.sub.sqT e1, w.sub.sqT e2, ?_, by rw [a1.len, a2.len]; exact h, fun hy => ?_, fun _ p hp => ?_⟩
    · intro z; subst z
      exact hne (List.length_eq_zero_iff.mp a1.len.symm)
    · subst hy
      have hes : es = [] := List.length_eq_zero_iff.mp a2.len.symm
      rw [hes, List.append_nil] at q
      exact q _ _ _ (Stp.refl w) (a1.tup e0)
    · exact q _ _ _ (Stp.tupF w hp) (((a1.app a2).mono (Stp.tupF w hp).gr).tup upd_same)

/-! ### comparisons -/
theorem ze_cmp {op : CmpOp} {r : R2} (ho : OpR X (compareOp op) r) (ha : ZE X a σ F O da O1) (hb : ZE X b σ F O1 db O2) (hm : behindInMarks op b = false)
    (hr : ∀ F2 H2 x y, Gr F F2 → WOk F2 O2 H2 → R X.K F2 x da → R X.K F2 y db → ∀ Q : VK, Q (.bl k) H2 → r x y H2 Q) : ZE X (.Compare a [op] [b] pos) σ F O (.bool k) O2 := fun F1 H g w Q q =>
  wE_of (pe_cmpR ho pe_w pe_w hm) (ha F1 H g w _ fun x F2 H2 s1 r1 => hb F2 H2 (g.trans s1.gr) s1.ok _ fun y F3 H3 s2 r2 =>
    hr F3 H3 x y (g.trans (s1.gr.trans s2.gr)) s2.ok (r1.mono s2.gr) r2 Q (q _ _ _ (s1.trans s2) (.bl k)))
theorem zt_cmp {op : CmpOp} {r : R2} (ho : OpR X (compareOp op) r) (ha : ZE X a σ F O da O1) (hb : ZE X b σ F O1 db O2) (hm : behindInMarks op b = false)
    (hr : ∀ F2 H2 x y, Gr F F2 → WOk F2 O2 H2 → R X.K F2 x da → R X.K F2 y db → ∀ Q : VK, Q (.bl k) H2 → r x y H2 Q) : ZT X (.Compare a [op] [b] pos) σ F O k O2 := fun F1 H g w Q q =>
  wT_of (pt_cmpR ho pe_w pe_w hm) (ha F1 H g w _ fun x F2 H2 s1 r1 => hb F2 H2 (g.trans s1.gr) s1.ok _ fun y F3 H3 s2 r2 =>
    hr F3 H3 x y (g.trans (s1.gr.trans s2.gr)) s2.ok (r1.mono s2.gr) r2 _ ⟨k, rfl, q _ _ (s1.trans s2)⟩)
/-- the facts of a comparison, for both uses -/
structure CmpR (X : Cx) (op : CmpOp) (F : Hp) (O : Own) (da db : PyData) (k : Bool) : Prop where
  r : ∃ r : R2, OpR X (compareOp op) r ∧ ∀ F2 H2 x y, Gr F F2 → WOk F2 O H2 → R X.K F2 x da → R X.K F2 y db → ∀ Q : VK, Q (.bl k) H2 → r x y H2 Q
theorem ze_cm {op : CmpOp} (h : CmpR X op F O2 da db k) (ha : ZE X a σ F O da O1) (hb : ZE X b σ F O1 db O2) (hm : behindInMarks op b = false := by first | exact nomark _ | rfl) : ZE X (.Compare a [op] [b] pos) σ F O (.bool k) O2 :=
  let ⟨_, ho, hr⟩ := h.r; ze_cmp ho ha hb hm hr
theorem zt_cm {op : CmpOp} (h : CmpR X op F O2 da db k) (ha : ZE X a σ F O da O1) (hb : ZE X b σ F O1 db O2) (hm : behindInMarks op b = false := by first | exact nomark _ | rfl) : ZT X (.Compare a [op] [b] pos) σ F O k O2 :=
  let ⟨_, ho, hr⟩ := h.r; zt_cmp ho ha hb hm hr
theorem cm_lt : CmpR X .Lt F O (.int i) (.int j) (decide (i < j)) := ⟨_, op_lt, fun _ _ _ _ _ _ r1 r2 _ q => ⟨i, j, r1.int_inv, r2.int_inv, q⟩⟩
theorem cm_le : CmpR X .LtE F O (.int i) (.int j) (decide (i ≤ j)) := ⟨_, op_le, fun _ _ _ _ _ _ r1 r2 _ q => ⟨i, j, r1.int_inv, r2.int_inv, q⟩⟩
theorem cm_gt : CmpR X .Gt F O (.int i) (.int j) (decide (j < i)) := ⟨_, op_gt, fun _ _ _ _ _ _ r1 r2 _ q => ⟨i, j, r1.int_inv, r2.int_inv, q⟩⟩
theorem cm_ge : CmpR X .GtE F O (.int i) (.int j) (decide (j ≤ i)) := ⟨_, op_ge, fun _ _ _ _ _ _ r1 r2 _ q => ⟨i, j, r1.int_inv, r2.int_inv, q⟩⟩
theorem cm_eqI : CmpR X .Eq F O (.int i) (.int j) (decide (i = j)) := ⟨_, op_eq, fun _ _ _ _ _ _ r1 r2 _ q => by
  rw [r1.int_inv, r2.int_inv]
  exact ⟨rfl, by rw [dec_int, Bool.beq_eq_decide_eq]; exact q⟩⟩
theorem cm_neI : CmpR X .NotEq F O (.int i) (.int j) (!decide (i = j)) := ⟨_, op_ne, fun _ _ _ _ _ _ r1 r2 _ q => by
  rw [r1.int_inv, r2.int_inv]
  exact ⟨rfl, by rw [dec_int, Bool.beq_eq_decide_eq]; exact q⟩⟩
theorem cm_eqS {x y : Str} : CmpR X .Eq F O (.str x) (.str y) (decide (x = y)) := ⟨_, op_eq, fun _ _ _ _ _ _ r1 r2 _ q => by
  rw [r1.str_inv, r2.str_inv]
  exact ⟨rfl, by
    have e : decide (V.str x = V.str y) = decide (x = y) := by simp
    rw [e]; exact q⟩⟩
theorem cm_neS {x y : Str} : CmpR X .NotEq F O (.str x) (.str y) (!decide (x = y)) := ⟨_, op_ne, fun _ _ _ _ _ _ r1 r2 _ q => by
  rw [r1.str_inv, r2.str_inv]
  exact ⟨rfl, by
    have e : decide (V.str x = V.str y) = decide (x = y) := by simp
    rw [e]; exact q⟩⟩
theorem cm_eqB {x y : Bool} : CmpR X .Eq F O (.bool x) (.bool y) (decide (x = y)) := ⟨_, op_eq, fun _ _ _ _ _ _ r1 r2 _ q => by
  rw [r1.bl_inv, r2.bl_inv]
  exact ⟨rfl, by
    have e : decide (V.bl x = V.bl y) = decide (x = y) := by simp
    rw [e]; exact q⟩⟩
theorem cm_neB {x y : Bool} : CmpR X .NotEq F O (.bool x) (.bool y) (!decide (x = y)) := ⟨_, op_ne, fun _ _ _ _ _ _ r1 r2 _ q => by
  rw [r1.bl_inv, r2.bl_inv]
  exact ⟨rfl, by
    have e : decide (V.bl x = V.bl y) = decide (x = y) := by simp
    rw [e]; exact q⟩⟩
def isNon : PyData → Bool
  | .none => true
  | _ => false
theorem R.isNon {K : PySem.W.Frag} {v : V} (h : R K F v d) : decide (v = .non) = isNon d := by
  cases h <;> rfl
theorem cm_is : CmpR X .Is F O d .none (isNon d) := ⟨_, op_isN, fun _ _ _ _ _ _ r1 r2 _ q => ⟨r2.non_inv, by rw [r1.isNon]; exact q⟩⟩
theorem cm_isnot : CmpR X .IsNot F O d .none (!isNon d) := ⟨_, op_notN, fun _ _ _ _ _ _ r1 r2 _ q => ⟨r2.non_inv, by rw [r1.isNon]; exact q⟩⟩
/-- == of data of any depth -/
theorem cm_eqD (hu : X.A.units + 64 < cLine) (h1 : SeqAt.shaped da = true) (h2 : SeqAt.shaped db = true) (n1 : noD da = true) (n2 : noD db = true) : CmpR X .Eq F O da db (PyData.eqv da db) := ⟨_, op_eqD hu, fun _ _ _ _ _ w r1 r2 _ q => ⟨da, db, r1.dp w.sub n1, r2.dp w.sub n2, h1, h2, q⟩⟩
theorem cm_neD (hu : X.A.units + 64 < cLine) (h1 : SeqAt.shaped da = true) (h2 : SeqAt.shaped db = true) (n1 : noD da = true) (n2 : noD db = true) : CmpR X .NotEq F O da db (!PyData.eqv da db) := ⟨_, op_neD hu, fun _ _ _ _ _ w r1 r2 _ q => ⟨da, db, r1.dp w.sub n1, r2.dp w.sub n2, h1, h2, q⟩⟩
end
end Z

end
section
namespace Z
open PySem PySem.Spec PyProof.Rows L2
section
variable {X : Cx} {e a b c : Expr} {es : List Expr} {σ : L2.St} {F H : Hp} {O O1 O2 O3 : Own} {d da db : PyData} {ds : List PyData} {pos : Pos} {i j : Int} {k k1 k2 : Bool}

/-! ### subscripts -/
theorem atI_ra {K : PySem.W.Frag} {F : Hp} {vs : List V} (h : RA K F vs ds) (e : atI ds i = some d) : ∃ v, atI vs i = some v ∧ R K F v d := by
  unfold atI at e ⊢
  rw [h.len]
  cases q : ixN ds.length i with
  | none => rw [q] at e; cases e
  | some n =>
    rw [q] at e
    obtain ⟨v, hv, r⟩ := h.get (show ds[n]? = some d from e)
    exact ⟨v, hv, r⟩
theorem ze_ixT (ha : ZE X a σ F O (.tuple ds) O1) (hb : ZE X b σ F O1 (.int i) O2) (h : atI ds i = some d) (hs : PlainIx b := by exact fun _ _ => rfl) : ZE X (.Subscript a b pos) σ F O d O2 := fun F1 H g w Q q =>
  wE_of (pe_ix ix_tup pe_w pe_w hs) (ha F1 H g w _ fun x F2 H2 s1 r1 => hb F2 H2 (g.trans s1.gr) s1.ok _ fun y F3 H3 s2 r2 => by
    obtain ⟨l, xs, rfl, e1, a1⟩ := (r1.mono s2.gr).tup_inv
    obtain ⟨v, hv, rv⟩ := atI_ra a1 h
    exact ⟨l, xs, i, v, rfl, r2.int_inv, s2.ok.sub.sqT e1, hv, q _ _ _ (s1.trans s2) rv⟩)
theorem ze_ixL (ha : ZE X a σ F O (.list ds) O1) (hb : ZE X b σ F O1 (.int i) O2) (h : atI ds i = some d) (hs : PlainIx b := by exact fun _ _ => rfl) : ZE X (.Subscript a b pos) σ F O d O2 := fun F1 H g w Q q =>
  wE_of (pe_ix ix_list pe_w pe_w hs) (ha F1 H g w _ fun x F2 H2 s1 r1 => hb F2 H2 (g.trans s1.gr) s1.ok _ fun y F3 H3 s2 r2 => by
    obtain ⟨l, xs, rfl, e1, a1⟩ := (r1.mono s2.gr).lst_inv
    obtain ⟨v, hv, rv⟩ := atI_ra a1 h
    exact ⟨l, xs, i, v, rfl, r2.int_inv, .inl (.inl (s2.ok.sub _ _ e1)), hv, q _ _ _ (s1.trans s2) rv⟩)
theorem ze_ixS {x : Str} {n : Nat} (ha : ZE X a σ F O (.str x) O1) (hb : ZE X b σ F O1 (.int i) O2) (hz : x.length ≤ sizeLine) (h : atI x.cps.toList i = some n) (hs : PlainIx b := by exact fun _ _ => rfl) : ZE X (.Subscript a b pos) σ F O (.str ⟨#[n]⟩) O2 := fun F1 H g w Q q =>
  wE_of (pe_ix ix_str pe_w pe_w hs) (ha F1 H g w _ fun x' F2 H2 s1 r1 => hb F2 H2 (g.trans s1.gr) s1.ok _ fun y F3 H3 s2 r2 =>
    ⟨x, i, n, r1.str_inv, r2.int_inv, hz, h, q _ _ _ (s1.trans s2) (.str _)⟩)
/-- an item of a list that is mine, at slot n -/
theorem ze_ixO (n m : Nat) {x : Str} {px : Pos} {p : Addr} {vs : List V} (hσ : σ[n]? = some (some (.ref p))) (hb : ZE X b σ F O (.int i) O1) (hO : O1[m]? = some (p, .lst vs)) (hr : RA X.K F vs ds) (h : atI ds i = some d)
    (hN : X.N[n]? = some x := by rfl) (hv : Vis X.env.scope x := by first | exact Or.inl rfl | exact Or.inr (Or.inl rfl) | exact Or.inr (Or.inr rfl)) (hs : PlainIx b := by exact fun _ _ => rfl) (hd : (x == ("__debug__" : Str)) = false := by decide)
    (hcd : (x == ("__classdict__" : Str)) = false := by decide) : ZE X (.Subscript (.Name x px) b pos) σ F O d O1 := fun F1 H g w Q q =>
  wE_of (pe_ix ix_list (pe_var hN hv hd hcd) pe_w hs) ⟨_, hσ, hb F1 H g w _ fun y F2 H2 s1 r1 => by
    obtain ⟨v, hv, rv⟩ := atI_ra hr h
    exact ⟨p, vs, i, v, rfl, r1.int_inv, .inl (.inl (s1.ok.at_ hO).1), hv, q _ _ _ s1 (rv.mono (g.trans s1.gr))⟩⟩
def cutD {α : Type} (xs : List α) (lo hi : Option Int) : List α := (xs.drop (HT.sIx xs.length 0 lo)).take (HT.sIx xs.length xs.length hi - HT.sIx xs.length 0 lo)
theorem RA.cut {K : PySem.W.Frag} {F : Hp} {vs : List V} {lo hi : Option Int} (h : RA K F vs ds) : RA K F (cutV vs lo hi) (cutD ds lo hi) := by
  unfold cutV cutD
  rw [h.len]
  exact h.drop.take
theorem zo_none : ZO X none σ F O none O := fun F1 H g w Q q => wO_of po_none (q _ _ (Stp.refl w))
theorem zo_some (h : ZE X e σ F O (.int i) O1) : ZO X (some e) σ F O (some i) O1 := fun F1 H g w Q q => wO_of (po_some pe_w) (h F1 H g w _ fun v F2 H2 s1 r1 => ⟨i, r1.int_inv, q _ _ s1⟩)
variable {lo hi : Option Expr} {p2 : Pos} {l u : Option Int}
theorem zn_sl (ha : ZE X a σ F O (.list ds) O1) (hl : ZO X lo σ F O1 l O2) (hu : ZO X hi σ F O2 u O3) : ZN X (.Subscript a (.Slice lo hi none p2) pos) σ F O (cutD ds l u) O3 := fun F1 H g w Q q =>
  wE_of (pe_slice sl_list pe_w po_w po_w) (ha F1 H g w _ fun x F2 H2 s1 r1 => hl F2 H2 (g.trans s1.gr) s1.ok _ fun F3 H3 s2 => hu F3 H3 (g.trans (s1.gr.trans s2.gr)) s2.ok _ fun F4 H4 s3 => by
    obtain ⟨m, xs, rfl, e1, a1⟩ := (r1.mono (s2.gr.trans s3.gr)).lst_inv
    refine ⟨m, xs, rfl, .inl (.inl (s3.ok.sub _ _ e1)), fun p hp => q p _ _ _ ?_ (s1.trans (s2.trans (s3.trans (Stp.alloc s3.ok hp (Nat.le_trans (cutV_length _ _ _) (s3.ok.sz _ _ e1)))))) a1.cut⟩
    cases z : H p with
    | none => rfl
    | some u => exact absurd hp ((s1.trans (s2.trans s3)).dom p (by rw [z]; simp)))
/-- a slice of a list that is mine -/
theorem zn_slO (n m : Nat) {x : Str} {px : Pos} {p : Addr} {vs : List V} (hσ : σ[n]? = some (some (.ref p))) (hl : ZO X lo σ F O l O2) (hu : ZO X hi σ F O2 u O3) (hO : O3[m]? = some (p, .lst vs)) (hr : RA X.K F vs ds)
    (hN : X.N[n]? = some x := by rfl) (hv : Vis X.env.scope x := by first | exact Or.inl rfl | exact Or.inr (Or.inl rfl) | exact Or.inr (Or.inr rfl)) (hd : (x == ("__debug__" : Str)) = false := by decide)
    (hcd : (x == ("__classdict__" : Str)) = false := by decide) : ZN X (.Subscript (.Name x px) (.Slice lo hi none p2) pos) σ F O (cutD ds l u) O3 := fun F1 H g w Q q =>
  wE_of (pe_slice sl_list (pe_var hN hv hd hcd) po_w po_w) ⟨_, hσ, hl F1 H g w _ fun F3 H3 s2 => hu F3 H3 (g.trans s2.gr) s2.ok _ fun F4 H4 s3 => by
    have e1 := (s3.ok.at_ hO).1
    refine ⟨p, vs, rfl, .inl (.inl e1), fun p' hp => q p' _ _ _ ?_ (s2.trans (s3.trans (Stp.alloc s3.ok hp (Nat.le_trans (cutV_length _ _ _) (s3.ok.szo _ (List.mem_of_getElem? hO) _ rfl))))) (hr.cut.mono (g.trans (s2.gr.trans s3.gr)))⟩
    cases z : H p' with
    | none => rfl
    | some u => exact absurd hp ((s2.trans s3).dom p' (by rw [z]; simp))⟩
theorem ze_slS {x : Str} (ha : ZE X a σ F O (.str x) O1) (hl : ZO X lo σ F O1 l O2) (hu : ZO X hi σ F O2 u O3) (hz : x.length ≤ sizeLine) : ZE X (.Subscript a (.Slice lo hi none p2) pos) σ F O (.str (cutS x l u)) O3 := fun F1 H g w Q q =>
  wE_of (pe_slice sl_str pe_w po_w po_w) (ha F1 H g w _ fun x' F2 H2 s1 r1 => hl F2 H2 (g.trans s1.gr) s1.ok _ fun F3 H3 s2 => hu F3 H3 (g.trans (s1.gr.trans s2.gr)) s2.ok _ fun F4 H4 s3 =>
    ⟨x, r1.str_inv, hz, q _ _ _ (s1.trans (s2.trans s3)) (.str _)⟩)

/-! ### argument lists, displays -/
theorem za_nil : ZA X [] σ F O [] O := fun F1 H g w Q q => wA_of pa_nil (q _ _ _ (Stp.refl w) .nil)
theorem za_cons (h : ZE X e σ F O d O1) (t : ZA X es σ F O1 ds O2) (hs : starEach (e :: es) X.env = (false, eval e X.env) :: starEach es X.env := by exact se_pl rfl) : ZA X (e :: es) σ F O (d :: ds) O2 := fun F1 H g w Q q =>
  wA_of (pa_cons pe_w pa_w hs) (h F1 H g w _ fun v F2 H2 s1 r1 => t F2 H2 (g.trans s1.gr) s1.ok _ fun vs F3 H3 s2 r2 => q _ _ _ (s1.trans s2) (.cons (r1.mono s2.gr) r2))
theorem ze_tup {kk} (h : ZA X es σ F O ds O1) (hz : ds.length ≤ sizeLine := by show _ ≤ (16777216 : Nat); exact Nat.le_of_ble_eq_true rfl) : ZE X (.Tuple es kk pos) σ F O (.tuple ds) O1 := fun F1 H g w Q q =>
  wE_of (pe_tup pa_w) (h F1 H g w _ fun vs F2 H2 s1 r1 => ⟨by rw [r1.len]; exact hz, fun p hp => q _ _ _ (s1.trans (Stp.tupF s1.ok hp)) ((r1.mono (Stp.tupF s1.ok hp).gr).tup upd_same)⟩)
theorem zn_lst (h : ZA X es σ F O ds O1) (hz : ds.length ≤ sizeLine := by show _ ≤ (16777216 : Nat); exact Nat.le_of_ble_eq_true rfl) : ZN X (.List es pos) σ F O ds O1 := fun F1 H g w Q q =>
  wE_of (pe_lst pa_w) (h F1 H g w _ fun vs F2 H2 s1 r1 => ⟨by rw [r1.len]; exact hz, fun p hp => q _ _ _ _ (by
    cases z : H p with
    | none => rfl
    | some u => exact absurd hp (s1.dom p (by rw [z]; simp))) (s1.trans (Stp.alloc s1.ok hp (by show vs.length ≤ _; rw [r1.len]; exact hz))) r1⟩)

/-! ### calls -/
structure Fn (P : Program) (w : World) (K : PySem.W.Frag) (mg : Str → Option Value) (base : Heap) (k : Nat) (x : Str) (ps : List Str) (sp : Sp) : Prop where
  ex : ∃ (f : Addr) (fd : FuncData), FnOk P w K mg base CX0 k f fd ps sp ∧ mg x = some (.ref f) ∧ PySem.W.keepIn K (.ref f) = true ∧ Binds K fd ps []
/-- data in, data out -/
def spD (K : PySem.W.Frag) (A : List PyData → PyData → Prop) : Sp := fun vs H Q _ => ∃ (F : Hp) (ds : List PyData) (r : PyData), WOk F [] H ∧ RA K F vs ds ∧ A ds r ∧ ∀ v F' H', Stp F [] H F' [] H' → R K F' v r → Q v H'
/-- data in, a new list out -/
def spN (K : PySem.W.Frag) (A : List PyData → List PyData → Prop) : Sp := fun vs H Q _ => ∃ (F : Hp) (ds rs : List PyData), WOk F [] H ∧ RA K F vs ds ∧ A ds rs ∧ ∀ p us F' H', H p = none → Stp F [] H F' [(p, .lst us)] H' → RA K F' us rs → Q (.ref p) H'
variable {x : Str} {p : Pos} {ps : List Str} {n : Nat}
theorem ze_callD {A : List PyData → PyData → Prop} (G : Fn X.prog X.w X.K X.mg X.base n x ps (spD X.K A)) (hr : Room n X.A) (ha : ZA X (e :: es) σ F O ds O1) (hA : A ds d) (hg : Gl X x := by rfl) (hdb : (x == ("__debug__" : Str)) = false := by decide)
    (he : starEach (e :: es) X.env = (false, eval e X.env) :: starEach es X.env := by exact se_pl rfl) (hpl : (backTo pos (starEach es X.env)).any (·.1) = false := by exact se_any rfl) : ZE X (.Call (.Name x p) (e :: es) [] pos) σ F O d O1 := fun F1 H g w Q q => by
  obtain ⟨f, fd, G, hm, hk, hb⟩ := G.ex
  refine wE_of (pe_call G hr hg hm hk hb .nil (E := E0) pass0 pa_w hdb he hpl) (ha F1 H g w _ fun vs F2 H2 s1 r1 => ?_)
  rw [List.append_nil]
  exact ⟨F2, ds, d, s1.ok.less, r1, hA, fun v F' H' s2 r2 => q _ _ _ (s1.trans (Stp.more s1.ok s2)) r2⟩
theorem zn_callN {A : List PyData → List PyData → Prop} {rs : List PyData} (G : Fn X.prog X.w X.K X.mg X.base n x ps (spN X.K A)) (hr : Room n X.A) (ha : ZA X (e :: es) σ F O ds O1) (hA : A ds rs) (hg : Gl X x := by rfl) (hdb : (x == ("__debug__" : Str)) = false := by decide)
    (he : starEach (e :: es) X.env = (false, eval e X.env) :: starEach es X.env := by exact se_pl rfl) (hpl : (backTo pos (starEach es X.env)).any (·.1) = false := by exact se_any rfl) : ZN X (.Call (.Name x p) (e :: es) [] pos) σ F O rs O1 := fun F1 H g w Q q => by
  obtain ⟨f, fd, G, hm, hk, hb⟩ := G.ex
  refine wE_of (pe_call G hr hg hm hk hb .nil (E := E0) pass0 pa_w hdb he hpl) (ha F1 H g w _ fun vs F2 H2 s1 r1 => ?_)
  rw [List.append_nil]
  refine ⟨F2, ds, rs, s1.ok.less, r1, hA, fun p us F' H' hp s2 r2 => q p us _ _ ?_ (s1.trans (Stp.more s1.ok s2)) r2⟩
  cases z : H p with
  | none => rfl
  | some u => exact absurd hp (s1.dom p (by rw [z]; simp))
/-- a built-in function -/
theorem ze_callB {id : String} {r : List V → Hp → VK → Prop} (hc : CallR X (.builtin id) r) (hm : X.mg x = none) (hv : bootBuiltins x = some (.builtin id)) (ha : ZA X (e :: es) σ F O ds O1)
    (hr : ∀ F1 H1 vs, Gr F F1 → WOk F1 O1 H1 → RA X.K F1 vs ds → ∀ Q : VK, (∀ v F2 H2, Stp F1 O1 H1 F2 O2 H2 → R X.K F2 v d → Q v H2) → r vs H1 Q) (hg : Gl X x := by rfl) (hn : x ≠ "__name__" := by decide) (hdb : (x == ("__debug__" : Str)) = false := by decide)
    (he : starEach (e :: es) X.env = (false, eval e X.env) :: starEach es X.env := by exact se_pl rfl) (hpl : (backTo pos (starEach es X.env)).any (·.1) = false := by exact se_any rfl) : ZE X (.Call (.Name x p) (e :: es) [] pos) σ F O d O2 := fun F1 H g w Q q =>
  wE_of (pe_callB hc hg hm hv pa_w hn hdb he hpl) (ha F1 H g w _ fun vs F2 H2 s1 r1 => hr F2 H2 vs (g.trans s1.gr) s1.ok r1 Q fun v F3 H3 s2 r2 => q _ _ _ (s1.trans s2) r2)
theorem ze_callTy {T : String} {r : List V → Hp → VK → Prop} (hc : CallR X (.type T) r) (hm : X.mg x = none) (hv : bootBuiltins x = some (.type T)) (ha : ZA X (e :: es) σ F O ds O1)
    (hr : ∀ F1 H1 vs, Gr F F1 → WOk F1 O1 H1 → RA X.K F1 vs ds → ∀ Q : VK, (∀ v F2 H2, Stp F1 O1 H1 F2 O2 H2 → R X.K F2 v d → Q v H2) → r vs H1 Q) (hg : Gl X x := by rfl) (hn : x ≠ "__name__" := by decide) (hdb : (x == ("__debug__" : Str)) = false := by decide)
    (he : starEach (e :: es) X.env = (false, eval e X.env) :: starEach es X.env := by exact se_pl rfl) (hpl : (backTo pos (starEach es X.env)).any (·.1) = false := by exact se_any rfl) : ZE X (.Call (.Name x p) (e :: es) [] pos) σ F O d O2 := fun F1 H g w Q q =>
  wE_of (pe_callTy hc hg hm hv pa_w hn hdb he hpl) (ha F1 H g w _ fun vs F2 H2 s1 r1 => hr F2 H2 vs (g.trans s1.gr) s1.ok r1 Q fun v F3 H3 s2 r2 => q _ _ _ (s1.trans s2) r2)
theorem zn_callB {id : String} {r : List V → Hp → VK → Prop} {rs : List PyData} (hc : CallR X (.builtin id) r) (hm : X.mg x = none) (hv : bootBuiltins x = some (.builtin id)) (ha : ZA X (e :: es) σ F O ds O1)
    (hr : ∀ F1 H1 vs, Gr F F1 → WOk F1 O1 H1 → RA X.K F1 vs ds → ∀ Q : VK, (∀ p us F2 H2, H1 p = none → Stp F1 O1 H1 F2 ((p, .lst us) :: O1) H2 → RA X.K F2 us rs → Q (.ref p) H2) → r vs H1 Q) (hg : Gl X x := by rfl) (hn : x ≠ "__name__" := by decide) (hdb : (x == ("__debug__" : Str)) = false := by decide)
    (he : starEach (e :: es) X.env = (false, eval e X.env) :: starEach es X.env := by exact se_pl rfl) (hpl : (backTo pos (starEach es X.env)).any (·.1) = false := by exact se_any rfl) : ZN X (.Call (.Name x p) (e :: es) [] pos) σ F O rs O1 := fun F1 H g w Q q =>
  wE_of (pe_callB hc hg hm hv pa_w hn hdb he hpl) (ha F1 H g w _ fun vs F2 H2 s1 r1 => hr F2 H2 vs (g.trans s1.gr) s1.ok r1 Q fun p us F3 H3 hp s2 r2 => q p us _ _ (by
    cases z : H p with
    | none => rfl
    | some u => exact absurd hp (s1.dom p (by rw [z]; simp))) (s1.trans s2) r2)
theorem zn_callTy {T : String} {r : List V → Hp → VK → Prop} {rs : List PyData} (hc : CallR X (.type T) r) (hm : X.mg x = none) (hv : bootBuiltins x = some (.type T)) (ha : ZA X (e :: es) σ F O ds O1)
    (hr : ∀ F1 H1 vs, Gr F F1 → WOk F1 O1 H1 → RA X.K F1 vs ds → ∀ Q : VK, (∀ p us F2 H2, H1 p = none → Stp F1 O1 H1 F2 ((p, .lst us) :: O1) H2 → RA X.K F2 us rs → Q (.ref p) H2) → r vs H1 Q) (hg : Gl X x := by rfl) (hn : x ≠ "__name__" := by decide) (hdb : (x == ("__debug__" : Str)) = false := by decide)
    (he : starEach (e :: es) X.env = (false, eval e X.env) :: starEach es X.env := by exact se_pl rfl) (hpl : (backTo pos (starEach es X.env)).any (·.1) = false := by exact se_any rfl) : ZN X (.Call (.Name x p) (e :: es) [] pos) σ F O rs O1 := fun F1 H g w Q q =>
  wE_of (pe_callTy hc hg hm hv pa_w hn hdb he hpl) (ha F1 H g w _ fun vs F2 H2 s1 r1 => hr F2 H2 vs (g.trans s1.gr) s1.ok r1 Q fun p us F3 H3 hp s2 r2 => q p us _ _ (by
    cases z : H p with
    | none => rfl
    | some u => exact absurd hp (s1.dom p (by rw [z]; simp))) (s1.trans s2) r2)
theorem RA.one {K : PySem.W.Frag} {F : Hp} {vs : List V} (h : RA K F vs [d]) : ∃ v, vs = [v] ∧ R K F v d := by
  obtain ⟨v, ws, rfl, r, t⟩ := h.cons_inv
  rw [t.nil_inv]; exact ⟨v, rfl, r⟩
theorem RA.two {K : PySem.W.Frag} {F : Hp} {vs : List V} (h : RA K F vs [da, db]) : ∃ v w, vs = [v, w] ∧ R K F v da ∧ R K F w db := by
  obtain ⟨v, ws, rfl, r, t⟩ := h.cons_inv
  obtain ⟨w, rfl, r'⟩ := t.one
  exact ⟨v, w, rfl, r, r'⟩
theorem ze_lenL (hm : X.mg "len" = none) (ha : ZE X e σ F O (.list ds) O1) (hg : Gl X "len" := by rfl) (he : starEach [e] X.env = (false, eval e X.env) :: starEach [] X.env := by exact se_pl rfl) (hpl : (backTo pos (starEach [] X.env)).any (·.1) = false := by exact se_any rfl) : ZE X (.Call (.Name "len" p) [e] [] pos) σ F O (.int (ds.length : Nat)) O1 :=
  ze_callB call_len_seq hm boot_len (za_cons ha za_nil he) (fun F1 H1 vs _ w r Q q => by
    obtain ⟨v, rfl, r1⟩ := r.one
    obtain ⟨l, xs, rfl, e1, a1⟩ := r1.lst_inv
    exact ⟨l, xs, rfl, .inl (.inl (.inl (w.sub _ _ e1))), q _ _ _ (Stp.refl w) (by rw [a1.len]; exact .int _)⟩) hg (by decide) (by decide) he hpl
theorem ze_lenT (hm : X.mg "len" = none) (ha : ZE X e σ F O (.tuple ds) O1) (hg : Gl X "len" := by rfl) (he : starEach [e] X.env = (false, eval e X.env) :: starEach [] X.env := by exact se_pl rfl) (hpl : (backTo pos (starEach [] X.env)).any (·.1) = false := by exact se_any rfl) : ZE X (.Call (.Name "len" p) [e] [] pos) σ F O (.int (ds.length : Nat)) O1 :=
  ze_callB call_len_seq hm boot_len (za_cons ha za_nil he) (fun F1 H1 vs _ w r Q q => by
    obtain ⟨v, rfl, r1⟩ := r.one
    obtain ⟨l, xs, rfl, e1, a1⟩ := r1.tup_inv
    exact ⟨l, xs, rfl, .inr (w.sub.sqT e1), q _ _ _ (Stp.refl w) (by rw [a1.len]; exact .int _)⟩) hg (by decide) (by decide) he hpl
theorem ze_lenS {s : Str} (hm : X.mg "len" = none) (hz : s.length ≤ sizeLine) (ha : ZE X e σ F O (.str s) O1) (hg : Gl X "len" := by rfl) (he : starEach [e] X.env = (false, eval e X.env) :: starEach [] X.env := by exact se_pl rfl) (hpl : (backTo pos (starEach [] X.env)).any (·.1) = false := by exact se_any rfl) : ZE X (.Call (.Name "len" p) [e] [] pos) σ F O (.int (s.length : Nat)) O1 :=
  ze_callB call_len_str hm boot_len (za_cons ha za_nil he) (fun F1 H1 vs _ w r Q q => by
    obtain ⟨v, rfl, r1⟩ := r.one
    exact ⟨s, by rw [r1.str_inv], hz, q _ _ _ (Stp.refl w) (.int _)⟩) hg (by decide) (by decide) he hpl
theorem ze_lenO (n m : Nat) {x : Str} {px : Pos} {q : Addr} {vs : List V} (hm : X.mg "len" = none) (hσ : σ[n]? = some (some (.ref q))) (hO : O[m]? = some (q, .lst vs)) (hr : RA X.K F vs ds) (hN : X.N[n]? = some x := by rfl)
    (hv : Vis X.env.scope x := by first | exact Or.inl rfl | exact Or.inr (Or.inl rfl) | exact Or.inr (Or.inr rfl)) (hg : Gl X "len" := by rfl) (hd : (x == ("__debug__" : Str)) = false := by decide) (hcd : (x == ("__classdict__" : Str)) = false := by decide)
    (he : starEach [.Name x px] X.env = (false, eval (.Name x px) X.env) :: starEach [] X.env := by exact se_pl rfl) (hpl : (backTo pos (starEach [] X.env)).any (·.1) = false := by exact se_any rfl) : ZE X (.Call (.Name "len" p) [.Name x px] [] pos) σ F O (.int (ds.length : Nat)) O := fun F1 H g w Q qq =>
  wE_of (pe_callB call_len_seq hg hm boot_len (pa_cons (pe_var hN hv hd hcd) pa_nil he) (by decide) (by decide) he hpl) ⟨_, hσ, ⟨q, vs, rfl, .inl (.inl (.inl (w.at_ hO).1)), qq _ _ _ (Stp.refl w) (by rw [hr.len]; exact .int _)⟩⟩
theorem ze_intI (hm : X.mg "int" = none) (ha : ZE X e σ F O (.int i) O1) (hg : Gl X "int" := by rfl) (he : starEach [e] X.env = (false, eval e X.env) :: starEach [] X.env := by exact se_pl rfl) (hpl : (backTo pos (starEach [] X.env)).any (·.1) = false := by exact se_any rfl) : ZE X (.Call (.Name "int" p) [e] [] pos) σ F O (.int i) O1 :=
  ze_callTy call_int1 hm boot_int (za_cons ha za_nil he) (fun F1 H1 vs _ w r Q q => by
    obtain ⟨v, rfl, r1⟩ := r.one
    exact .inl ⟨i, by rw [r1.int_inv], q _ _ _ (Stp.refl w) (.int _)⟩) hg (by decide) (by decide) he hpl
theorem ze_intB (hm : X.mg "int" = none) (ha : ZE X e σ F O (.bool k) O1) (hg : Gl X "int" := by rfl) (he : starEach [e] X.env = (false, eval e X.env) :: starEach [] X.env := by exact se_pl rfl) (hpl : (backTo pos (starEach [] X.env)).any (·.1) = false := by exact se_any rfl) : ZE X (.Call (.Name "int" p) [e] [] pos) σ F O (.int (if k then 1 else 0)) O1 :=
  ze_callTy call_int1 hm boot_int (za_cons ha za_nil he) (fun F1 H1 vs _ w r Q q => by
    obtain ⟨v, rfl, r1⟩ := r.one
    exact .inr ⟨k, by rw [r1.bl_inv], q _ _ _ (Stp.refl w) (.int _)⟩) hg (by decide) (by decide) he hpl
theorem zn_list (hm : X.mg "list" = none) (ha : ZE X e σ F O (.list ds) O1) (hg : Gl X "list" := by rfl) (he : starEach [e] X.env = (false, eval e X.env) :: starEach [] X.env := by exact se_pl rfl) (hpl : (backTo pos (starEach [] X.env)).any (·.1) = false := by exact se_any rfl) : ZN X (.Call (.Name "list" p) [e] [] pos) σ F O ds O1 :=
  zn_callTy call_list_of hm (by decide +kernel) (za_cons ha za_nil he) (fun F1 H1 vs _ w r Q q => by
    obtain ⟨v, rfl, r1⟩ := r.one
    obtain ⟨l, xs, rfl, e1, a1⟩ := r1.lst_inv
    exact ⟨l, xs, rfl, .inl (.inl (.inl (w.sub _ _ e1))), fun p hp => q p _ _ _ hp (Stp.alloc w hp (w.sz _ _ e1)) a1⟩) hg (by decide) (by decide) he hpl
theorem ze_sum {ns : List Int} (hc : X.calm = true) (hm : X.mg "sum" = none) (ha : ZE X e σ F O (.list (ns.map .int)) O1) (hg : Gl X "sum" := by rfl) (he : starEach [e] X.env = (false, eval e X.env) :: starEach [] X.env := by exact se_pl rfl) (hpl : (backTo pos (starEach [] X.env)).any (·.1) = false := by exact se_any rfl) : ZE X (.Call (.Name "sum" p) [e] [] pos) σ F O (.int ns.sum) O1 :=
  ze_callB (cr_sum hc) hm (by decide +kernel) (za_cons ha za_nil he) (fun F1 H1 vs _ w r Q q => by
    obtain ⟨v, rfl, r1⟩ := r.one
    obtain ⟨l, xs, rfl, e1, a1⟩ := r1.lst_inv
    have ex : xs = ns.map V.int := by
      apply List.ext_getElem?
      intro i
      cases z : xs[i]? with
      | none =>
        have := List.getElem?_eq_none_iff.mp z
        rw [List.getElem?_eq_none_iff.mpr (by have := a1.len; simp at this ⊢; omega)]
      | some v =>
        obtain ⟨d, hd, rd⟩ := a1.get' z
        rw [List.getElem?_map] at hd ⊢
        cases y : ns[i]? with
        | none => rw [y] at hd; cases hd
        | some m => rw [y] at hd; cases hd; rw [rd.int_inv]; rfl
    subst ex
    exact ⟨l, ns, rfl, .inl (.inl (w.sub _ _ e1)), q _ _ _ (Stp.refl w) (.int _)⟩) hg (by decide) (by decide) he hpl
end
end Z

end
section
namespace Z
open PySem PySem.Spec PyProof.Rows L2
section
variable {X : Cx} {e a b c : Expr} {es rest' : List Expr} {σ : L2.St} {F H : Hp} {O O1 O2 O3 : Own} {d da db : PyData} {ds : List PyData} {pos : Pos} {i j : Int} {k k1 k2 : Bool}

/-! ### tests -/
theorem zt_val (h : ZE X e σ F O (.bool k) O1) (he : ∀ whole, isTrue e X.env whole = (do let v ← whole; standAt e.pos; holding [v] (truthy v)) := by intro _; rfl) : ZT X e σ F O k O1 := fun F1 H g w Q q =>
  wT_of (pt_val pe_w he) (h F1 H g w _ fun v F2 H2 s1 r1 => ⟨k, r1.bl_inv, q _ _ s1⟩)
theorem zt_not (h : ZT X a σ F O k O1) : ZT X (.UnaryOp .Not a pos) σ F O (!k) O1 := fun F1 H g w Q q => wT_of (pt_not pt_w) (h F1 H g w _ fun F2 H2 s1 => q _ _ s1)
theorem ze_not (h : ZE X a σ F O (.bool k) O1) : ZE X (.UnaryOp .Not a pos) σ F O (.bool (!k)) O1 := fun F1 H g w Q q =>
  wE_of (pe_not pe_w) (h F1 H g w _ fun v F2 H2 s1 r1 => ⟨k, r1.bl_inv, q _ _ _ s1 (.bl _)⟩)
/-- not a, a of any kind whose truth is known: a test -/
theorem zt_truth (h : ZE X e σ F O d O1) (ht : ∀ F2 H2 v, Gr F F2 → WOk F2 O1 H2 → R X.K F2 v d → TruV X.K v H2 k) (he : ∀ whole, isTrue e X.env whole = (do let v ← whole; standAt e.pos; holding [v] (truthy v)) := by intro _; rfl) : ZT X e σ F O k O1 := fun F1 H g w Q q =>
  wT_of (pt_truth pe_w he) (h F1 H g w _ fun v F2 H2 s1 r1 => ⟨k, ht F2 H2 v (g.trans s1.gr) s1.ok r1, q _ _ s1⟩)
theorem ra_empty {K : PySem.W.Frag} {F : Hp} {vs : List V} (h : RA K F vs ds) : vs.isEmpty = ds.isEmpty := by
  have := h.len
  cases vs <;> cases ds <;> first | rfl | (simp at this)
theorem zt_trL (h : ZE X e σ F O (.list ds) O1) (he : ∀ whole, isTrue e X.env whole = (do let v ← whole; standAt e.pos; holding [v] (truthy v)) := by intro _; rfl) : ZT X e σ F O (!ds.isEmpty) O1 := zt_truth h (fun F2 H2 v _ w r => by
  obtain ⟨l, xs, rfl, e1, a1⟩ := r.lst_inv
  exact .inl ⟨xs, .inl (.inl (w.sub _ _ e1)), by rw [ra_empty a1]⟩) he
theorem zt_trT (h : ZE X e σ F O (.tuple ds) O1) (he : ∀ whole, isTrue e X.env whole = (do let v ← whole; standAt e.pos; holding [v] (truthy v)) := by intro _; rfl) : ZT X e σ F O (!ds.isEmpty) O1 := zt_truth h (fun F2 H2 v _ w r => by
  obtain ⟨l, xs, rfl, e1, a1⟩ := r.tup_inv
  exact .inr (.inl ⟨xs, w.sub.sqT e1, by rw [ra_empty a1]⟩)) he
theorem zt_trI (h : ZE X e σ F O (.int i) O1) (he : ∀ whole, isTrue e X.env whole = (do let v ← whole; standAt e.pos; holding [v] (truthy v)) := by intro _; rfl) : ZT X e σ F O (i != 0) O1 := zt_truth h (fun F2 H2 v _ w r => by
  rw [r.int_inv]; exact rfl) he
theorem zt_trS {s : Str} (h : ZE X e σ F O (.str s) O1) (hz : s.length ≤ sizeLine) (he : ∀ whole, isTrue e X.env whole = (do let v ← whole; standAt e.pos; holding [v] (truthy v)) := by intro _; rfl) : ZT X e σ F O ((s.length : Int) != 0) O1 := zt_truth h (fun F2 H2 v _ w r => by
  rw [r.str_inv]; exact ⟨hz, rfl⟩) he
theorem zt_trO (n m : Nat) {x : Str} {p : Addr} {vs : List V} (hσ : σ[n]? = some (some (.ref p))) (hO : O[m]? = some (p, .lst vs)) (hr : RA X.K F vs ds) (hN : X.N[n]? = some x := by rfl)
    (hv : Vis X.env.scope x := by first | exact Or.inl rfl | exact Or.inr (Or.inl rfl) | exact Or.inr (Or.inr rfl)) (hd : (x == ("__debug__" : Str)) = false := by decide) (hcd : (x == ("__classdict__" : Str)) = false := by decide)
    (he : ∀ whole, isTrue (.Name x pos) X.env whole = (do let v ← whole; standAt (Expr.Name x pos).pos; holding [v] (truthy v)) := by intro _; rfl) : ZT X (.Name x pos) σ F O (!ds.isEmpty) O := fun F1 H g w Q q =>
  wT_of (pt_truth (pe_var hN hv hd hcd) he) ⟨_, hσ, _, .inl ⟨vs, .inl (.inl (w.at_ hO).1), by rw [ra_empty hr]⟩, q _ _ (Stp.refl w)⟩
theorem zt_w (h : ZW X e σ F O k O1) : ZT X e σ F O k O1 := fun F1 H g w Q q => wT_of pw_w.pt (h F1 H g w Q q)
theorem zw_and1 (ha : ZT X a σ F O k O1) : ZW X (.BoolOp .And [a] pos) σ F O k O1 := fun F1 H g w Q q => wW_of (pw_and1 pt_w) (ha F1 H g w Q q)
theorem zw_or1 (ha : ZT X a σ F O k O1) : ZW X (.BoolOp .Or [a] pos) σ F O k O1 := fun F1 H g w Q q => wW_of (pw_or1 pt_w) (ha F1 H g w Q q)
theorem zw_and (ha : ZT X a σ F O k1 O1) (hb : k1 = true → ZW X (.BoolOp .And (b :: rest') pos) σ F O1 k2 O1) : ZW X (.BoolOp .And (a :: b :: rest') pos) σ F O (k1 && k2) O1 := fun F1 H g w Q q =>
  wW_of (pw_and pt_w pw_w) (ha F1 H g w _ fun F2 H2 s1 => by
    cases k1 with
    | true => exact hb rfl F2 H2 (g.trans s1.gr) s1.ok _ fun F3 H3 s2 => q _ _ (s1.trans s2)
    | false => exact q _ _ s1)
theorem zw_or (ha : ZT X a σ F O k1 O1) (hb : k1 = false → ZW X (.BoolOp .Or (b :: rest') pos) σ F O1 k2 O1) : ZW X (.BoolOp .Or (a :: b :: rest') pos) σ F O (k1 || k2) O1 := fun F1 H g w Q q =>
  wW_of (pw_or pt_w pw_w) (ha F1 H g w _ fun F2 H2 s1 => by
    cases k1 with
    | false => exact hb rfl F2 H2 (g.trans s1.gr) s1.ok _ fun F3 H3 s2 => q _ _ (s1.trans s2)
    | true => exact q _ _ s1)
/-- stateful: the state behind hangs on the first -/
theorem zw_andS {α : Type} {s1 s2 : α} (G : α → Own) (ha : ZT X a σ F O k1 (G s1)) (hb : k1 = true → ZW X (.BoolOp .And (b :: rest') pos) σ F (G s1) k2 (G s2)) : ZW X (.BoolOp .And (a :: b :: rest') pos) σ F O (k1 && k2) (G (if k1 then s2 else s1)) := fun F1 H g w Q q =>
  wW_of (pw_and pt_w pw_w) (ha F1 H g w _ fun F2 H2 t1 => by
    cases k1 with
    | true => exact hb rfl F2 H2 (g.trans t1.gr) t1.ok _ fun F3 H3 t2 => q _ _ (t1.trans t2)
    | false => exact q _ _ t1)
theorem zw_orS {α : Type} {s1 s2 : α} (G : α → Own) (ha : ZT X a σ F O k1 (G s1)) (hb : k1 = false → ZW X (.BoolOp .Or (b :: rest') pos) σ F (G s1) k2 (G s2)) : ZW X (.BoolOp .Or (a :: b :: rest') pos) σ F O (k1 || k2) (G (if k1 then s1 else s2)) := fun F1 H g w Q q =>
  wW_of (pw_or pt_w pw_w) (ha F1 H g w _ fun F2 H2 t1 => by
    cases k1 with
    | false => exact hb rfl F2 H2 (g.trans t1.gr) t1.ok _ fun F3 H3 t2 => q _ _ (t1.trans t2)
    | true => exact q _ _ t1)
theorem ze_one {op : BoolOp} (h : ZE X a σ F O d O1) : ZE X (.BoolOp op [a] pos) σ F O d O1 := fun F1 H g w Q q => wE_of (pe_one pe_w) (h F1 H g w Q q)
theorem ze_and (ha : ZE X a σ F O (.bool k1) O1) (hb : k1 = true → ZE X (.BoolOp .And (b :: rest') pos) σ F O1 (.bool k2) O1) : ZE X (.BoolOp .And (a :: b :: rest') pos) σ F O (.bool (k1 && k2)) O1 := fun F1 H g w Q q =>
  wE_of (pe_and pe_w pe_w) (ha F1 H g w _ fun v F2 H2 s1 r1 => ⟨k1, r1.bl_inv, by
    cases k1 with
    | true => exact hb rfl F2 H2 (g.trans s1.gr) s1.ok _ fun v F3 H3 s2 r2 => q _ _ _ (s1.trans s2) r2
    | false => exact q _ _ _ s1 (.bl _)⟩)
theorem ze_or (ha : ZE X a σ F O (.bool k1) O1) (hb : k1 = false → ZE X (.BoolOp .Or (b :: rest') pos) σ F O1 (.bool k2) O1) : ZE X (.BoolOp .Or (a :: b :: rest') pos) σ F O (.bool (k1 || k2)) O1 := fun F1 H g w Q q =>
  wE_of (pe_or pe_w pe_w) (ha F1 H g w _ fun v F2 H2 s1 r1 => ⟨k1, r1.bl_inv, by
    cases k1 with
    | false => exact hb rfl F2 H2 (g.trans s1.gr) s1.ok _ fun v F3 H3 s2 r2 => q _ _ _ (s1.trans s2) r2
    | true => exact q _ _ _ s1 (.bl _)⟩)
/-- a if c else b -/
theorem ze_if {α β : Type} (f : α → PyData) (G : β → Own) {x y : α} {s1 s2 : β} (hc : ZT X c σ F O k O1) (ha : k = true → ZE X a σ F O1 (f x) (G s1)) (hb : k = false → ZE X b σ F O1 (f y) (G s2)) : ZE X (.IfExp c a b pos) σ F O (f (if k then x else y)) (G (if k then s1 else s2)) := fun F1 H g w Q q =>
  wE_of (pe_ifExp pt_w pe_w pe_w) (hc F1 H g w _ fun F2 H2 t1 => by
    cases k with
    | true => exact ha rfl F2 H2 (g.trans t1.gr) t1.ok _ fun v F3 H3 t2 r2 => q _ _ _ (t1.trans t2) r2
    | false => exact hb rfl F2 H2 (g.trans t1.gr) t1.ok _ fun v F3 H3 t2 r2 => q _ _ _ (t1.trans t2) r2)
theorem ze_if0 {α : Type} (f : α → PyData) {x y : α} (hc : ZT X c σ F O k O1) (ha : k = true → ZE X a σ F O1 (f x) O2) (hb : k = false → ZE X b σ F O1 (f y) O2) : ZE X (.IfExp c a b pos) σ F O (f (if k then x else y)) O2 := fun F1 H g w Q q =>
  wE_of (pe_ifExp pt_w pe_w pe_w) (hc F1 H g w _ fun F2 H2 t1 => by
    cases k with
    | true => exact ha rfl F2 H2 (g.trans t1.gr) t1.ok _ fun v F3 H3 t2 r2 => q _ _ _ (t1.trans t2) r2
    | false => exact hb rfl F2 H2 (g.trans t1.gr) t1.ok _ fun v F3 H3 t2 r2 => q _ _ _ (t1.trans t2) r2)
/-- a op1 b op2 c, pure operands -/
theorem ze_chain {op op' : CmpOp} {dc : PyData} (h1 : CmpR X op F O da db k1) (h2 : CmpR X op' F O db dc k2) (ha : ZE X a σ F O da O) (hb : ZE X b σ F O db O) (hc : ZE X c σ F O dc O) (hm : lastMarks [op, op'] [b, c] = false := by with_unfolding_all rfl) :
    ZE X (.Compare a [op, op'] [b, c] pos) σ F O (.bool (k1 && k2)) O := fun F1 H g w Q q => by
  obtain ⟨r1, ho1, hr1⟩ := h1.r
  obtain ⟨r2, ho2, hr2⟩ := h2.r
  refine wE_of (pe_chain ho1 ho2 pe_w pe_w pe_w hm) (ha F1 H g w _ fun x F2 H2 s1 q1 => hb F2 H2 (g.trans s1.gr) s1.ok _ fun y F3 H3 s2 q2 => hr1 F3 H3 x y (g.trans (s1.gr.trans s2.gr)) s2.ok (q1.mono s2.gr) q2 _ ⟨k1, rfl, ?_⟩)
  cases k1 with
  | true => exact hc F3 H3 (g.trans (s1.gr.trans s2.gr)) s2.ok _ fun z F4 H4 s3 q3 => hr2 F4 H4 y z (g.trans (s1.gr.trans (s2.gr.trans s3.gr))) s3.ok (q2.mono s3.gr) q3 _ (q _ _ _ (s1.trans (s2.trans s3)) (.bl _))
  | false => exact q _ _ _ (s1.trans s2) (.bl _)
theorem zt_chain {op op' : CmpOp} {dc : PyData} (h1 : CmpR X op F O da db k1) (h2 : CmpR X op' F O db dc k2) (ha : ZE X a σ F O da O) (hb : ZE X b σ F O db O) (hc : ZE X c σ F O dc O) (hm : lastMarks [op, op'] [b, c] = false := by with_unfolding_all rfl) :
    ZT X (.Compare a [op, op'] [b, c] pos) σ F O (k1 && k2) O := fun F1 H g w Q q => by
  obtain ⟨r1, ho1, hr1⟩ := h1.r
  obtain ⟨r2, ho2, hr2⟩ := h2.r
  refine wT_of (pt_chain ho1 ho2 pe_w pe_w pe_w hm) (ha F1 H g w _ fun x F2 H2 s1 q1 => hb F2 H2 (g.trans s1.gr) s1.ok _ fun y F3 H3 s2 q2 => hr1 F3 H3 x y (g.trans (s1.gr.trans s2.gr)) s2.ok (q1.mono s2.gr) q2 _ ⟨k1, rfl, ?_⟩)
  cases k1 with
  | true => exact hc F3 H3 (g.trans (s1.gr.trans s2.gr)) s2.ok _ fun z F4 H4 s3 q3 => hr2 F4 H4 y z (g.trans (s1.gr.trans (s2.gr.trans s3.gr))) s3.ok (q2.mono s3.gr) q3 _ ⟨_, rfl, q _ _ (s1.trans (s2.trans s3))⟩
  | false => exact ⟨_, rfl, q _ _ (s1.trans s2)⟩

/-! ### statements -/
variable {st : Stmt} {rest body els : List Stmt} {D : Ends} {n : Nat} {x : Str} {px : Pos}
theorem zs_nil (h : D.nx σ H) : ZS X [] σ H D := wSs_of pss_nil h
theorem zs_set (w : WOk F O H) (he : ZE X e σ F O d O1) (hN : X.N.Nodup) (hi : X.N[n]? = some x) (hx : Loc X.env.scope x) (kk : ∀ v F1 H1, Stp F O H F1 O1 H1 → R X.K F1 v d → ZS X rest (σ.set n (some v)) H1 D)
    (hs : swapsWith e (some (.Name x px)) pos.line X.env = pure false := by rfl) (hf : X.fn x = true ∨ X.env.scope.names.lookup x = some .local := by first | exact .inl rfl | exact .inr rfl | assumption) : ZS X (.Assign [.Name x px] e pos :: rest) σ H D :=
  wSs_of (pss_cons (ps_set hN hi hx pe_w hs hf) pss_w) (he F H Gr.refl w _ fun v F1 H1 s1 r1 => kk v F1 H1 s1 r1)
theorem zs_setN (w : WOk F O H) (he : ZN X e σ F O ds O1) (hN : X.N.Nodup) (hi : X.N[n]? = some x) (hx : Loc X.env.scope x) (kk : ∀ p vs F1 H1, H p = none → Stp F O H F1 ((p, .lst vs) :: O1) H1 → RA X.K F1 vs ds → ZS X rest (σ.set n (some (.ref p))) H1 D)
    (hs : swapsWith e (some (.Name x px)) pos.line X.env = pure false := by rfl) (hf : X.fn x = true ∨ X.env.scope.names.lookup x = some .local := by first | exact .inl rfl | exact .inr rfl | assumption) : ZS X (.Assign [.Name x px] e pos :: rest) σ H D :=
  wSs_of (pss_cons (ps_set hN hi hx pe_w hs hf) pss_w) (he F H Gr.refl w _ fun p vs F1 H1 hp s1 r1 => kk p vs F1 H1 hp s1 r1)
theorem zs_ret (w : WOk F O H) (he : ZE X e σ F O d O1) (kk : ∀ v F1 H1, Stp F O H F1 O1 H1 → R X.K F1 v d → D.rt v H1) : ZS X (.Return (some e) pos :: rest) σ H D :=
  wSs_of (pss_cons (ps_ret pe_w) pss_w) (he F H Gr.refl w _ fun v F1 H1 s1 r1 => kk v F1 H1 s1 r1)
theorem zs_retN (w : WOk F O H) (he : ZN X e σ F O ds O1) (kk : ∀ p vs F1 H1, H p = none → Stp F O H F1 ((p, .lst vs) :: O1) H1 → RA X.K F1 vs ds → D.rt (.ref p) H1) : ZS X (.Return (some e) pos :: rest) σ H D :=
  wSs_of (pss_cons (ps_ret pe_w) pss_w) (he F H Gr.refl w _ fun p vs F1 H1 hp s1 r1 => kk p vs F1 H1 hp s1 r1)
/-- return of a slot as it stands (a list that is mine) -/
theorem zs_retV {v : V} (hσ : σ[n]? = some (some v)) (kk : D.rt v H) (hN : X.N[n]? = some x := by rfl) (hv : Vis X.env.scope x := by first | exact Or.inl rfl | exact Or.inr (Or.inl rfl) | exact Or.inr (Or.inr rfl)) (hd : (x == ("__debug__" : Str)) = false := by decide)
    (hcd : (x == ("__classdict__" : Str)) = false := by decide) : ZS X (.Return (some (.Name x px)) pos :: rest) σ H D :=
  wSs_of (pss_cons (ps_ret (pe_var hN hv hd hcd)) pss_w) ⟨v, hσ, kk⟩
theorem zs_ret0 (kk : D.rt .non H) : ZS X (.Return none pos :: rest) σ H D := wSs_of (pss_cons ps_retN pss_w) kk
theorem zs_if (w : WOk F O H) (hc : ZT X c σ F O k O1) (h1 : k = true → ∀ F1 H1, Stp F O H F1 O1 H1 → ZS X body σ H1 { D with nx := fun σ' H' => ZS X rest σ' H' D }) (h2 : k = false → ∀ F1 H1, Stp F O H F1 O1 H1 → ZS X els σ H1 { D with nx := fun σ' H' => ZS X rest σ' H' D }) : ZS X (.If c body els pos :: rest) σ H D :=
  wSs_of (pss_cons (ps_if pt_w pss_w pss_w) pss_w) (hc F H Gr.refl w _ fun F1 H1 s1 => by
    cases k with
    | true => exact h1 rfl F1 H1 s1
    | false => exact h2 rfl F1 H1 s1)
theorem zs_brk (h : D.bk σ H) : ZS X (.Break pos :: rest) σ H D := wSs_of (pss_cons ps_break pss_w) h
theorem zs_cont (h : D.ct σ H) : ZS X (.Continue pos :: rest) σ H D := wSs_of (pss_cons ps_continue pss_w) h
theorem zs_pass (h : ZS X rest σ H D) : ZS X (.Pass pos :: rest) σ H D := wSs_of (pss_cons ps_pass pss_w) h
theorem zs_expr (w : WOk F O H) (he : ZE X e σ F O d O1) (kk : ∀ F1 H1, Stp F O H F1 O1 H1 → ZS X rest σ H1 D) (hs : swapsWith e none pos.line X.env = pure false := by rfl) : ZS X (.Expr e pos :: rest) σ H D :=
  wSs_of (pss_cons (ps_expr pe_w hs) pss_w) (he F H Gr.refl w _ fun v F1 H1 s1 r1 => kk F1 H1 s1)

/-! ### targets -/
theorem zg_name {v : V} {Q : L2.St → Hp → Prop} (hN : X.N.Nodup) (hi : X.N[n]? = some x) (hx : Loc X.env.scope x) (q : Q (σ.set n (some v)) H) (hf : X.fn x = true ∨ X.env.scope.names.lookup x = some .local := by first | exact .inl rfl | exact .inr rfl | assumption) : wG X (.Name x px) v σ H Q :=
  wG_of (pg_name hN hi hx hf) q
theorem zg_tup2 {m : Nat} {y : Str} {py : Pos} {kk : Nat} {v : V} {Q : L2.St → Hp → Prop} (hc : X.calm = true) (hN : X.N.Nodup) (hi : X.N[n]? = some x) (hx : Loc X.env.scope x) (hj : X.N[m]? = some y) (hy : Loc X.env.scope y) (r : R X.K F v (.tuple [da, db])) (w : WOk F O H)
    (q : ∀ v1 v2, R X.K F v1 da → R X.K F v2 db → Q ((σ.set n (some v1)).set m (some v2)) H) (hn : (assignEach [.Name x px, .Name y py] X.env).length = 2 := by rfl) (hst : (assignEach [.Name x px, .Name y py] X.env).findIdx? (·.1) = none := by rfl)
    (hs1 : (assignEach (.Name x px :: [.Name y py]) X.env).map (·.2) = assign (.Name x px) X.env :: (assignEach [.Name y py] X.env).map (·.2) := by rfl) (hs2 : (assignEach (.Name y py :: []) X.env).map (·.2) = assign (.Name y py) X.env :: (assignEach [] X.env).map (·.2) := by rfl)
    (hf : X.fn x = true ∨ X.env.scope.names.lookup x = some .local := by first | exact .inl rfl | exact .inr rfl | assumption) (hf2 : X.fn y = true ∨ X.env.scope.names.lookup y = some .local := by first | exact .inl rfl | exact .inr rfl | assumption) : wG X (.Tuple [.Name x px, .Name y py] kk pos) v σ H Q := by
  obtain ⟨l, xs, rfl, e1, a1⟩ := r.tup_inv
  obtain ⟨v1, v2, rfl, r1, r2⟩ := a1.two
  exact wG_of (pg_tup hc (pgs_cons (pg_name hN hi hx hf) (pgs_cons (pg_name hN hj hy hf2) pgs_nil hs2) hs1) hn hst) ⟨l, [v1, v2], rfl, w.sub.sqT e1, rfl, v1, [v2], rfl, v2, [], rfl, rfl, q v1 v2 r1 r2⟩
theorem zg_tup3 {m m3 : Nat} {y z : Str} {py pz : Pos} {kk : Nat} {v : V} {dc : PyData} {Q : L2.St → Hp → Prop} (hc : X.calm = true) (hN : X.N.Nodup) (hi : X.N[n]? = some x) (hx : Loc X.env.scope x) (hj : X.N[m]? = some y) (hy : Loc X.env.scope y) (hj3 : X.N[m3]? = some z) (hz : Loc X.env.scope z) (r : R X.K F v (.tuple [da, db, dc])) (w : WOk F O H)
    (q : ∀ v1 v2 v3, R X.K F v1 da → R X.K F v2 db → R X.K F v3 dc → Q (((σ.set n (some v1)).set m (some v2)).set m3 (some v3)) H) (hn : (assignEach [.Name x px, .Name y py, .Name z pz] X.env).length = 3 := by rfl) (hst : (assignEach [.Name x px, .Name y py, .Name z pz] X.env).findIdx? (·.1) = none := by rfl)
    (hs1 : (assignEach (.Name x px :: [.Name y py, .Name z pz]) X.env).map (·.2) = assign (.Name x px) X.env :: (assignEach [.Name y py, .Name z pz] X.env).map (·.2) := by rfl) (hs2 : (assignEach (.Name y py :: [.Name z pz]) X.env).map (·.2) = assign (.Name y py) X.env :: (assignEach [.Name z pz] X.env).map (·.2) := by rfl)
    (hs3 : (assignEach (.Name z pz :: []) X.env).map (·.2) = assign (.Name z pz) X.env :: (assignEach [] X.env).map (·.2) := by rfl)
    (hf : X.fn x = true ∨ X.env.scope.names.lookup x = some .local := by first | exact .inl rfl | exact .inr rfl | assumption) (hf2 : X.fn y = true ∨ X.env.scope.names.lookup y = some .local := by first | exact .inl rfl | exact .inr rfl | assumption) (hf3 : X.fn z = true ∨ X.env.scope.names.lookup z = some .local := by first | exact .inl rfl | exact .inr rfl | assumption) : wG X (.Tuple [.Name x px, .Name y py, .Name z pz] kk pos) v σ H Q := by
  obtain ⟨l, xs, rfl, e1, a1⟩ := r.tup_inv
  obtain ⟨v1, ws, rfl, r1, a2⟩ := a1.cons_inv
  obtain ⟨v2, v3, rfl, r2, r3⟩ := a2.two
  exact wG_of (pg_tup hc (pgs_cons (pg_name hN hi hx hf) (pgs_cons (pg_name hN hj hy hf2) (pgs_cons (pg_name hN hj3 hz hf3) pgs_nil hs3) hs2) hs1) hn hst) ⟨l, [v1, v2, v3], rfl, w.sub.sqT e1, rfl, v1, [v2, v3], rfl, v2, [v3], rfl, v3, [], rfl, rfl, q v1 v2 v3 r1 r2 r3⟩
/-- target = value -/
theorem zs_asg (w : WOk F O H) {tg : Expr} (he : ZE X e σ F O d O1) (kk : ∀ v F1 H1, Stp F O H F1 O1 H1 → R X.K F1 v d → wG X tg v σ H1 fun σ2 H2 => ZS X rest σ2 H2 D)
    (hs : swapsWithSole [tg] e pos.line X.env = pure false := by rfl) (hw : swappedStores [tg] e X.env = pure none := by rfl) (h1 : (assignEach [tg] X.env).map (·.2) = [assign tg X.env] := by rfl) : ZS X (.Assign [tg] e pos :: rest) σ H D :=
  wSs_of (pss_cons (ps_asg pe_w pg_w hs hw h1) pss_w) (he F H Gr.refl w _ fun v F1 H1 s1 r1 => kk v F1 H1 s1 r1)
/-- x += e, x -= e -/
theorem zs_augAdd (w : WOk F O H) (hσ : σ[n]? = some (some (.int i))) (he : ZE X e σ F O (.int j) O1) (hN : X.N.Nodup) (hi : X.N[n]? = some x) (hx : Loc X.env.scope x) (kk : ∀ F1 H1, Stp F O H F1 O1 H1 → ZS X rest (σ.set n (some (.int (i + j)))) H1 D)
    (hf : X.fn x = true ∨ X.env.scope.names.lookup x = some .local := by first | exact .inl rfl | exact .inr rfl | assumption) : ZS X (.AugAssign (.Name x px) .Add e pos :: rest) σ H D :=
  wSs_of (pss_cons (ps_aug hN hi hx pe_w ip_add hf) pss_w) ⟨_, hσ, he F H Gr.refl w _ fun v F1 H1 s1 r1 => ⟨i, j, rfl, r1.int_inv, kk F1 H1 s1⟩⟩
theorem zs_augSub (w : WOk F O H) (hσ : σ[n]? = some (some (.int i))) (he : ZE X e σ F O (.int j) O1) (hN : X.N.Nodup) (hi : X.N[n]? = some x) (hx : Loc X.env.scope x) (kk : ∀ F1 H1, Stp F O H F1 O1 H1 → ZS X rest (σ.set n (some (.int (i - j)))) H1 D)
    (hf : X.fn x = true ∨ X.env.scope.names.lookup x = some .local := by first | exact .inl rfl | exact .inr rfl | assumption) : ZS X (.AugAssign (.Name x px) .Sub e pos :: rest) σ H D :=
  wSs_of (pss_cons (ps_aug hN hi hx pe_w ip_sub hf) pss_w) ⟨_, hσ, he F H Gr.refl w _ fun v F1 H1 s1 r1 => ⟨i, j, rfl, r1.int_inv, kk F1 H1 s1⟩⟩

/-! ### lists that are mine -/
variable {m : Nat} {p : Addr} {vs : List V} {apos cpos : Pos}
theorem zs_append (w : WOk F O H) (n m : Nat) (hσ : σ[n]? = some (some (.ref p))) (he : ZE X e σ F O d O1) (hO : O1[m]? = some (p, .lst vs)) (hz : vs.length < sizeLine) (kk : ∀ v F1 H1, Stp F O H F1 (O1.set m (p, .lst (vs ++ [v]))) H1 → R X.K F1 v d → ZS X rest σ H1 D)
    (hN : X.N[n]? = some x := by rfl) (hO0 : ∃ o, O[m]? = some (p, .lst o) := by exact ⟨_, rfl⟩) (hv : Vis X.env.scope x := by first | exact Or.inl rfl | exact Or.inr (Or.inl rfl) | exact Or.inr (Or.inr rfl)) (hd : (x == ("__debug__" : Str)) = false := by decide) (hcd : (x == ("__classdict__" : Str)) = false := by decide)
    (hs : swapsWith (.Call (.Attribute (.Name x px) "append" apos) [e] [] cpos) none pos.line X.env = pure false := by rfl)
    (hbase : attributeBase (.Name x px) "append" X.env (eval (.Name x px) X.env) = eval (.Name x px) X.env := by rfl)
    (hfew : ((backTo cpos (starEach (e :: []) X.env)).all (fun x => !x.1) && (backToKw cpos (keywordEach [] X.env)).all (fun x => x.1.isSome)
      && decide ((e :: []).length + ([] : List Keyword).length + (if ([] : List Keyword).isEmpty then 0 else 1) < 30)) = true := by rfl)
    (hline : (apos.endLine == cpos.line) = true := by rfl) (hse : starEach (e :: []) X.env = (false, eval e X.env) :: starEach [] X.env := by exact se_pl rfl) (hplain : (backTo cpos (starEach [] X.env)).any (·.1) = false := by exact se_any rfl) :
    ZS X (.Expr (.Call (.Attribute (.Name x px) "append" apos) [e] [] cpos) pos :: rest) σ H D := by
  obtain ⟨o0, hO0⟩ := hO0
  refine wSs_of (pss_cons (ps_expr (pe_bm PySem.F.plainAttrs_list PySem.F.slot_list_append PySem.F.type_list_append mt_append (pe_var hN hv hd hcd) (pa_cons pe_w pa_nil hse) hbase hfew hline hse hplain) hs) pss_w) ?_
  refine ⟨_, hσ, .inl ⟨rfl, _, .inl (.inl (w.at_ hO0).1)⟩, he F H Gr.refl w _ fun v F1 H1 s1 r1 => ?_⟩
  exact ⟨p, vs, v, rfl, rfl, (s1.ok.at_ hO).1, hz, kk v _ _ (s1.trans (Stp.write s1.ok hO (by show (vs ++ [v]).length ≤ _; rw [List.length_append]; exact hz))) r1⟩
theorem zs_reverse (w : WOk F O H) (n m : Nat) (hσ : σ[n]? = some (some (.ref p))) (hO : O[m]? = some (p, .lst vs)) (kk : ∀ H1, Stp F O H F (O.set m (p, .lst vs.reverse)) H1 → ZS X rest σ H1 D)
    (hN : X.N[n]? = some x := by rfl) (hv : Vis X.env.scope x := by first | exact Or.inl rfl | exact Or.inr (Or.inl rfl) | exact Or.inr (Or.inr rfl)) (hd : (x == ("__debug__" : Str)) = false := by decide) (hcd : (x == ("__classdict__" : Str)) = false := by decide)
    (hs : swapsWith (.Call (.Attribute (.Name x px) "reverse" apos) [] [] cpos) none pos.line X.env = pure false := by rfl)
    (hbase : attributeBase (.Name x px) "reverse" X.env (eval (.Name x px) X.env) = eval (.Name x px) X.env := by rfl)
    (hline : (apos.endLine == cpos.line) = true := by rfl) : ZS X (.Expr (.Call (.Attribute (.Name x px) "reverse" apos) [] [] cpos) pos :: rest) σ H D := by
  refine wSs_of (pss_cons (ps_expr (pe_bm0 PySem.F.plainAttrs_list PySem.F.slot_list_reverse PySem.F.type_list_reverse mt_reverse (pe_var hN hv hd hcd) hbase hline) hs) pss_w) ?_
  exact ⟨_, hσ, .inl ⟨rfl, _, .inl (.inl (w.at_ hO).1)⟩, p, vs, rfl, rfl, (w.at_ hO).1, kk _ (Stp.write w hO (by show vs.reverse.length ≤ _; rw [List.length_reverse]; exact w.szo _ (List.mem_of_getElem? hO) _ rfl))⟩
theorem zs_setItem (w : WOk F O H) (n m : Nat) {ie : Expr} {ip : Pos} {q : Nat} (hσ : σ[n]? = some (some (.ref p))) (he : ZE X e σ F O d O1) (hi : ZE X ie σ F O1 (.int i) O1) (hO : O1[m]? = some (p, .lst vs)) (hq : ixN vs.length i = some q) (kk : ∀ v F1 H1, Stp F O H F1 (O1.set m (p, .lst (vs.set q v))) H1 → R X.K F1 v d → ZS X rest σ H1 D)
    (hN : X.N[n]? = some x := by rfl) (hv : Vis X.env.scope x := by first | exact Or.inl rfl | exact Or.inr (Or.inl rfl) | exact Or.inr (Or.inr rfl)) (hd : (x == ("__debug__" : Str)) = false := by decide) (hcd : (x == ("__classdict__" : Str)) = false := by decide)
    (hs : swapsWithSole [.Subscript (.Name x px) ie ip] e pos.line X.env = pure false := by rfl) (hw : swappedStores [.Subscript (.Name x px) ie ip] e X.env = pure none := by rfl) (h1 : (assignEach [.Subscript (.Name x px) ie ip] X.env).map (·.2) = [assign (.Subscript (.Name x px) ie ip) X.env] := by rfl)
    (ha : ∀ v, assign (.Subscript (.Name x px) ie ip) X.env v = (do
      let ov ← holding [v] (eval (.Name x px) X.env)
      let iv ← holding [v, ov] (eval ie X.env)
      standAt ip
      holding [v, ov, iv] (setItem ov iv v)
      release [v, ov, iv] []) := by intro _; rfl) : ZS X (.Assign [.Subscript (.Name x px) ie ip] e pos :: rest) σ H D := by
  refine wSs_of (pss_cons (ps_asg pe_w (pg_sub (pe_var hN hv hd hcd) pe_w set_list ha) hs hw h1) pss_w) ?_
  refine he F H Gr.refl w _ fun v F1 H1 s1 r1 => ⟨_, hσ, hi F1 H1 s1.gr s1.ok _ fun iv F2 H2 s2 r2 => ?_⟩
  exact ⟨p, vs, i, q, rfl, r2.int_inv, (s2.ok.at_ hO).1, hq, kk v _ _ (s1.trans (s2.trans (Stp.write s2.ok hO (by show (vs.set q v).length ≤ _; rw [List.length_set]; exact s2.ok.szo _ (List.mem_of_getElem? hO) _ rfl)))) (r1.mono s2.gr)⟩
end
end Z

end
section
namespace Z
open PySem PySem.Spec PyProof.Rows L2

/-! ### what is walked -/
/-- the walk gives the data ds, one after another, while F stays -/
structure Walks (K : PySem.W.Frag) (J : It) (F : Hp) (ds : List PyData) : Prop where
  sz : ds.length ≤ sizeLine
  go : ∀ F3 O3 H3, Gr F F3 → WOk F3 O3 H3 → ∀ i, i < ds.length → J.go i H3
  stop : ∀ F3 O3 H3, Gr F F3 → WOk F3 O3 H3 → ∀ i, ds.length ≤ i → J.stop i H3
  yld : ∀ F3 O3 H3, Gr F F3 → WOk F3 O3 H3 → ∀ i x H' d, ds[i]? = some d → J.yld i H3 x H' → ∃ F', Stp F3 O3 H3 F' O3 H' ∧ R K F' x d
def ZI (X : Cx) (tg iter : Expr) (σ : L2.St) (F : Hp) (O : Own) (ds : List PyData) (O' : Own) : Prop :=
  ∀ F1 H, Gr F F1 → WOk F1 O H → ∀ Q : It → Hp → Prop, (∀ J F2 H2, Stp F1 O H F2 O' H2 → Walks X.K J F2 ds → Q J H2) → wI X tg iter σ H Q
section
variable {K : PySem.W.Frag} {F F' H H' : Hp} {a : Addr} {xs : List V} {ds : List PyData}
theorem walks_list (e : F a = some (.lst xs)) (r : RA K F xs ds) (hz : ds.length ≤ sizeLine) : Walks K (Itl K a) F ds where
  sz := hz
  go := fun F3 O3 H3 g w i hi => ⟨xs, xs[i]'(by rw [r.len]; exact hi), .inl (.inl (w.sub _ _ (g _ _ e))), List.getElem?_eq_getElem _⟩
  stop := fun F3 O3 H3 g w i hi => ⟨xs, .inl (.inl (w.sub _ _ (g _ _ e))), by rw [r.len]; exact hi⟩
  yld := fun F3 O3 H3 g w i x H' d hd y => by
    obtain ⟨rfl, y⟩ := y
    have hx := y xs (.inl (.inl (w.sub _ _ (g _ _ e))))
    exact ⟨F3, Stp.refl w, (r.at_ i x d hx hd).mono g⟩
theorem walks_tup (e : SqT K F a xs) (r : RA K F xs ds) (hz : ds.length ≤ sizeLine) : Walks K (Itt K a) F ds where
  sz := hz
  go := fun F3 O3 H3 g w i hi => ⟨xs, xs[i]'(by rw [r.len]; exact hi), w.sub.sqT (g.sqT e), List.getElem?_eq_getElem _⟩
  stop := fun F3 O3 H3 g w i hi => ⟨xs, w.sub.sqT (g.sqT e), by rw [r.len]; exact hi⟩
  yld := fun F3 O3 H3 g w i x H' d hd y => by
    obtain ⟨rfl, y⟩ := y
    have hx := y xs (w.sub.sqT (g.sqT e))
    exact ⟨F3, Stp.refl w, (r.at_ i x d hx hd).mono g⟩
/-- lo, lo + 1, .. below hi -/
def rangeI (lo hi : Int) : List Int := (List.range (hi - lo).toNat).map fun i => lo + (i : Nat)
theorem rangeI_length (lo hi : Int) : (rangeI lo hi).length = (hi - lo).toNat := by simp [rangeI]
theorem walks_range {lo hi : Int} (hz : (hi - lo).toNat ≤ sizeLine) : Walks K (Itr lo (hi - lo).toNat) F ((rangeI lo hi).map .int) where
  sz := by simpa [rangeI] using hz
  go := fun F3 O3 H3 g w i h => by
    show i < (hi - lo).toNat
    rw [List.length_map, rangeI_length] at h
    exact h
  stop := fun F3 O3 H3 g w i h => by
    show (hi - lo).toNat ≤ i
    rw [List.length_map, rangeI_length] at h
    exact h
  yld := fun F3 O3 H3 g w i x H' d hd y => by
    obtain ⟨rfl, rfl⟩ := y
    refine ⟨F3, Stp.refl w, ?_⟩
    rw [List.getElem?_map] at hd
    cases z : (rangeI lo hi)[i]? with
    | none => rw [z] at hd; cases hd
    | some n =>
      rw [z] at hd; cases hd
      unfold rangeI at z
      rw [List.getElem?_map] at z
      cases y : (List.range (hi - lo).toNat)[i]? with
      | none => rw [y] at z; cases z
      | some q =>
        rw [y] at z; cases z
        have : q = i := by
          have := List.getElem?_eq_some_iff.mp y
          obtain ⟨_, h⟩ := this
          simpa using h.symm
        subst this
        exact .int _
theorem walks_enum (e : F a = some (.lst xs)) (r : RA K F xs ds) (hz : ds.length ≤ sizeLine) : Walks K (Ite K a) F (ds.zipIdx.map fun p => .tuple [.int (p.2 : Nat), p.1]) where
  sz := by simpa using hz
  go := fun F3 O3 H3 g w i hi => ⟨xs, xs[i]'(by rw [r.len]; simpa using hi), .inl (.inl (w.sub _ _ (g _ _ e))), List.getElem?_eq_getElem _⟩
  stop := fun F3 O3 H3 g w i hi => ⟨xs, .inl (.inl (w.sub _ _ (g _ _ e))), by rw [r.len]; simpa using hi⟩
  yld := fun F3 O3 H3 g w i x H' d hd y => by
    obtain ⟨T, v, rfl, hT, rfl, y⟩ := y
    have hx := y xs (.inl (.inl (w.sub _ _ (g _ _ e))))
    obtain ⟨d', hd', rv⟩ := r.get' hx
    have ed : d = .tuple [.int (i : Nat), d'] := by
      rw [List.getElem?_map, List.getElem?_zipIdx, hd'] at hd
      simpa using hd.symm
    subst ed
    have st := Stp.tupF (vs := [.int (i : Nat), v]) w hT
    exact ⟨_, st, ((RA.cons (.int _) (.cons (rv.mono (g.trans st.gr)) .nil)).tup upd_same)⟩
end
section
variable {X : Cx} {e a b c tg iter elt : Expr} {es : List Expr} {σ : L2.St} {F H : Hp} {O O1 O2 O3 : Own} {d da db : PyData} {ds rs : List PyData} {pos p : Pos} {i j : Int} {k k1 k2 : Bool}
theorem zi_list (h : ZE X e σ F O (.list ds) O1) : ZI X tg e σ F O ds O1 := fun F1 H g w Q q =>
  wI_of (pi_list pe_w) (h F1 H g w _ fun v F2 H2 s1 r1 => by
    have hz := r1.size s1.ok
    obtain ⟨l, xs, rfl, e1, a1⟩ := r1.lst_inv
    exact ⟨l, rfl, ⟨xs, .inl (.inl (s1.ok.sub _ _ e1))⟩, q _ _ _ s1 (walks_list e1 a1 hz)⟩)
theorem zi_tup (h : ZE X e σ F O (.tuple ds) O1) (hz : ds.length ≤ sizeLine := by show _ ≤ (16777216 : Nat); exact Nat.le_of_ble_eq_true rfl) : ZI X tg e σ F O ds O1 := fun F1 H g w Q q =>
  wI_of (pi_tup pe_w) (h F1 H g w _ fun v F2 H2 s1 r1 => by
    obtain ⟨l, xs, rfl, e1, a1⟩ := r1.tup_inv
    exact ⟨l, rfl, ⟨xs, s1.ok.sub.sqT e1⟩, q _ _ _ s1 (walks_tup e1 a1 hz)⟩)
theorem szL : (16777216 : Nat) = sizeLine := by show (16777216 : Nat) = _; rw [sizeLine_eq]
theorem zi_range1 (hm : X.mg "range" = none) (ha : ZE X a σ F O (.int i) O1) (hi : -16777216 ≤ i ∧ i ≤ 16777216) (hg : Gl X "range" := by rfl) (hs : starEach [a] X.env = [(false, eval a X.env)] := by rfl) : ZI X tg (.Call (.Name "range" p) [a] [] pos) σ F O ((rangeI 0 i).map .int) O1 := fun F1 H g w Q q =>
  wI_of (pi_range1 hg hm pa_w hs) (za_cons ha za_nil hs F1 H g w _ fun vs F2 H2 s1 r1 => by
    obtain ⟨v, rfl, r⟩ := r1.one
    refine ⟨i, by rw [r.int_inv], by omega, by omega, ?_⟩
    have e0 : i.toNat = (i - 0).toNat := by simp
    rw [e0]
    exact q _ _ _ s1 (walks_range (by rw [← szL]; omega)))
theorem zi_range2 (hm : X.mg "range" = none) (ha : ZE X a σ F O (.int i) O1) (hb : ZE X b σ F O1 (.int j) O2) (hi : -16777216 ≤ i ∧ i ≤ 16777216 ∧ -16777216 ≤ j ∧ j ≤ 16777216 ∧ j - i ≤ 16777216) (hg : Gl X "range" := by rfl) (hs : starEach [a, b] X.env = [(false, eval a X.env), (false, eval b X.env)] := by rfl) (hs2 : starEach [b] X.env = [(false, eval b X.env)] := by rfl) : ZI X tg (.Call (.Name "range" p) [a, b] [] pos) σ F O ((rangeI i j).map .int) O2 := fun F1 H g w Q q =>
  wI_of (pi_range2 hg hm pa_w hs hs2) (za_cons ha (za_cons hb za_nil hs2) (by rw [hs, hs2]) F1 H g w _ fun vs F2 H2 s1 r1 => by
    obtain ⟨v, u, rfl, r, r2⟩ := r1.two
    exact ⟨i, j, by rw [r.int_inv, r2.int_inv], ⟨by omega, by omega, by omega, by omega⟩, q _ _ _ s1 (walks_range (by rw [← szL]; omega))⟩)
theorem zi_enum {tpos : Pos} {elts : List Expr} {kk : Nat} (hm : X.mg "enumerate" = none) (h : ZE X e σ F O (.list ds) O1) (hg : Gl X "enumerate" := by rfl) (hs : starEach [e] X.env = [(false, eval e X.env)] := by rfl) : ZI X (.Tuple elts kk tpos) (.Call (.Name "enumerate" p) [e] [] pos) σ F O (ds.zipIdx.map fun p => .tuple [.int (p.2 : Nat), p.1]) O1 := fun F1 H g w Q q =>
  wI_of (pi_enum hg hm pa_w hs) (za_cons h za_nil hs F1 H g w _ fun vs F2 H2 s1 r1 => by
    obtain ⟨v, rfl, r⟩ := r1.one
    have hz := r.size s1.ok
    obtain ⟨l, xs, rfl, e1, a1⟩ := r.lst_inv
    exact ⟨l, xs, rfl, .inl (.inl (s1.ok.sub _ _ e1)), q _ _ _ s1 (walks_enum e1 a1 hz)⟩)

/-! ### for, while -/
variable {body rest : List Stmt} {D : Ends}
/-- a turn's ends -/
abbrev turnEnds (D : Ends) (F : Hp) (O : Own) (H : Hp) (Rel : L2.St → Hp → Own → Prop) (brk : L2.St → Hp → Prop) : Ends :=
  { nx := fun σ3 H3 => ∃ F3 O3, Stp F O H F3 O3 H3 ∧ Rel σ3 F3 O3, rt := D.rt, bk := brk, ct := fun σ3 H3 => ∃ F3 O3, Stp F O H F3 O3 H3 ∧ Rel σ3 F3 O3 }
theorem wG_mono {v : V} {Q Q' : L2.St → Hp → Prop} (h : wG X tg v σ H Q) (q : ∀ σ H, Q σ H → Q' σ H) : wG X tg v σ H Q' := by
  unfold wG
  exact fun pins s u I r => thn (pg_w.run pins s σ H v u Q I r h) fun _ s' ⟨σ', H', I', h'⟩ => ⟨σ', H', I', q _ _ h'⟩
theorem wSs_mono {D D' : Ends} (h : wSs X body D σ H) (h1 : ∀ σ H, D.nx σ H → D'.nx σ H) (h2 : ∀ v H, D.rt v H → D'.rt v H) (h3 : ∀ σ H, D.bk σ H → D'.bk σ H) (h4 : ∀ σ H, D.ct σ H → D'.ct σ H) : wSs X body D' σ H := by
  unfold wSs
  intro pins s I
  refine thn (pss_w.run pins s σ H D I h) fun fl s' q => ?_
  cases fl with
  | next => obtain ⟨σ', H', I', q⟩ := q; exact ⟨σ', H', I', h1 _ _ q⟩
  | ret u => obtain ⟨v, σ', H', I', r, q⟩ := q; exact ⟨v, σ', H', I', r, h2 _ _ q⟩
  | brk => obtain ⟨σ', H', I', q⟩ := q; exact ⟨σ', H', I', h3 _ _ q⟩
  | cont => obtain ⟨σ', H', I', q⟩ := q; exact ⟨σ', H', I', h4 _ _ q⟩
theorem zs_for (w : WOk F O H) (hp : PassesOwn (model X.prog X.w) X.A X.env X.xe) (hc : X.calm = true) (hi : ZI X tg iter σ F O ds O1) (Rel : Nat → L2.St → Hp → Own → Prop)
    (h0 : ∀ F1 H1, Stp F O H F1 O1 H1 → Rel 0 σ F1 O1)
    (hb : ∀ i d x σ' F0 F' O' H', ds[i]? = some d → ds.length ≤ sizeLine → Rel i σ' F0 O' → Gr F0 F' → Stp F O H F' O' H' → R X.K F' x d → wG X tg x σ' H' fun σ2 H2 => ZS X body σ2 H2 (turnEnds D F' O' H' (Rel (i + 1)) fun σ3 H3 => ZS X rest σ3 H3 D))
    (hd : ∀ σ' F' O' H', Stp F O H F' O' H' → Rel ds.length σ' F' O' → ZS X rest σ' H' D)
    (hs : ∀ x, foldedSetIterable iter X.env x = pure x := by intro _; rfl) : ZS X (.For tg iter body [] pos :: rest) σ H D := by
  refine wSs_of (pss_cons (ps_for hp hc pi_w pg_w pss_w hs) pss_w) ?_
  refine hi F H Gr.refl w _ fun J F1 H1 s1 wk => ?_
  refine ⟨fun i m σ' H' => m = ds.length - i ∧ i ≤ ds.length ∧ ∃ F' O', Gr F1 F' ∧ Stp F O H F' O' H' ∧ Rel i σ' F' O', ⟨ds.length, by simp, Nat.zero_le _, F1, O1, Gr.refl, s1, h0 F1 H1 s1⟩, ?_⟩
  rintro i m σ' H' ⟨rfl, hle, F', O', g, st, rel⟩
  by_cases hlt : i < ds.length
  · refine .inr ⟨wk.go F' O' H' g st.ok i hlt, fun σ3 H3 => ∃ F3 O3, Gr F1 F3 ∧ Stp F O H F3 O3 H3 ∧ Rel (i + 1) σ3 F3 O3, fun σ3 H3 ⟨F3, O3, g3, s3, r3⟩ => ⟨ds.length - (i + 1), by omega, rfl, hlt, F3, O3, g3, s3, r3⟩, fun x H2 y => ?_⟩
    obtain ⟨F2, s2, rx⟩ := wk.yld F' O' H' g st.ok i x H2 ds[i] (List.getElem?_eq_getElem hlt) y
    refine wG_mono (hb i ds[i] x σ' F' F2 O' H2 (List.getElem?_eq_getElem hlt) wk.sz rel s2.gr (st.trans s2) rx) fun σ3 H3 hz => ?_
    have fin : ∀ σ4 H4, (∃ F3 O3, Stp F2 O' H2 F3 O3 H4 ∧ Rel (i + 1) σ4 F3 O3) → ∃ F3 O3, Gr F1 F3 ∧ Stp F O H F3 O3 H4 ∧ Rel (i + 1) σ4 F3 O3 := fun σ4 H4 ⟨F3, O3, s3, r3⟩ =>
      ⟨F3, O3, g.trans (s2.gr.trans s3.gr), st.trans (s2.trans s3), r3⟩
    exact wSs_mono hz fin (fun _ _ q => q) (fun _ _ q => q) fin
  · have ei : i = ds.length := by omega
    subst ei
    exact .inl ⟨wk.stop F' O' H' g st.ok _ (Nat.le_refl _), hd σ' F' O' H' st rel⟩
/-- while: the word Rel by a measure -/
theorem zs_while (w : WOk F O H) (hp : PassesOwn (model X.prog X.w) X.A X.env X.xe) (Rel : Nat → L2.St → Hp → Own → Prop) (m : Nat) (h0 : Rel m σ F O)
    (hb : ∀ m σ' F' O' H', Stp F O H F' O' H' → Rel m σ' F' O' → ∃ k O2, ZT X c σ' F' O' k O2 ∧ ∀ F2 H2, Stp F' O' H' F2 O2 H2 →
      (k = true → ZS X body σ' H2 (turnEnds D F' O' H' (fun σ3 F3 O3 => ∃ m', m' < m ∧ Rel m' σ3 F3 O3) fun σ3 H3 => ZS X rest σ3 H3 D)) ∧ (k = false → ZS X rest σ' H2 D)) : ZS X (.While c body [] pos :: rest) σ H D := by
  refine wSs_of (pss_cons (ps_while hp pt_w pss_w) pss_w) ?_
  refine ⟨fun m σ' H' => ∃ F' O', Stp F O H F' O' H' ∧ Rel m σ' F' O', ⟨m, F, O, Stp.refl w, h0⟩, ?_⟩
  rintro m σ' H' ⟨F', O', st, rel⟩
  obtain ⟨k, O2, zt, hk⟩ := hb m σ' F' O' H' st rel
  refine zt F' H' Gr.refl st.ok _ fun F2 H2 s2 => ?_
  obtain ⟨h1, h2⟩ := hk F2 H2 s2
  cases k with
  | false => exact h2 rfl
  | true =>
    refine ⟨fun σ4 H4 => ∃ m', m' < m ∧ ∃ F3 O3, Stp F O H F3 O3 H4 ∧ Rel m' σ4 F3 O3, fun σ4 H4 ⟨m', hm, F3, O3, s3, r3⟩ => ⟨m', hm, F3, O3, s3, r3⟩, ?_⟩
    have fin : ∀ σ4 H4, (∃ F3 O3, Stp F' O' H' F3 O3 H4 ∧ ∃ m', m' < m ∧ Rel m' σ4 F3 O3) → ∃ m', m' < m ∧ ∃ F3 O3, Stp F O H F3 O3 H4 ∧ Rel m' σ4 F3 O3 := fun σ4 H4 ⟨F3, O3, s3, m', hm, r3⟩ => ⟨m', hm, F3, O3, st.trans s3, r3⟩
    exact wSs_mono (h1 rfl) fin (fun _ _ q => q) (fun _ _ q => q) fin

/-! ### comprehensions -/
/-- the reading of a comprehension of one for: own state S i and result r i of the i-th item -/
theorem lc_read {wi : TI} {g : TG} {tt : TT} {te : TE} {vs : List Nat} {K : PySem.W.Frag} (S : Nat → Own) (r : Nat → Option PyData)
    (hi : ∀ F1 H, Gr F F1 → WOk F1 O H → ∀ Q : It → Hp → Prop, (∀ J F2 H2, Stp F1 O H F2 (S 0) H2 → Walks K J F2 ds → Q J H2) → wi σ H Q)
    (hb : ∀ i d x F' H', ds[i]? = some d → Gr F F' → WOk F' (S i) H' → R K F' x d → ∀ (Q1 : V → Hp → Prop) (Q0 : Hp → Prop), (∀ v F2 H2 y, r i = some y → Stp F' (S i) H' F2 (S (i + 1)) H2 → R K F2 v y → Q1 v H2) → (∀ F2 H2, r i = none → Stp F' (S i) H' F2 (S (i + 1)) H2 → Q0 H2) →
      g x (wipe σ vs) H' fun σ2 H2 => wipe σ2 vs = wipe σ vs ∧ tt σ2 H2 fun b H3 => if b = true then te σ2 H3 Q1 else Q0 H3)
    {F1 H : Hp} (g1 : Gr F F1) (w : WOk F1 O H) {Q : VK} (q : ∀ p us F2 H2, H p = none → Stp F1 O H F2 ((p, .lst us) :: S ds.length) H2 → RA K F2 us ((List.range ds.length).filterMap r) → Q (.ref p) H2) : tLc wi g tt te vs σ H Q := by
  refine hi F1 H g1 w _ fun J F2 H2 s1 wk => fun D hD => ?_
  have hD0 : H D = none := by
    cases z : H D with
    | none => rfl
    | some u => exact absurd hD (s1.dom D (by rw [z]; simp))
  refine ⟨fun i m H' => m = ds.length - i ∧ i ≤ ds.length ∧ ∃ F' us, us.length ≤ i ∧ Gr F2 F' ∧ Stp F1 O H F' ((D, .lst us) :: S i) H' ∧ RA K F' us ((List.range i).filterMap r), ⟨ds.length, by simp, Nat.zero_le _, F2, [], Nat.le_refl _, Gr.refl, s1.trans (Stp.alloc s1.ok hD (Nat.zero_le _)), .nil⟩, ?_⟩
  rintro i m H' ⟨rfl, hle, F', us, hu, g2, st, ra⟩
  by_cases hlt : i < ds.length
  · refine .inr ⟨wk.go F' _ H' g2 st.ok i hlt, fun H3 => ∃ F3 us', us'.length ≤ i + 1 ∧ Gr F2 F3 ∧ Stp F1 O H F3 ((D, .lst us') :: S (i + 1)) H3 ∧ RA K F3 us' ((List.range (i + 1)).filterMap r), fun H3 ⟨F3, us', h1, h2, h3, h4⟩ => ⟨ds.length - (i + 1), by omega, rfl, hlt, F3, us', h1, h2, h3, h4⟩, fun x H3 y => ?_⟩
    obtain ⟨F3, s2, rx⟩ := wk.yld F' _ H' g2 st.ok i x H3 ds[i] (List.getElem?_eq_getElem hlt) y
    have g3 : Gr F F3 := g1.trans (s1.gr.trans (g2.trans s2.gr))
    refine hb i ds[i] x F3 H3 (List.getElem?_eq_getElem hlt) g3 s2.ok.tail rx _ _ (fun v F4 H4 y hy s3 r3 => ?_) fun F4 H4 hy s3 => ?_
    · have s4 := Stp.cons s2.ok s3
      have s5 := st.trans (s2.trans s4)
      have hz : us.length < sizeLine := Nat.lt_of_le_of_lt hu (Nat.lt_of_lt_of_le hlt wk.sz)
      have s6 := Stp.write (o' := .lst (us ++ [v])) s5.ok (k := 0) rfl (by show (us ++ [v]).length ≤ _; rw [List.length_append]; exact hz)
      refine ⟨us, (s5.ok.own (D, .lst us) List.mem_cons_self).1, hz, F4, us ++ [v], ?_, g2.trans (s2.gr.trans s3.gr), s5.trans s6, ?_⟩
      · rw [List.length_append]; exact Nat.succ_le_succ hu
      · rw [List.range_succ, List.filterMap_append]
        have e1 : [i].filterMap r = [y] := by rw [List.filterMap_cons, hy]; rfl
        rw [e1]
        exact (ra.mono (s2.gr.trans s3.gr)).snoc r3
    · have s4 := Stp.cons s2.ok s3
      refine ⟨F4, us, Nat.le_succ_of_le hu, g2.trans (s2.gr.trans s3.gr), st.trans (s2.trans s4), ?_⟩
      rw [List.range_succ, List.filterMap_append]
      have e1 : [i].filterMap r = [] := by rw [List.filterMap_cons, hy]; rfl
      rw [e1, List.append_nil]
      exact ra.mono (s2.gr.trans s3.gr)
  · have ei : i = ds.length := by omega
    subst ei
    exact .inl ⟨wk.stop F' _ H' g2 st.ok _ (Nat.le_refl _), q D us F' H' hD0 st ra⟩

variable {scope : Scope} {ifs : List Expr} {x y : Str} {px py spos : Pos} {n n2 : Nat}
/-- the block of a comprehension -/
abbrev blkX (X : Cx) (scope : Scope) (s : Shared) (H : Hp) (C : Addr) (cl : List (Str × Addr)) (fp : List Addr) : Cx := X.blk s H scope (compEnvC scope cl C X.env) fp
def uE (X : Cx) (scope : Scope) (e : Expr) : TE := fun σ H Q => ∀ s H0 C cl fp, wE (blkX X scope s H0 C cl fp) e σ H Q
def uT (X : Cx) (scope : Scope) (e : Expr) : TT := fun σ H Q => ∀ s H0 C cl fp, wT (blkX X scope s H0 C cl fp) e σ H Q
theorem pe_u (s : Shared) (H : Hp) (C : Addr) (cl : List (Str × Addr)) (fp : List Addr) : PE (blkX X scope s H C cl fp) e (uE X scope e) := ⟨fun pins s' σ H1 Q I h => pe_w.run pins s' σ H1 Q I (h s H C cl fp)⟩
theorem pt_u (s : Shared) (H : Hp) (C : Addr) (cl : List (Str × Addr)) (fp : List Addr) : PT (blkX X scope s H C cl fp) e (uT X scope e) := ⟨fun pins s' σ H1 Q I h => pt_w.run pins s' σ H1 Q I (h s H C cl fp)⟩
/-- a comprehension's body over items of a list of Lean values: each keeps the state and gives f a, where pr a -/
structure Blk1 (X : Cx) (scope : Scope) (n : Nat) (elt : Expr) (ifs : List Expr) (σ : L2.St) (F : Hp) {α β γ : Type} (G : β → Own) (enc : α → PyData) (encR : γ → PyData) (xs : List α) (f : β → α → Option γ × β) (tt : TT) : Prop where
  pts : ∀ s H C cl fp, PTs (blkX X scope s H C cl fp) ifs tt
  run : ∀ st a v F' H', a ∈ xs → Gr F F' → WOk F' (G st) H' → R X.K F' v (enc a) → ∀ (Q1 : V → Hp → Prop) (Q0 : Hp → Prop),
    (∀ v F2 H2 y, (f st a).1 = some y → Stp F' (G st) H' F2 (G (f st a).2) H2 → R X.K F2 v (encR y) → Q1 v H2) → (∀ F2 H2, (f st a).1 = none → Stp F' (G st) H' F2 (G (f st a).2) H2 → Q0 H2) →
    tt (σ.set n (some v)) H' fun b H3 => if b = true then uE X scope elt (σ.set n (some v)) H3 Q1 else Q0 H3
def runS {α β γ : Type} (f : β → α → Option γ × β) : β → List α → List γ × β
  | s, [] => ([], s)
  | s, a :: as => ((match (f s a).1 with | some y => y :: (runS f (f s a).2 as).1 | none => (runS f (f s a).2 as).1), (runS f (f s a).2 as).2)
def stS {α β γ : Type} (f : β → α → Option γ × β) (s : β) (xs : List α) : Nat → β
  | 0 => s
  | i + 1 => match xs[i]? with | some a => (f (stS f s xs i) a).2 | none => stS f s xs i
theorem stS_cons {α β γ : Type} (f : β → α → Option γ × β) (s : β) (a : α) (xs : List α) : ∀ i, stS f s (a :: xs) (i + 1) = stS f (f s a).2 xs i
  | 0 => rfl
  | i + 1 => by
    show (match (a :: xs)[i + 1]? with | some b => (f (stS f s (a :: xs) (i + 1)) b).2 | none => stS f s (a :: xs) (i + 1)) = _
    rw [stS_cons f s a xs i, List.getElem?_cons_succ]
    rfl
theorem stS_run {α β γ : Type} (f : β → α → Option γ × β) : ∀ (xs : List α) (s : β), stS f s xs xs.length = (runS f s xs).2
  | [], s => rfl
  | a :: xs, s => by
    rw [List.length_cons, stS_cons, stS_run f xs]
    rfl
theorem runS_eq {α β γ : Type} (f : β → α → Option γ × β) (enc : γ → PyData) : ∀ (xs : List α) (s : β), (List.range xs.length).filterMap (fun i => (xs[i]?).bind fun a => (f (stS f s xs i) a).1.map enc) = (runS f s xs).1.map enc
  | [], s => rfl
  | a :: xs, s => by
    rw [List.length_cons, List.range_succ_eq_map, List.filterMap_cons, List.filterMap_map]
    have ih := runS_eq f enc xs (f s a).2
    have e1 : ((fun i => ((a :: xs)[i]?).bind fun b => (f (stS f s (a :: xs) i) b).1.map enc) ∘ Nat.succ) = fun i => (xs[i]?).bind fun b => (f (stS f (f s a).2 xs i) b).1.map enc := by
      funext i
      show ((a :: xs)[i + 1]?).bind _ = _
      rw [List.getElem?_cons_succ, stS_cons]
    rw [e1, ih]
    have e2 : (((a :: xs)[0]?).bind fun b => (f (stS f s (a :: xs) 0) b).1.map enc) = (f s a).1.map enc := rfl
    rw [e2]
    cases h : (f s a).1 with
    | none => simp only [Option.map_none, runS, h]
    | some y => simp only [Option.map_some, runS, h, List.map_cons]
variable {α β γ : Type} {G : β → Own} {enc : α → PyData} {encR : γ → PyData} {xs : List α} {f : β → α → Option γ × β} {st0 : β} {tt : TT}
theorem lc1_read {g : TG} (hg0 : g = gName n) (hi : ZI X tg iter σ F O (xs.map enc) (G st0)) (B : Blk1 X scope n elt ifs σ F G enc encR xs f tt) {F1 H : Hp} (g1 : Gr F F1) (w : WOk F1 O H) {Q : VK}
    (q : ∀ p us F2 H2, H p = none → Stp F1 O H F2 ((p, .lst us) :: G (runS f st0 xs).2) H2 → RA X.K F2 us ((runS f st0 xs).1.map encR) → Q (.ref p) H2) : tLc (wI X tg iter) g tt (uE X scope elt) [n] σ H Q := by
  subst hg0
  refine lc_read (fun i => G (stS f st0 xs i)) (fun i => (xs[i]?).bind fun a => (f (stS f st0 xs i) a).1.map encR) (fun F1 H g1 w Q q => hi F1 H g1 w Q q) (fun i d v F' H' hd gg ww rr Q1 Q0 h1 h0 => ?_) g1 w (fun p us F2 H2 hp s2 ra => ?_)
  · rw [List.getElem?_map] at hd
    cases ha : xs[i]? with
    | none => rw [ha] at hd; cases hd
    | some a =>
      rw [ha] at hd; cases hd
      have es : stS f st0 xs (i + 1) = (f (stS f st0 xs i) a).2 := by show (match xs[i]? with | some a => _ | none => _) = _; rw [ha]
      rw [ha] at h1 h0
      rw [es] at h1 h0
      have e1 : (wipe σ [n]).set n (some v) = σ.set n (some v) := by
        show (σ.set n none).set n (some v) = _
        rw [List.set_set]
      refine ⟨?_, ?_⟩
      · show ((wipe σ [n]).set n (some v)).set n none = σ.set n none
        rw [e1, List.set_set]
      · rw [e1]
        refine B.run _ a v F' H' (List.mem_of_getElem? ha) gg ww rr Q1 Q0 (fun v F2 H2 y hy s r => h1 v F2 H2 (encR y) (by show Option.map encR _ = _; rw [hy]; rfl) s r) fun F2 H2 hy s => h0 F2 H2 (by show Option.map encR _ = _; rw [hy]; rfl) s
  · rw [List.length_map] at s2 ra
    rw [stS_run] at s2
    rw [runS_eq] at ra
    exact q p us F2 H2 hp s2 ra
theorem zn_lc1 (hc : X.calm = true) (hN : X.N.Nodup) (hi : ZI X (.Name x px) iter σ F O (xs.map enc) (G st0)) (B : Blk1 X scope n elt ifs σ F G enc encR xs f tt) (ok : BlkOk X.N X.env.scope scope [(x, n)])
    (hg : ∀ s H C cl fp, PG (blkX X scope s H C cl fp) (.Name x px) (gName n)) (hs : ∀ x, foldedSetIterable iter X.env x = pure x := by intro _; rfl) :
    ZN X (.ListComp elt [⟨.Name x px, iter, ifs, 0⟩] scope pos) σ F O ((runS f st0 xs).1.map encR) (G (runS f st0 xs).2) := fun F1 H g1 w Q q =>
  wE_of (pe_lc hc hN pi_w ok hg B.pts pe_u hs) (lc1_read rfl hi B g1 w q)
theorem zs_setLc1 (w : WOk F O H) {i : Nat} {rest : List Stmt} {D : Ends} (hc : X.calm = true) (hN : X.N.Nodup) (hi : ZI X (.Name x px) iter σ F O (xs.map enc) (G st0)) (B : Blk1 X scope n elt ifs σ F G enc encR xs f tt) (ok : BlkOk X.N X.env.scope scope [(x, n)])
    (hg : ∀ s H C cl fp, PG (blkX X scope s H C cl fp) (.Name x px) (gName n)) (hy : X.N[i]? = some y) (hyl : X.env.scope.names.lookup y = some .local)
    (kk : ∀ p us F1 H1, H p = none → Stp F O H F1 ((p, .lst us) :: G (runS f st0 xs).2) H1 → RA X.K F1 us ((runS f st0 xs).1.map encR) → ZS X rest (σ.set i (some (.ref p))) H1 D)
    (hsw : swapsWith (.ListComp elt [⟨.Name x px, iter, ifs, 0⟩] scope pos) (some (.Name y py)) spos.line X.env = pure true) (hs : ∀ x, foldedSetIterable iter X.env x = pure x := by intro _; rfl) :
    ZS X (.Assign [.Name y py] (.ListComp elt [⟨.Name x px, iter, ifs, 0⟩] scope pos) spos :: rest) σ H D :=
  wSs_of (pss_cons (ps_setLc hc hN hy hyl hsw pi_w ok hg B.pts pe_u hs) pss_w) (lc1_read (Q := fun v H' => ZS X rest (σ.set i (some v)) H' D) rfl hi B Gr.refl w fun p us F2 H2 hp s ra => kk p us F2 H2 hp s ra)

/-! the bodies: pure or with a state, with or without a test -/
theorem blk_map {f0 : α → γ} {O : Own} (he : ∀ s H0 C cl fp a v F', a ∈ xs → Gr F F' → R X.K F' v (enc a) → ZE (blkX X scope s H0 C cl fp) elt (σ.set n (some v)) F' O (encR (f0 a)) O) :
    Blk1 X scope n elt [] σ F (fun (_ : Unit) => O) enc encR xs (fun _ a => (some (f0 a), ())) tYes where
  pts := fun s H C cl fp => pts_nil
  run := fun st a v F' H' ha g w r Q1 Q0 h1 h0 => by
    show (if true = true then uE X scope elt (σ.set n (some v)) H' Q1 else Q0 H')
    rw [if_pos rfl]
    intro s H0 C cl fp
    exact he s H0 C cl fp a v F' ha g r F' H' Gr.refl w _ fun u F2 H2 s2 r2 => h1 u F2 H2 _ rfl s2 r2
theorem blk_filter {f0 : α → γ} {O : Own} {c : Expr} {pr : α → Bool} (hc : ∀ s H0 C cl fp a v F', a ∈ xs → Gr F F' → R X.K F' v (enc a) → ZT (blkX X scope s H0 C cl fp) c (σ.set n (some v)) F' O (pr a) O)
    (he : ∀ s H0 C cl fp a v F', a ∈ xs → pr a = true → Gr F F' → R X.K F' v (enc a) → ZE (blkX X scope s H0 C cl fp) elt (σ.set n (some v)) F' O (encR (f0 a)) O) :
    Blk1 X scope n elt [c] σ F (fun (_ : Unit) => O) enc encR xs (fun _ a => (if pr a then some (f0 a) else none, ())) (uT X scope c) where
  pts := fun s H C cl fp => pts_one (pt_u s H C cl fp)
  run := fun st a v F' H' ha g w r Q1 Q0 h1 h0 => by
    intro s H0 C cl fp
    refine hc s H0 C cl fp a v F' ha g r F' H' Gr.refl w _ fun F2 H2 s2 => ?_
    cases hp : pr a with
    | true =>
      rw [if_pos rfl]
      intro s H0 C cl fp
      exact he s H0 C cl fp a v F2 ha hp (g.trans s2.gr) (r.mono s2.gr) F2 H2 Gr.refl s2.ok _ fun u F3 H3 s3 r3 => h1 u F3 H3 _ (by rw [hp]; rfl) (s2.trans s3) r3
    | false =>
      rw [if_neg (by decide)]
      exact h0 F2 H2 (by rw [hp]; rfl) s2
theorem blk_state {f0 : β → α → γ × β} (he : ∀ s H0 C cl fp st a v F', a ∈ xs → Gr F F' → R X.K F' v (enc a) → ZE (blkX X scope s H0 C cl fp) elt (σ.set n (some v)) F' (G st) (encR (f0 st a).1) (G (f0 st a).2)) :
    Blk1 X scope n elt [] σ F G enc encR xs (fun st a => (some (f0 st a).1, (f0 st a).2)) tYes where
  pts := fun s H C cl fp => pts_nil
  run := fun st a v F' H' ha g w r Q1 Q0 h1 h0 => by
    show (if true = true then uE X scope elt (σ.set n (some v)) H' Q1 else Q0 H')
    rw [if_pos rfl]
    intro s H0 C cl fp
    exact he s H0 C cl fp st a v F' ha g r F' H' Gr.refl w _ fun u F2 H2 s2 r2 => h1 u F2 H2 _ rfl s2 r2
theorem runS_map {f0 : α → γ} : ∀ xs : List α, (runS (fun (_ : Unit) a => (some (f0 a), ())) () xs).1 = xs.map f0
  | [] => rfl
  | a :: xs => by show _ :: _ = _; rw [runS_map xs]; rfl
theorem runS_filter {f0 : α → γ} {pr : α → Bool} : ∀ xs : List α, (runS (fun (_ : Unit) a => (if pr a then some (f0 a) else none, ())) () xs).1 = (xs.filter pr).map f0
  | [] => rfl
  | a :: xs => by
    show (match (if pr a then some (f0 a) else none) with | some y => _ | none => _) = _
    rw [List.filter_cons]
    cases hp : pr a with
    | true => rw [if_pos rfl, if_pos rfl, List.map_cons, ← runS_filter xs]
    | false => rw [if_neg (by decide), if_neg (by decide), ← runS_filter xs]
/-- the state threaded: the results, the last state -/
def mapS (f0 : β → α → γ × β) : β → List α → List γ × β
  | s, [] => ([], s)
  | s, a :: as => ((f0 s a).1 :: (mapS f0 (f0 s a).2 as).1, (mapS f0 (f0 s a).2 as).2)
theorem runS_state {f0 : β → α → γ × β} : ∀ (xs : List α) (s : β), runS (fun st a => (some (f0 st a).1, (f0 st a).2)) s xs = mapS f0 s xs
  | [], s => rfl
  | a :: xs, s => by
    show (_ :: _, _) = (_ :: _, _)
    rw [runS_state xs]
end
end Z

end
section
namespace Z
open PySem PySem.Spec PyProof.Rows L2

/-! ### Lean values as data -/
abbrev eI : Int → PyData := PyData.int
abbrev eB : Bool → PyData := PyData.bool
abbrev eS : Str → PyData := PyData.str
abbrev eU : Unit → PyData := fun _ => PyData.none
abbrev eL {α : Type} (e : α → PyData) (xs : List α) : PyData := .list (xs.map e)
abbrev eTL {α : Type} (e : α → PyData) (xs : List α) : PyData := .tuple (xs.map e)
abbrev eT2 {α β : Type} (e1 : α → PyData) (e2 : β → PyData) (p : α × β) : PyData := .tuple [e1 p.1, e2 p.2]
abbrev eT3 {α β γ : Type} (e1 : α → PyData) (e2 : β → PyData) (e3 : γ → PyData) (p : α × β × γ) : PyData := .tuple [e1 p.1, e2 p.2.1, e3 p.2.2]
abbrev eT4 {α β γ δ : Type} (e1 : α → PyData) (e2 : β → PyData) (e3 : γ → PyData) (e4 : δ → PyData) (p : α × β × γ × δ) : PyData := .tuple [e1 p.1, e2 p.2.1, e3 p.2.2.1, e4 p.2.2.2]
def eO {α : Type} (e : α → PyData) : Option α → PyData
  | none => .none
  | some x => e x
theorem atI_0 {α : Type} {a : α} {l : List α} : atI (a :: l) 0 = some a := by simp [atI, ixN]
theorem atI_1 {α : Type} {a b : α} {l : List α} : atI (a :: b :: l) 1 = some b := by
  have : (1 : Int) < (l.length : Int) + 1 + 1 := by omega
  simp [atI, ixN, this]
theorem atI_2 {α : Type} {a b c : α} {l : List α} : atI (a :: b :: c :: l) 2 = some c := by
  have : (2 : Int) < (l.length : Int) + 1 + 1 + 1 := by omega
  simp [atI, ixN, this]
theorem atI_3 {α : Type} {a b c d : α} {l : List α} : atI (a :: b :: c :: d :: l) 3 = some d := by
  have : (3 : Int) < (l.length : Int) + 1 + 1 + 1 + 1 := by omega
  simp [atI, ixN, this]
theorem atI_4 {α : Type} {a b c d e : α} {l : List α} : atI (a :: b :: c :: d :: e :: l) 4 = some e := by
  have : (4 : Int) < (l.length : Int) + 1 + 1 + 1 + 1 + 1 := by omega
  simp [atI, ixN, this]
/-- xs[i] -/
def ixL {α : Type} [Inhabited α] (xs : List α) (i : Int) : α := (atI xs i).getD default
theorem ixN_in {n : Nat} {i : Int} (h : -(n : Int) ≤ i ∧ i < n) : ∃ j, ixN n i = some j ∧ j < n := by
  unfold ixN
  by_cases h0 : 0 ≤ i
  · rw [if_pos h0, if_pos h.2]
    exact ⟨_, rfl, by omega⟩
  · rw [if_neg h0, if_pos h.1]
    exact ⟨_, rfl, by omega⟩
theorem atI_in {α : Type} [Inhabited α] {xs : List α} {i : Int} (h : -(xs.length : Int) ≤ i ∧ i < xs.length) : atI xs i = some (ixL xs i) := by
  obtain ⟨j, hj, hl⟩ := ixN_in h
  unfold ixL atI
  rw [hj]
  show xs[j]? = some (xs[j]?.getD default)
  rw [List.getElem?_eq_getElem hl]; rfl
theorem atI_map {α : Type} [Inhabited α] {xs : List α} {i : Int} {e : α → PyData} (h : -(xs.length : Int) ≤ i ∧ i < xs.length) : atI (xs.map e) i = some (e (ixL xs i)) := by
  have h1 := atI_in h
  unfold atI at h1 ⊢
  rw [List.length_map]
  cases q : ixN xs.length i with
  | none => rw [q] at h1; cases h1
  | some j =>
    rw [q] at h1
    show (xs.map e)[j]? = _
    have h1 : xs[j]? = some (ixL xs i) := h1
    rw [List.getElem?_map, h1]; rfl
theorem ixL_mem {α : Type} [Inhabited α] {xs : List α} {i : Int} (h : -(xs.length : Int) ≤ i ∧ i < xs.length) : ixL xs i ∈ xs := by
  have h1 := atI_in h
  unfold atI at h1
  cases q : ixN xs.length i with
  | none => rw [q] at h1; cases h1
  | some j =>
    rw [q] at h1
    have h1 : xs[j]? = some (ixL xs i) := h1
    exact List.mem_of_getElem? h1
theorem cutD_map {α : Type} {xs : List α} {e : α → PyData} {lo hi : Option Int} : cutD (xs.map e) lo hi = (cutD xs lo hi).map e := by
  unfold cutD
  rw [List.length_map, List.map_take, List.map_drop]

section
variable {X : Cx} {e a b c tg iter elt : Expr} {es : List Expr} {σ : L2.St} {F H : Hp} {O O1 O2 O3 : Own} {d da db : PyData} {ds rs : List PyData} {pos p : Pos} {i j : Int} {k k1 k2 : Bool}
theorem zn_eq {rs' : List PyData} (h : ZN X e σ F O rs O1) (q : rs = rs') : ZN X e σ F O rs' O1 := q ▸ h
theorem zn_ze {α : Type} {enc : α → PyData} {xs : List α} (h : ZN X e σ F O (xs.map enc) O1) : ZE X e σ F O (eL enc xs) O1 := h.ze
/-- typed -/
theorem ze_ixLt {α : Type} [Inhabited α] {enc : α → PyData} {xs : List α} (ha : ZE X a σ F O (eL enc xs) O1) (hb : ZE X b σ F O1 (.int i) O2) (h : -(xs.length : Int) ≤ i ∧ i < xs.length) (hs : PlainIx b := by exact fun _ _ => rfl) : ZE X (.Subscript a b pos) σ F O (enc (ixL xs i)) O2 :=
  ze_ixL ha hb (atI_map h) hs
theorem ze_ixTt {α : Type} [Inhabited α] {enc : α → PyData} {xs : List α} (ha : ZE X a σ F O (eTL enc xs) O1) (hb : ZE X b σ F O1 (.int i) O2) (h : -(xs.length : Int) ≤ i ∧ i < xs.length) (hs : PlainIx b := by exact fun _ _ => rfl) : ZE X (.Subscript a b pos) σ F O (enc (ixL xs i)) O2 :=
  ze_ixT ha hb (atI_map h) hs
theorem ze_ixOt {α : Type} [Inhabited α] {enc : α → PyData} {xs : List α} (n m : Nat) {x : Str} {px : Pos} {p : Addr} {vs : List V} (hσ : σ[n]? = some (some (.ref p))) (hb : ZE X b σ F O (.int i) O1) (hO : O1[m]? = some (p, .lst vs)) (hr : RA X.K F vs (xs.map enc)) (h : -(xs.length : Int) ≤ i ∧ i < xs.length)
    (hN : X.N[n]? = some x := by rfl) (hv : Vis X.env.scope x := by first | exact Or.inl rfl | exact Or.inr (Or.inl rfl) | exact Or.inr (Or.inr rfl)) (hs : PlainIx b := by exact fun _ _ => rfl) (hd : (x == ("__debug__" : Str)) = false := by decide)
    (hcd : (x == ("__classdict__" : Str)) = false := by decide) : ZE X (.Subscript (.Name x px) b pos) σ F O (enc (ixL xs i)) O1 := ze_ixO n m hσ hb hO hr (atI_map h) hN hv hs hd hcd
variable {lo hi : Option Expr} {p2 : Pos} {l u : Option Int}
theorem zn_slt {α : Type} {enc : α → PyData} {xs : List α} (ha : ZE X a σ F O (eL enc xs) O1) (hl : ZO X lo σ F O1 l O2) (hu : ZO X hi σ F O2 u O3) : ZN X (.Subscript a (.Slice lo hi none p2) pos) σ F O ((cutD xs l u).map enc) O3 := zn_eq (zn_sl ha hl hu) cutD_map
theorem zn_slOt {α : Type} {enc : α → PyData} {xs : List α} (n m : Nat) {x : Str} {px : Pos} {p : Addr} {vs : List V} (hσ : σ[n]? = some (some (.ref p))) (hl : ZO X lo σ F O l O2) (hu : ZO X hi σ F O2 u O3) (hO : O3[m]? = some (p, .lst vs)) (hr : RA X.K F vs (xs.map enc))
    (hN : X.N[n]? = some x := by rfl) (hv : Vis X.env.scope x := by first | exact Or.inl rfl | exact Or.inr (Or.inl rfl) | exact Or.inr (Or.inr rfl)) (hd : (x == ("__debug__" : Str)) = false := by decide)
    (hcd : (x == ("__classdict__" : Str)) = false := by decide) : ZN X (.Subscript (.Name x px) (.Slice lo hi none p2) pos) σ F O ((cutD xs l u).map enc) O3 := zn_eq (zn_slO n m hσ hl hu hO hr hN hv hd hcd) cutD_map
theorem ze_lenLt {α : Type} {enc : α → PyData} {xs : List α} (hm : X.mg "len" = none) (ha : ZE X e σ F O (eL enc xs) O1) (hg : Gl X "len" := by rfl) (he : starEach [e] X.env = (false, eval e X.env) :: starEach [] X.env := by exact se_pl rfl) (hpl : (backTo pos (starEach [] X.env)).any (·.1) = false := by exact se_any rfl) : ZE X (.Call (.Name "len" p) [e] [] pos) σ F O (eI (xs.length : Nat)) O1 :=
  ze_eq (ze_lenL hm ha hg he hpl) (by rw [List.length_map])
theorem ze_lenTt {α : Type} {enc : α → PyData} {xs : List α} (hm : X.mg "len" = none) (ha : ZE X e σ F O (eTL enc xs) O1) (hg : Gl X "len" := by rfl) (he : starEach [e] X.env = (false, eval e X.env) :: starEach [] X.env := by exact se_pl rfl) (hpl : (backTo pos (starEach [] X.env)).any (·.1) = false := by exact se_any rfl) : ZE X (.Call (.Name "len" p) [e] [] pos) σ F O (eI (xs.length : Nat)) O1 :=
  ze_eq (ze_lenT hm ha hg he hpl) (by rw [List.length_map])
theorem ze_lenOt {α : Type} {enc : α → PyData} {xs : List α} (n m : Nat) {x : Str} {px : Pos} {q : Addr} {vs : List V} (hm : X.mg "len" = none) (hσ : σ[n]? = some (some (.ref q))) (hO : O[m]? = some (q, .lst vs)) (hr : RA X.K F vs (xs.map enc)) (hN : X.N[n]? = some x := by rfl)
    (hv : Vis X.env.scope x := by first | exact Or.inl rfl | exact Or.inr (Or.inl rfl) | exact Or.inr (Or.inr rfl)) (hg : Gl X "len" := by rfl) (hd : (x == ("__debug__" : Str)) = false := by decide) (hcd : (x == ("__classdict__" : Str)) = false := by decide)
    (he : starEach [.Name x px] X.env = (false, eval (.Name x px) X.env) :: starEach [] X.env := by exact se_pl rfl) (hpl : (backTo pos (starEach [] X.env)).any (·.1) = false := by exact se_any rfl) : ZE X (.Call (.Name "len" p) [.Name x px] [] pos) σ F O (eI (xs.length : Nat)) O :=
  ze_eq (ze_lenO n m hm hσ hO hr hN hv hg hd hcd he hpl) (by rw [List.length_map])
theorem zn_catt {α : Type} {enc : α → PyData} {xs ys : List α} (ha : ZE X a σ F O (eL enc xs) O1) (hb : ZE X b σ F O1 (eL enc ys) O2) (h : xs.length + ys.length ≤ sizeLine) : ZN X (.BinOp a .Add b pos) σ F O ((xs ++ ys).map enc) O2 :=
  zn_eq (zn_cat ha hb (by rw [List.length_map, List.length_map]; exact h)) (List.map_append).symm
theorem zt_trLt {α : Type} {enc : α → PyData} {xs : List α} (h : ZE X e σ F O (eL enc xs) O1) (he : ∀ whole, isTrue e X.env whole = (do let v ← whole; standAt e.pos; holding [v] (truthy v)) := by intro _; rfl) : ZT X e σ F O (!xs.isEmpty) O1 := zt_eq (zt_trL h he) (by rw [List.isEmpty_map])
theorem zt_trOt {α : Type} {enc : α → PyData} {xs : List α} (n m : Nat) {x : Str} {p : Addr} {vs : List V} (hσ : σ[n]? = some (some (.ref p))) (hO : O[m]? = some (p, .lst vs)) (hr : RA X.K F vs (xs.map enc)) (hN : X.N[n]? = some x := by rfl)
    (hv : Vis X.env.scope x := by first | exact Or.inl rfl | exact Or.inr (Or.inl rfl) | exact Or.inr (Or.inr rfl)) (hd : (x == ("__debug__" : Str)) = false := by decide) (hcd : (x == ("__classdict__" : Str)) = false := by decide)
    (he : ∀ whole, isTrue (.Name x pos) X.env whole = (do let v ← whole; standAt (Expr.Name x pos).pos; holding [v] (truthy v)) := by intro _; rfl) : ZT X (.Name x pos) σ F O (!xs.isEmpty) O := zt_eq (zt_trO n m hσ hO hr hN hv hd hcd he) (by rw [List.isEmpty_map])

/-! ### comprehensions over names, typed -/
variable {scope : Scope} {ifs : List Expr} {x y : Str} {px py spos : Pos} {n : Nat} {α β γ : Type} {enc : α → PyData} {encR : γ → PyData} {xs : List α}
theorem zn_lcM {f0 : α → γ} (hc : X.calm = true) (hN : X.N.Nodup) (hi : ZI X (.Name x px) iter σ F O (xs.map enc) O1) (he : ∀ s H0 C cl fp a v F', a ∈ xs → Gr F F' → R X.K F' v (enc a) → ZE (blkX X scope s H0 C cl fp) elt (σ.set n (some v)) F' O1 (encR (f0 a)) O1)
    (ok : BlkOk X.N X.env.scope scope [(x, n)]) (hg : ∀ s H C cl fp, PG (blkX X scope s H C cl fp) (.Name x px) (gName n)) (hs : ∀ x, foldedSetIterable iter X.env x = pure x := by intro _; rfl) :
    ZN X (.ListComp elt [⟨.Name x px, iter, [], 0⟩] scope pos) σ F O ((xs.map f0).map encR) O1 :=
  zn_eq (zn_lc1 hc hN hi (blk_map he) ok hg hs) (by rw [runS_map])
theorem zn_lcF {f0 : α → γ} {pr : α → Bool} {c : Expr} (hc : X.calm = true) (hN : X.N.Nodup) (hi : ZI X (.Name x px) iter σ F O (xs.map enc) O1) (ht : ∀ s H0 C cl fp a v F', a ∈ xs → Gr F F' → R X.K F' v (enc a) → ZT (blkX X scope s H0 C cl fp) c (σ.set n (some v)) F' O1 (pr a) O1)
    (he : ∀ s H0 C cl fp a v F', a ∈ xs → pr a = true → Gr F F' → R X.K F' v (enc a) → ZE (blkX X scope s H0 C cl fp) elt (σ.set n (some v)) F' O1 (encR (f0 a)) O1)
    (ok : BlkOk X.N X.env.scope scope [(x, n)]) (hg : ∀ s H C cl fp, PG (blkX X scope s H C cl fp) (.Name x px) (gName n)) (hs : ∀ x, foldedSetIterable iter X.env x = pure x := by intro _; rfl) :
    ZN X (.ListComp elt [⟨.Name x px, iter, [c], 0⟩] scope pos) σ F O (((xs.filter pr).map f0).map encR) O1 :=
  zn_eq (zn_lc1 hc hN hi (blk_filter ht he) ok hg hs) (by rw [runS_filter])
theorem zn_lcS {G : β → Own} {st0 : β} {f0 : β → α → γ × β} (hc : X.calm = true) (hN : X.N.Nodup) (hi : ZI X (.Name x px) iter σ F O (xs.map enc) (G st0)) (he : ∀ s H0 C cl fp st a v F', a ∈ xs → Gr F F' → R X.K F' v (enc a) → ZE (blkX X scope s H0 C cl fp) elt (σ.set n (some v)) F' (G st) (encR (f0 st a).1) (G (f0 st a).2))
    (ok : BlkOk X.N X.env.scope scope [(x, n)]) (hg : ∀ s H C cl fp, PG (blkX X scope s H C cl fp) (.Name x px) (gName n)) (hs : ∀ x, foldedSetIterable iter X.env x = pure x := by intro _; rfl) :
    ZN X (.ListComp elt [⟨.Name x px, iter, [], 0⟩] scope pos) σ F O ((mapS f0 st0 xs).1.map encR) (G (mapS f0 st0 xs).2) := by
  have h := zn_lc1 (pos := pos) hc hN hi (blk_state he) ok hg hs
  rw [runS_state] at h
  exact h
variable {i0 : Nat} {rest : List Stmt} {D : Ends}
theorem zs_setLcM (w : WOk F O H) {f0 : α → γ} (hc : X.calm = true) (hN : X.N.Nodup) (hi : ZI X (.Name x px) iter σ F O (xs.map enc) O1) (he : ∀ s H0 C cl fp a v F', a ∈ xs → Gr F F' → R X.K F' v (enc a) → ZE (blkX X scope s H0 C cl fp) elt (σ.set n (some v)) F' O1 (encR (f0 a)) O1)
    (ok : BlkOk X.N X.env.scope scope [(x, n)]) (hg : ∀ s H C cl fp, PG (blkX X scope s H C cl fp) (.Name x px) (gName n)) (hy : X.N[i0]? = some y) (hyl : X.env.scope.names.lookup y = some .local)
    (hsw : swapsWith (.ListComp elt [⟨.Name x px, iter, [], 0⟩] scope pos) (some (.Name y py)) spos.line X.env = pure true)
    (kk : ∀ p us F1 H1, H p = none → Stp F O H F1 ((p, .lst us) :: O1) H1 → RA X.K F1 us ((xs.map f0).map encR) → ZS X rest (σ.set i0 (some (.ref p))) H1 D) (hs : ∀ x, foldedSetIterable iter X.env x = pure x := by intro _; rfl) :
    ZS X (.Assign [.Name y py] (.ListComp elt [⟨.Name x px, iter, [], 0⟩] scope pos) spos :: rest) σ H D :=
  zs_setLc1 w hc hN hi (blk_map he) ok hg hy hyl (fun p us F1 H1 hp s r => kk p us F1 H1 hp s (by rw [runS_map] at r; exact r)) hsw hs
theorem zs_setLcF (w : WOk F O H) {f0 : α → γ} {pr : α → Bool} {c : Expr} (hc : X.calm = true) (hN : X.N.Nodup) (hi : ZI X (.Name x px) iter σ F O (xs.map enc) O1) (ht : ∀ s H0 C cl fp a v F', a ∈ xs → Gr F F' → R X.K F' v (enc a) → ZT (blkX X scope s H0 C cl fp) c (σ.set n (some v)) F' O1 (pr a) O1)
    (he : ∀ s H0 C cl fp a v F', a ∈ xs → pr a = true → Gr F F' → R X.K F' v (enc a) → ZE (blkX X scope s H0 C cl fp) elt (σ.set n (some v)) F' O1 (encR (f0 a)) O1)
    (ok : BlkOk X.N X.env.scope scope [(x, n)]) (hg : ∀ s H C cl fp, PG (blkX X scope s H C cl fp) (.Name x px) (gName n)) (hy : X.N[i0]? = some y) (hyl : X.env.scope.names.lookup y = some .local)
    (hsw : swapsWith (.ListComp elt [⟨.Name x px, iter, [c], 0⟩] scope pos) (some (.Name y py)) spos.line X.env = pure true)
    (kk : ∀ p us F1 H1, H p = none → Stp F O H F1 ((p, .lst us) :: O1) H1 → RA X.K F1 us (((xs.filter pr).map f0).map encR) → ZS X rest (σ.set i0 (some (.ref p))) H1 D) (hs : ∀ x, foldedSetIterable iter X.env x = pure x := by intro _; rfl) :
    ZS X (.Assign [.Name y py] (.ListComp elt [⟨.Name x px, iter, [c], 0⟩] scope pos) spos :: rest) σ H D :=
  zs_setLc1 w hc hN hi (blk_filter ht he) ok hg hy hyl (fun p us F1 H1 hp s r => kk p us F1 H1 hp s (by rw [runS_filter] at r; exact r)) hsw hs
theorem zs_setLcS (w : WOk F O H) {G : β → Own} {st0 : β} {f0 : β → α → γ × β} (hc : X.calm = true) (hN : X.N.Nodup) (hi : ZI X (.Name x px) iter σ F O (xs.map enc) (G st0)) (he : ∀ s H0 C cl fp st a v F', a ∈ xs → Gr F F' → R X.K F' v (enc a) → ZE (blkX X scope s H0 C cl fp) elt (σ.set n (some v)) F' (G st) (encR (f0 st a).1) (G (f0 st a).2))
    (ok : BlkOk X.N X.env.scope scope [(x, n)]) (hg : ∀ s H C cl fp, PG (blkX X scope s H C cl fp) (.Name x px) (gName n)) (hy : X.N[i0]? = some y) (hyl : X.env.scope.names.lookup y = some .local)
    (hsw : swapsWith (.ListComp elt [⟨.Name x px, iter, [], 0⟩] scope pos) (some (.Name y py)) spos.line X.env = pure true)
    (kk : ∀ p us F1 H1, H p = none → Stp F O H F1 ((p, .lst us) :: G (mapS f0 st0 xs).2) H1 → RA X.K F1 us ((mapS f0 st0 xs).1.map encR) → ZS X rest (σ.set i0 (some (.ref p))) H1 D) (hs : ∀ x, foldedSetIterable iter X.env x = pure x := by intro _; rfl) :
    ZS X (.Assign [.Name y py] (.ListComp elt [⟨.Name x px, iter, [], 0⟩] scope pos) spos :: rest) σ H D :=
  zs_setLc1 w hc hN hi (blk_state he) ok hg hy hyl (fun p us F1 H1 hp s r => kk p us F1 H1 hp (by rw [runS_state] at s; exact s) (by rw [runS_state] at r; exact r)) hsw hs

/-! ### typed loops -/
/-- a loop without an early end: a fold -/
theorem zs_forF (w : WOk F O H) {body : List Stmt} {f : β → α → β} {b0 : β} (hp : PassesOwn (model X.prog X.w) X.A X.env X.xe) (hc : X.calm = true) (hi : ZI X tg iter σ F O (xs.map enc) O1) (Rel : Nat → β → L2.St → Hp → Own → Prop)
    (h0 : ∀ F1 H1, Stp F O H F1 O1 H1 → Rel 0 b0 σ F1 O1)
    (hb : ∀ i b a v σ' F0 F' O' H', xs[i]? = some a → b = (xs.take i).foldl f b0 → xs.length ≤ sizeLine → Rel i b σ' F0 O' → Gr F0 F' → Stp F O H F' O' H' → R X.K F' v (enc a) → wG X tg v σ' H' fun σ2 H2 => ZS X body σ2 H2 (turnEnds D F' O' H' (Rel (i + 1) (f b a)) fun _ _ => False))
    (hd : ∀ σ' F' O' H', Stp F O H F' O' H' → Rel xs.length (xs.foldl f b0) σ' F' O' → ZS X rest σ' H' D)
    (hs : ∀ x, foldedSetIterable iter X.env x = pure x := by intro _; rfl) : ZS X (.For tg iter body [] pos :: rest) σ H D := by
  refine zs_for w hp hc hi (fun i σ' F' O' => Rel i ((xs.take i).foldl f b0) σ' F' O') (fun F1 H1 s => h0 F1 H1 s) (fun i d x σ' F0 F' O' H' hd hz rel g st r => ?_) (fun σ' F' O' H' st rel => hd σ' F' O' H' st (by rw [List.length_map, List.take_length] at rel; exact rel)) hs
  rw [List.getElem?_map] at hd
  cases ha : xs[i]? with
  | none => rw [ha] at hd; cases hd
  | some a =>
    rw [ha] at hd; cases hd
    have e1 : (xs.take (i + 1)).foldl f b0 = f ((xs.take i).foldl f b0) a := by
      rw [List.take_add_one, ha, List.foldl_append]; rfl
    rw [List.length_map] at hz
    refine wG_mono (hb i _ a x σ' F0 F' O' H' ha rfl hz rel g st r) fun σ2 H2 q => wSs_mono q (fun σ3 H3 ⟨F3, O3, s3, r3⟩ => ⟨F3, O3, s3, by rw [e1]; exact r3⟩) (fun _ _ q => q) (fun _ _ q => q.elim) (fun σ3 H3 ⟨F3, O3, s3, r3⟩ => ⟨F3, O3, s3, by rw [e1]; exact r3⟩)
/-- a turn's outcome: on, out by break, out by return -/
inductive Turn (β ρ : Type) where
  | nx (b : β) | bk (b : β) | rt (r : ρ)
inductive Out (β ρ : Type) where
  | nx (b : β) | rt (r : ρ)
def loopT {α β ρ : Type} (f : β → α → Turn β ρ) : β → List α → Out β ρ
  | b, [] => .nx b
  | b, x :: xs => match f b x with
    | .nx b' => loopT f b' xs
    | .bk b' => .nx b'
    | .rt r => .rt r
theorem loopT_nx {α β ρ : Type} {f : β → α → Turn β ρ} {b b' : β} {x : α} {xs : List α} (h : f b x = .nx b') : loopT f b (x :: xs) = loopT f b' xs := by
  show (match f b x with | .nx b' => _ | .bk b' => _ | .rt r => _) = _
  rw [h]
theorem loopT_bk {α β ρ : Type} {f : β → α → Turn β ρ} {b b' : β} {x : α} {xs : List α} (h : f b x = .bk b') : loopT f b (x :: xs) = .nx b' := by
  show (match f b x with | .nx b' => _ | .bk b' => _ | .rt r => _) = _
  rw [h]
theorem loopT_rt {α β ρ : Type} {f : β → α → Turn β ρ} {b : β} {r : ρ} {x : α} {xs : List α} (h : f b x = .rt r) : loopT f b (x :: xs) = .rt r := by
  show (match f b x with | .nx b' => _ | .bk b' => _ | .rt r => _) = _
  rw [h]
theorem zs_forT (w : WOk F O H) {body : List Stmt} {ρ : Type} {f : β → α → Turn β ρ} {b0 : β} (hp : PassesOwn (model X.prog X.w) X.A X.env X.xe) (hc : X.calm = true) (hi : ZI X tg iter σ F O (xs.map enc) O1) (Rel : Nat → β → L2.St → Hp → Own → Prop)
    (h0 : ∀ F1 H1, Stp F O H F1 O1 H1 → Rel 0 b0 σ F1 O1)
    (hb : ∀ i b a v σ' F0 F' O' H', xs[i]? = some a → loopT f b0 xs = loopT f b (a :: xs.drop (i + 1)) → xs.length ≤ sizeLine → Rel i b σ' F0 O' → Gr F0 F' → Stp F O H F' O' H' → R X.K F' v (enc a) → wG X tg v σ' H' fun σ2 H2 => ZS X body σ2 H2
      { nx := fun σ3 H3 => ∃ b' F3 O3, f b a = .nx b' ∧ Stp F' O' H' F3 O3 H3 ∧ Rel (i + 1) b' σ3 F3 O3, rt := D.rt, bk := fun σ3 H3 => ∃ b' j F3 O3, f b a = .bk b' ∧ Stp F' O' H' F3 O3 H3 ∧ Rel j b' σ3 F3 O3, ct := fun σ3 H3 => ∃ b' F3 O3, f b a = .nx b' ∧ Stp F' O' H' F3 O3 H3 ∧ Rel (i + 1) b' σ3 F3 O3 })
    (hd : ∀ j b' σ' F' O' H', loopT f b0 xs = .nx b' → Stp F O H F' O' H' → Rel j b' σ' F' O' → ZS X rest σ' H' D)
    (hs : ∀ x, foldedSetIterable iter X.env x = pure x := by intro _; rfl) : ZS X (.For tg iter body [] pos :: rest) σ H D := by
  refine zs_for w hp hc hi (fun i σ' F' O' => ∃ b, loopT f b0 xs = loopT f b (xs.drop i) ∧ Rel i b σ' F' O') (fun F1 H1 s => ⟨b0, rfl, h0 F1 H1 s⟩) (fun i d x σ' F0 F' O' H' hd' hz ⟨b, e, rel⟩ g st r => ?_) (fun σ' F' O' H' st ⟨b, e, rel⟩ => hd _ b σ' F' O' H' ?_ st rel) hs
  · rw [List.getElem?_map] at hd'
    cases ha : xs[i]? with
    | none => rw [ha] at hd'; cases hd'
    | some a =>
      rw [ha] at hd'; cases hd'
      obtain ⟨hi', ea⟩ := List.getElem?_eq_some_iff.mp ha
      have e1 : xs.drop i = a :: xs.drop (i + 1) := by rw [List.drop_eq_getElem_cons hi', ea]
      rw [e1] at e
      rw [List.length_map] at hz
      have onn : ∀ σ3 H3, (∃ b' F3 O3, f b a = .nx b' ∧ Stp F' O' H' F3 O3 H3 ∧ Rel (i + 1) b' σ3 F3 O3) → ∃ F3 O3, Stp F' O' H' F3 O3 H3 ∧ ∃ b, loopT f b0 xs = loopT f b (xs.drop (i + 1)) ∧ Rel (i + 1) b σ3 F3 O3 := fun σ3 H3 ⟨b', F3, O3, hf, s3, r3⟩ => ⟨F3, O3, s3, b', e.trans (loopT_nx hf), r3⟩
      refine wG_mono (hb i b a x σ' F0 F' O' H' ha e hz rel g st r) fun σ2 H2 q => wSs_mono q onn (fun _ _ q => q) (fun σ3 H3 ⟨b', j, F3, O3, hf, s3, r3⟩ => hd j b' σ3 F3 O3 H3 (e.trans (loopT_bk hf)) (st.trans s3) r3) onn
  · rw [e, List.length_map, List.drop_length]; rfl
def outE {β ρ τ : Type} (o : Out β ρ) (f : β → τ) (g : ρ → τ) : τ := match o with
  | .nx b => f b
  | .rt r => g r
theorem outE_nx {β ρ τ : Type} {o : Out β ρ} {f : β → τ} {g : ρ → τ} {b : β} (h : o = .nx b) : outE o f g = f b := by rw [h]; rfl
theorem outE_rt {β ρ τ : Type} {o : Out β ρ} {f : β → τ} {g : ρ → τ} {r : ρ} (h : o = .rt r) : outE o f g = g r := by rw [h]; rfl
/-- the joining of two ways -/
theorem zs_ifJ (w : WOk F O H) {body els : List Stmt} (hc : ZT X c σ F O k O1) (J : L2.St → Hp → Prop) (h1 : k = true → ∀ F1 H1, Stp F O H F1 O1 H1 → ZS X body σ H1 { D with nx := J }) (h2 : k = false → ∀ F1 H1, Stp F O H F1 O1 H1 → ZS X els σ H1 { D with nx := J })
    (h3 : ∀ σ' H', J σ' H' → ZS X rest σ' H' D) : ZS X (.If c body els pos :: rest) σ H D :=
  zs_if w hc (fun hk F1 H1 s => wSs_mono (h1 hk F1 H1 s) (fun σ' H' q => h3 σ' H' q) (fun _ _ q => q) (fun _ _ q => q) (fun _ _ q => q)) (fun hk F1 H1 s => wSs_mono (h2 hk F1 H1 s) (fun σ' H' q => h3 σ' H' q) (fun _ _ q => q) (fun _ _ q => q) (fun _ _ q => q))
theorem cond_t {α : Type} {c : Bool} {a b : α} (h : c = true) : cond c a b = a := by rw [h]; rfl
theorem cond_f {α : Type} {c : Bool} {a b : α} (h : c = false) : cond c a b = b := by rw [h]; rfl
end
theorem keys_erase : ∀ (O : Own) (m : Nat), keys (O.eraseIdx m) = (keys O).eraseIdx m
  | [], _ => rfl
  | _ :: _, 0 => rfl
  | q :: O, m + 1 => congrArg (q.1 :: ·) (keys_erase O m)
/-- what is mine at place m, made behind the start, becomes what stays -/
theorem Stp.freezeAt {F F' H H' : Hp} {O O' : Own} {p : Addr} {o : HO} (m : Nat) (x : Stp F O H F' O' H') (hm : O'[m]? = some (p, o)) (h : H p = none) : Stp F O H (upd F' p o) (O'.eraseIdx m) H' := by
  have hk : keys (O'.eraseIdx m) = (keys O').eraseIdx m := keys_erase O' m
  have nd := x.ok.nd
  have hkm : (keys O')[m]? = some p := by unfold keys; rw [List.getElem?_map, hm]; rfl
  have hne : ∀ q ∈ O'.eraseIdx m, q.1 ≠ p := fun q hq e => by
    have h1 : p ∈ keys (O'.eraseIdx m) := List.mem_map.mpr ⟨q, hq, e⟩
    rw [hk] at h1
    obtain ⟨i, hi, h2⟩ := List.mem_eraseIdx_iff_getElem?.mp h1
    obtain ⟨l1, g1⟩ := List.getElem?_eq_some_iff.mp hkm
    obtain ⟨l2, g2⟩ := List.getElem?_eq_some_iff.mp h2
    exact hi ((List.getElem_inj nd).mp (g2.trans g1.symm))
  have hsub : ∀ q ∈ O'.eraseIdx m, q ∈ O' := fun q hq => List.mem_of_mem_eraseIdx hq
  have hp := x.ok.at_ hm
  refine ⟨⟨fun b u e => ?_, fun q hq => ?_, ?_, fun b xs e => ?_, fun q hq => x.ok.szo q (hsub q hq)⟩, fun b u e => ?_, x.keep, fun b u e => ?_, fun b hb => x.ky b ?_, x.dom⟩
  · by_cases hb : b = p
    · subst hb; rw [upd_same] at e; cases e; exact hp.1
    · rw [upd_ne hb] at e; exact x.ok.sub b u e
  · have hq' := x.ok.own q (hsub q hq)
    rw [upd_ne (hne q hq)]; exact hq'
  · rw [hk]; exact (List.eraseIdx_sublist _ _).nodup nd
  · by_cases hb : b = p
    · subst hb
      rw [upd_same] at e; cases e
      exact x.ok.szo (b, .lst xs) (List.mem_of_getElem? hm) xs rfl
    · rw [upd_ne hb] at e; exact x.ok.sz b xs e
  · have g := x.gr b u e
    rw [upd_ne (ne_of_none g hp.2)]; exact g
  · by_cases hb : b = p
    · subst hb; exact .inr h
    · rw [upd_ne hb] at e; exact x.fr b u e
  · obtain ⟨q, hq, rfl⟩ := List.mem_map.mp hb
    exact List.mem_map.mpr ⟨q, hsub q hq, rfl⟩
theorem Stp.dropAt {F F' H H' : Hp} {O O' : Own} (m : Nat) (x : Stp F O H F' O' H') : Stp F O H F' (O'.eraseIdx m) H' := by
  have hk : keys (O'.eraseIdx m) = (keys O').eraseIdx m := keys_erase O' m
  have hsub : ∀ q ∈ O'.eraseIdx m, q ∈ O' := fun q hq => List.mem_of_mem_eraseIdx hq
  refine ⟨⟨x.ok.sub, fun q hq => x.ok.own q (hsub q hq), by rw [hk]; exact (List.eraseIdx_sublist _ _).nodup x.ok.nd, x.ok.sz, fun q hq => x.ok.szo q (hsub q hq)⟩, x.gr, x.keep, x.fr, fun b hb => x.ky b ?_, x.dom⟩
  obtain ⟨q, hq, rfl⟩ := List.mem_map.mp hb
  exact List.mem_map.mpr ⟨q, hsub q hq, rfl⟩
theorem Stp.newAt {F F' H H' : Hp} {O O' : Own} (x : Stp F O H F' O' H') {p : Addr} (h : H' p = none) : H p = none := by
  cases z : H p with
  | none => rfl
  | some u => exact absurd h (x.dom p (by rw [z]; simp))
end Z

end
section
namespace Z
open PySem PySem.Spec PyProof.Rows L2

/-! ### the store of draws -/
structure Sto where
  ix : Nat
  dig : Nat
  step : Nat
  seed : Int
def stoL (c : V) (s : Sto) : List V := [c, .int s.ix, .int s.dig, .int s.step, .int s.seed]
abbrev stoO (a : Addr) (c : V) (s : Sto) : Addr × HO := (a, .lst (stoL c s))
def stoD (cs : List Int) (s : Sto) : List PyData := [eL eI cs, eI s.ix, eI s.dig, eI s.step, eI s.seed]
theorem sto_ra {K : PySem.W.Frag} {F : Hp} {c : V} {cs : List Int} {s : Sto} (h : R K F c (eL eI cs)) : RA K F (stoL c s) (stoD cs s) := .cons h (.cons (.int _) (.cons (.int _) (.cons (.int _) (.cons (.int _) .nil))))
/-- data in, the store turned, data out -/
def spS (K : PySem.W.Frag) (A : List Int → Sto → List PyData → PyData → Sto → Prop) : Sp := fun vs H Q _ => ∃ (F : Hp) (a : Addr) (c : V) (cs : List Int) (s : Sto) (ws : List V) (ds : List PyData) (r : PyData) (s' : Sto),
  vs = .ref a :: ws ∧ WOk F [stoO a c s] H ∧ R K F c (eL eI cs) ∧ RA K F ws ds ∧ A cs s ds r s' ∧ ∀ v F' H', Stp F [stoO a c s] H F' [stoO a c s'] H' → R K F' v r → Q v H'
section
variable {X : Cx} {e a b c tg iter elt : Expr} {es : List Expr} {σ : L2.St} {F H : Hp} {O O1 O2 O3 : Own} {d da db : PyData} {ds rs : List PyData} {pos p : Pos} {i j : Int} {k k1 k2 : Bool} {x : Str} {n : Nat} {ps : List Str}
theorem ze_callS {A : List Int → Sto → List PyData → PyData → Sto → Prop} {cs : List Int} {s s' : Sto} {q : Addr} {cv : V} {sx : Str} {sp : Pos} (l m : Nat) (G : Fn X.prog X.w X.K X.mg X.base n x ps (spS X.K A)) (hr : Room n X.A) (hσ : σ[l]? = some (some (.ref q))) (hc : R X.K F cv (eL eI cs)) (ha : ZA X es σ F O ds O1) (hO : O1[m]? = some (stoO q cv s)) (hA : A cs s ds d s')
    (hN : X.N[l]? = some sx := by rfl) (hv : Vis X.env.scope sx := by first | exact Or.inl rfl | exact Or.inr (Or.inl rfl) | exact Or.inr (Or.inr rfl)) (hg : Gl X x := by rfl) (hdb : (x == ("__debug__" : Str)) = false := by decide) (hd : (sx == ("__debug__" : Str)) = false := by decide) (hcd : (sx == ("__classdict__" : Str)) = false := by decide)
    (he : starEach (.Name sx sp :: es) X.env = (false, eval (.Name sx sp) X.env) :: starEach es X.env := by exact se_pl rfl) (hpl : (backTo pos (starEach es X.env)).any (·.1) = false := by exact se_any rfl) : ZE X (.Call (.Name x p) (.Name sx sp :: es) [] pos) σ F O d (O1.set m (stoO q cv s')) := fun F1 H g w Q qq => by
  obtain ⟨f, fd, G, hm, hk, hb⟩ := G.ex
  refine wE_of (pe_call G hr hg hm hk hb .nil (E := E0) pass0 (pa_cons (pe_var hN hv hd hcd) pa_w he) hdb he hpl) ⟨_, hσ, ha F1 H g w _ fun vs F2 H2 s1 r1 => ?_⟩
  show spS X.K A ((V.ref q :: vs) ++ []) H2 Q E0
  rw [List.append_nil]
  exact ⟨F2, q, cv, cs, s, vs, ds, d, s', rfl, s1.ok.one hO, hc.mono (g.trans s1.gr), r1, hA, fun v F' H' s2 r2 => qq _ _ _ (s1.trans (Stp.moreAt s1.ok hO s2)) r2⟩

/-! ### more built-ins -/
theorem ze_abs (hm : X.mg "abs" = none) (ha : ZE X e σ F O (.int i) O1) (hg : Gl X "abs" := by rfl) (he : starEach [e] X.env = (false, eval e X.env) :: starEach [] X.env := by exact se_pl rfl) (hpl : (backTo pos (starEach [] X.env)).any (·.1) = false := by exact se_any rfl) : ZE X (.Call (.Name "abs" p) [e] [] pos) σ F O (eI (i.natAbs : Nat)) O1 :=
  ze_callB call_abs hm (by decide +kernel) (za_cons ha za_nil he) (fun F1 H1 vs _ w r Q q => by
    obtain ⟨v, rfl, r1⟩ := r.one
    refine ⟨i, by rw [r1.int_inv], q _ _ _ (Stp.refl w) ?_⟩
    have e1 : (if i < 0 then -i else i) = ((i.natAbs : Nat) : Int) := by split <;> omega
    rw [e1]
    exact .int _) hg (by decide) (by decide) he hpl
theorem ze_fdivW (ha : ZE X a σ F O (.int i) O1) (hb : ZE X b σ F O1 (.int j) O2) (h : 0 < j) (h2 : j < 2 ^ 64) : ZE X (.BinOp a .FloorDiv b pos) σ F O (.int (i / j)) O2 := ze_opC op_fdivW (wide_div (b := 64) h (by omega) (by decide) (by decide)) ha hb
theorem ze_mulR (ha : ZE X a σ F O (.int i) O1) (hb : ZE X b σ F O1 (.int j) O2) (h : -(2 ^ 64) < j ∧ j < 2 ^ 64) : ZE X (.BinOp a .Mult b pos) σ F O (.int (i * j)) O2 := ze_mul ha hb (.inr h)
theorem ze_mulL (ha : ZE X a σ F O (.int i) O1) (hb : ZE X b σ F O1 (.int j) O2) (h : -(2 ^ 64) < i ∧ i < 2 ^ 64) : ZE X (.BinOp a .Mult b pos) σ F O (.int (i * j)) O2 := ze_mul ha hb (.inl h)
/-- the script, as it lies -/
theorem walks_sqL {K : PySem.W.Frag} {F : Hp} {a : Addr} {xs : List V} {ds : List PyData} (e : SqL K F a xs) (r : RA K F xs ds) (hz : ds.length ≤ sizeLine) : Walks K (Itl K a) F ds where
  sz := hz
  go := fun F3 O3 H3 g w i hi => ⟨xs, xs[i]'(by rw [r.len]; exact hi), w.sub.sqL (g.sqL e), List.getElem?_eq_getElem _⟩
  stop := fun F3 O3 H3 g w i hi => ⟨xs, w.sub.sqL (g.sqL e), by rw [r.len]; exact hi⟩
  yld := fun F3 O3 H3 g w i x H' d hd y => by
    obtain ⟨rfl, y⟩ := y
    have hx := y xs (w.sub.sqL (g.sqL e))
    exact ⟨F3, Stp.refl w, (r.at_ i x d hx hd).mono g⟩
theorem ra_ints {K : PySem.W.Frag} {F : Hp} : ∀ ns : List Int, RA K F (ns.map V.int) (ns.map PyData.int)
  | [] => .nil
  | n :: ns => .cons (.int n) (ra_ints ns)
theorem ints_ra {K : PySem.W.Frag} {F : Hp} : ∀ {ns : List Int} {vs : List V}, RA K F vs (ns.map PyData.int) → vs = ns.map V.int
  | [], vs, h => h.nil_inv
  | n :: ns, vs, h => by
    obtain ⟨v, ws, rfl, r, t⟩ := RA.cons_inv h
    rw [r.int_inv, ints_ra t]; rfl
theorem strs_ra {K : PySem.W.Frag} {F : Hp} : ∀ {ns : List Str} {vs : List V}, RA K F vs (ns.map PyData.str) → vs = ns.map V.str
  | [], vs, h => h.nil_inv
  | n :: ns, vs, h => by
    obtain ⟨v, ws, rfl, r, t⟩ := RA.cons_inv h
    rw [r.str_inv, strs_ra t]; rfl
theorem zi_sqL {q : Addr} {xs : List V} {y : Str} {py : Pos} (hσ : σ[n]? = some (some (.ref q))) (hq : SqL X.K F q xs) (r : RA X.K F xs ds) (hz : ds.length ≤ sizeLine) (hN : X.N[n]? = some y := by rfl) (hv : Vis X.env.scope y := by first | exact Or.inl rfl | exact Or.inr (Or.inl rfl) | exact Or.inr (Or.inr rfl))
    (hd : (y == ("__debug__" : Str)) = false := by decide) (hcd : (y == ("__classdict__" : Str)) = false := by decide) : ZI X tg (.Name y py) σ F O ds O := fun F1 H g w Q qq =>
  wI_of (pi_list (pe_var hN hv hd hcd)) ⟨_, hσ, q, rfl, ⟨xs, w.sub.sqL (g.sqL hq)⟩, qq _ _ _ (Stp.refl w) (walks_sqL (g.sqL hq) (r.mono g) hz)⟩

/-! ### in -/
theorem inV_int (i : Int) : ∀ ns : List Int, inV (.int i) (ns.map V.int) = decide (i ∈ ns)
  | [] => by simp [inV]
  | n :: ns => by
    have ih := inV_int i ns
    unfold inV at ih ⊢
    rw [List.map_cons, List.any_cons, ih]
    show (n == i || decide (i ∈ ns)) = _
    rw [Bool.eq_iff_iff, Bool.or_eq_true, beq_iff_eq, decide_eq_true_iff, decide_eq_true_iff, List.mem_cons]
    exact or_congr_left eq_comm
theorem inV_str (i : Str) : ∀ ns : List Str, inV (.str i) (ns.map V.str) = decide (i ∈ ns)
  | [] => by simp [inV]
  | n :: ns => by
    have ih := inV_str i ns
    unfold inV at ih ⊢
    rw [List.map_cons, List.any_cons, ih]
    show (n == i || decide (i ∈ ns)) = _
    rw [Bool.eq_iff_iff, Bool.or_eq_true, beq_iff_eq, decide_eq_true_iff, decide_eq_true_iff, List.mem_cons]
    exact or_congr_left eq_comm
theorem all_flat_int : ∀ ns : List Int, (ns.map V.int).all flatV = true
  | [] => rfl
  | n :: ns => by rw [List.map_cons, List.all_cons, all_flat_int ns]; rfl
theorem all_flat_str : ∀ ns : List Str, (ns.map V.str).all flatV = true
  | [] => rfl
  | n :: ns => by rw [List.map_cons, List.all_cons, all_flat_str ns]; rfl
theorem cm_inI {ns : List Int} : CmpR X .In F O (.int i) (eL eI ns) (decide (i ∈ ns)) := ⟨_, op_in_seq, fun _ _ _ _ _ w r1 r2 Q q => by
  obtain ⟨l, xs, rfl, e1, a1⟩ := r2.lst_inv
  have ex := ints_ra a1
  subst ex
  rw [r1.int_inv]
  exact ⟨l, _, rfl, .inl (.inl (.inl (w.sub _ _ e1))), rfl, all_flat_int ns, by show Q (V.bl (if false = true then _ else _)) _; rw [if_neg (by decide), inV_int]; exact q⟩⟩
theorem cm_ninI {ns : List Int} : CmpR X .NotIn F O (.int i) (eL eI ns) (!decide (i ∈ ns)) := ⟨_, op_notIn_seq, fun _ _ _ _ _ w r1 r2 Q q => by
  obtain ⟨l, xs, rfl, e1, a1⟩ := r2.lst_inv
  have ex := ints_ra a1
  subst ex
  rw [r1.int_inv]
  exact ⟨l, _, rfl, .inl (.inl (.inl (w.sub _ _ e1))), rfl, all_flat_int ns, by show Q (V.bl (if true = true then _ else _)) _; rw [if_pos rfl, inV_int]; exact q⟩⟩
theorem cm_inS {y : Str} {ns : List Str} : CmpR X .In F O (.str y) (eL eS ns) (decide (y ∈ ns)) := ⟨_, op_in_seq, fun _ _ _ _ _ w r1 r2 Q q => by
  obtain ⟨l, xs, rfl, e1, a1⟩ := r2.lst_inv
  have ex := strs_ra a1
  subst ex
  rw [r1.str_inv]
  exact ⟨l, _, rfl, .inl (.inl (.inl (w.sub _ _ e1))), rfl, all_flat_str ns, by show Q (V.bl (if false = true then _ else _)) _; rw [if_neg (by decide), inV_str]; exact q⟩⟩
theorem cm_ninS {y : Str} {ns : List Str} : CmpR X .NotIn F O (.str y) (eL eS ns) (!decide (y ∈ ns)) := ⟨_, op_notIn_seq, fun _ _ _ _ _ w r1 r2 Q q => by
  obtain ⟨l, xs, rfl, e1, a1⟩ := r2.lst_inv
  have ex := strs_ra a1
  subst ex
  rw [r1.str_inv]
  exact ⟨l, _, rfl, .inl (.inl (.inl (w.sub _ _ e1))), rfl, all_flat_str ns, by show Q (V.bl (if true = true then _ else _)) _; rw [if_pos rfl, inV_str]; exact q⟩⟩
theorem cm_inTS {y : Str} {ns : List Str} : CmpR X .In F O (.str y) (eTL eS ns) (decide (y ∈ ns)) := ⟨_, op_in_seq, fun _ _ _ _ _ w r1 r2 Q q => by
  obtain ⟨l, xs, rfl, e1, a1⟩ := r2.tup_inv
  have ex := strs_ra a1
  subst ex
  rw [r1.str_inv]
  exact ⟨l, _, rfl, .inr (w.sub.sqT e1), rfl, all_flat_str ns, by show Q (V.bl (if false = true then _ else _)) _; rw [if_neg (by decide), inV_str]; exact q⟩⟩
/-! ### sorted of ints -/
def sortI (xs : List Int) : List Int := xs.mergeSort (fun a b => decide (a ≤ b))
theorem sortI_perm (xs : List Int) : (sortI xs).Perm xs := List.mergeSort_perm _ _
theorem sortI_sorted (xs : List Int) : (sortI xs).Pairwise (· ≤ ·) := by
  have h := List.pairwise_mergeSort (le := fun a b : Int => decide (a ≤ b)) (fun a b c => by simp; omega) (fun a b => by simp; omega) xs
  exact h.imp (by intro a b; simp)
theorem sorted_unique {xs ys : List Int} (h : xs.Perm ys) (hx : xs.Pairwise (· ≤ ·)) (hy : ys.Pairwise (· ≤ ·)) : xs = ys := List.Perm.eq_of_pairwise (fun a b _ _ h1 h2 => Int.le_antisymm h1 h2) hx hy h
theorem zn_sortI {ns : List Int} (hm : X.mg "sorted" = none) (ha : ZE X e σ F O (eL eI ns) O1) (hg : Gl X "sorted" := by rfl) (he : starEach [e] X.env = (false, eval e X.env) :: starEach [] X.env := by exact se_pl rfl) (hpl : (backTo pos (starEach [] X.env)).any (·.1) = false := by exact se_any rfl) : ZN X (.Call (.Name "sorted" p) [e] [] pos) σ F O ((sortI ns).map eI) O1 :=
  zn_callB cr_sortedI hm (by decide +kernel) (za_cons ha za_nil he) (fun F1 H1 vs _ w r Q q => by
    obtain ⟨v, rfl, r1⟩ := r.one
    obtain ⟨l, xs, rfl, e1, a1⟩ := r1.lst_inv
    have ex := ints_ra a1
    subst ex
    refine ⟨l, ns, rfl, .inl (.inl (w.sub _ _ e1)), fun ns' p hp hs hn => ?_⟩
    have ee : ns' = sortI ns := sorted_unique (hp.trans (sortI_perm ns).symm) hs (sortI_sorted ns)
    rw [ee]
    have hz := w.sz _ _ e1
    exact q p _ _ _ hn (Stp.alloc w hn (by show ((sortI ns).map V.int).length ≤ _; rw [List.length_map, (sortI_perm ns).length_eq]; rw [List.length_map] at hz; exact hz)) (ra_ints _)) hg (by decide) (by decide) he hpl
theorem ze_ifc {α : Type} (f : α → PyData) {x y : α} (hc : ZT X c σ F O k O1) (ha : k = true → ZE X a σ F O1 (f x) O2) (hb : k = false → ZE X b σ F O1 (f y) O2) : ZE X (.IfExp c a b pos) σ F O (f (cond k x y)) O2 := by
  have h := ze_if0 (pos := pos) f hc ha hb
  have e1 : (if k = true then x else y) = cond k x y := by cases k <;> rfl
  rw [e1] at h
  exact h
def setL {α : Type} (xs : List α) (i : Int) (v : α) : List α := match ixN xs.length i with
  | some q => xs.set q v
  | none => xs
theorem setL_eq {α : Type} {xs : List α} {i : Int} {v : α} {q : Nat} (h : ixN xs.length i = some q) : setL xs i v = xs.set q v := by
  unfold setL
  rw [h]
theorem setL_length {α : Type} (xs : List α) (i : Int) (v : α) : (setL xs i v).length = xs.length := by
  unfold setL
  split
  · rw [List.length_set]
  · rfl
def repL {α : Type} (xs : List α) (i : Int) : List α := (List.replicate i.toNat xs).flatten
theorem zn_rept {α : Type} {enc : α → PyData} {xs : List α} (ha : ZE X a σ F O (eL enc xs) O1) (hb : ZE X b σ F O1 (.int i) O2) (h0 : 0 ≤ i) (h1 : i < 2 ^ 62) (h : xs.length * i.toNat ≤ sizeLine) : ZN X (.BinOp a .Mult b pos) σ F O ((repL xs i).map enc) O2 :=
  zn_eq (zn_rep ha hb h0 h1 (by rw [List.length_map]; exact h)) (by unfold repL; rw [List.map_flatten, List.map_replicate])
theorem bls_ra {K : PySem.W.Frag} {F : Hp} : ∀ {ns : List Bool} {vs : List V}, RA K F vs (ns.map PyData.bool) → vs = ns.map V.bl
  | [], vs, h => h.nil_inv
  | n :: ns, vs, h => by
    obtain ⟨v, ws, rfl, r, t⟩ := RA.cons_inv h
    rw [r.bl_inv, bls_ra t]; rfl
theorem ze_all {ns : List Bool} (hc : X.calm = true) (hm : X.mg "all" = none) (ha : ZE X e σ F O (eL eB ns) O1) (hg : Gl X "all" := by rfl) (he : starEach [e] X.env = (false, eval e X.env) :: starEach [] X.env := by exact se_pl rfl) (hpl : (backTo pos (starEach [] X.env)).any (·.1) = false := by exact se_any rfl) : ZE X (.Call (.Name "all" p) [e] [] pos) σ F O (.bool (ns.all id)) O1 :=
  ze_callB (cr_all hc) hm (by decide +kernel) (za_cons ha za_nil he) (fun F1 H1 vs _ w r Q q => by
    obtain ⟨v, rfl, r1⟩ := r.one
    obtain ⟨l, xs, rfl, e1, a1⟩ := r1.lst_inv
    have ex := bls_ra a1
    subst ex
    exact ⟨l, ns, rfl, .inl (.inl (w.sub _ _ e1)), q _ _ _ (Stp.refl w) (.bl _)⟩) hg (by decide) (by decide) he hpl
theorem ze_any {ns : List Bool} (hc : X.calm = true) (hm : X.mg "any" = none) (ha : ZE X e σ F O (eL eB ns) O1) (hg : Gl X "any" := by rfl) (he : starEach [e] X.env = (false, eval e X.env) :: starEach [] X.env := by exact se_pl rfl) (hpl : (backTo pos (starEach [] X.env)).any (·.1) = false := by exact se_any rfl) : ZE X (.Call (.Name "any" p) [e] [] pos) σ F O (.bool (ns.any id)) O1 :=
  ze_callB (cr_any hc) hm (by decide +kernel) (za_cons ha za_nil he) (fun F1 H1 vs _ w r Q q => by
    obtain ⟨v, rfl, r1⟩ := r.one
    obtain ⟨l, xs, rfl, e1, a1⟩ := r1.lst_inv
    have ex := bls_ra a1
    subst ex
    exact ⟨l, ns, rfl, .inl (.inl (w.sub _ _ e1)), q _ _ _ (Stp.refl w) (.bl _)⟩) hg (by decide) (by decide) he hpl
def ixS (x : Str) (i : Int) : Str := ⟨#[(atI x.cps.toList i).getD 0]⟩
theorem ze_ixSt {x : Str} (ha : ZE X a σ F O (.str x) O1) (hb : ZE X b σ F O1 (.int i) O2) (hz : x.length ≤ sizeLine) (h : -(x.length : Int) ≤ i ∧ i < x.length) (hs : PlainIx b := by exact fun _ _ => rfl) : ZE X (.Subscript a b pos) σ F O (.str (ixS x i)) O2 := by
  have hl : x.cps.toList.length = x.length := rfl
  obtain ⟨j, hj, hlt⟩ := ixN_in (n := x.cps.toList.length) (i := i) (by rw [hl]; exact h)
  have h1 : atI x.cps.toList i = some ((atI x.cps.toList i).getD 0) := by
    unfold atI
    rw [hj]
    show x.cps.toList[j]? = some (x.cps.toList[j]?.getD 0)
    rw [List.getElem?_eq_getElem hlt]; rfl
  exact ze_ixS ha hb hz h1 hs
theorem zn_lstt {α : Type} {enc : α → PyData} {xs : List α} (h : ZA X es σ F O (xs.map enc) O1) (hz : xs.length ≤ sizeLine := by show _ ≤ (16777216 : Nat); exact Nat.le_of_ble_eq_true rfl) : ZN X (.List es pos) σ F O (xs.map enc) O1 := zn_lst h (by rw [List.length_map]; exact hz)
theorem ze_tupt {α : Type} {enc : α → PyData} {xs : List α} {kk} (h : ZA X es σ F O (xs.map enc) O1) (hz : xs.length ≤ sizeLine := by show _ ≤ (16777216 : Nat); exact Nat.le_of_ble_eq_true rfl) : ZE X (.Tuple es kk pos) σ F O (eTL enc xs) O1 := ze_tup h (by rw [List.length_map]; exact hz)
end
end Z

end
section
namespace Z
open PySem PySem.Spec PyProof.Rows L2

/-! ### isinstance -/
def tyName : PyData → String
  | .none => "NoneType" | .bool _ => "bool" | .int _ => "int" | .str _ => "str" | .list _ => "list" | .tuple _ => "tuple" | .dict _ => "dict"
section
variable {K : PySem.W.Frag} {F H : Hp} {v : V} {d : PyData}
theorem R.tyX (h : R K F v d) (g : Gr F H) : TyX K H v (.type (tyName d)) := by
  cases h with
  | non => exact .base .non
  | bl b => exact .base (.bl b)
  | int i => exact .base (.int i)
  | str x => exact .base (.str x)
  | lst e _ _ => exact .base (.lst (g _ _ e))
  | tup e _ _ => exact .base (.tup (g _ _ e))
  | dct e _ _ => exact .base (.dK (g _ _ e))
end
section
variable {X : Cx} {e a b c tg iter elt : Expr} {es : List Expr} {σ : L2.St} {F H : Hp} {O O1 O2 O3 : Own} {d da db : PyData} {ds rs : List PyData} {pos p : Pos} {i j : Int} {k k1 k2 : Bool} {x y : Str} {n m : Nat}
theorem ze_isi {T : String} {px : Pos} (hm : X.mg "isinstance" = none) (hT : X.mg (Str.ofString T) = none) (ha : ZE X e σ F O d O1) (hk : kitB (tyName d) T = some k) (hv : bootBuiltins (Str.ofString T) = some (.type T) := by decide +kernel) (hg : Gl X "isinstance" := by rfl) (hgT : Gl X (Str.ofString T) := by rfl)
    (hn : Str.ofString T ≠ "__name__" := by decide) (hd : (Str.ofString T == ("__debug__" : Str)) = false := by decide)
    (he : starEach (e :: [.Name (Str.ofString T) px]) X.env = (false, eval e X.env) :: starEach [.Name (Str.ofString T) px] X.env := by exact se_pl rfl) (he2 : starEach (.Name (Str.ofString T) px :: []) X.env = (false, eval (.Name (Str.ofString T) px) X.env) :: starEach [] X.env := by rfl)
    (hpl : (backTo pos (starEach [.Name (Str.ofString T) px] X.env)).any (·.1) = false := by rfl) : ZE X (.Call (.Name "isinstance" p) [e, .Name (Str.ofString T) px] [] pos) σ F O (.bool k) O1 := fun F1 H g w Q q =>
  wE_of (pe_callB call_isi hg hm boot_isinstance (pa_cons pe_w (pa_cons (pe_bltn (v := .ty T) hgT hT hv rfl hn hd) pa_nil he2) he) (by decide) (by decide) he hpl)
    (ha F1 H g w _ fun v F2 H2 s1 r1 => ⟨v, .ty T, .type (tyName d), .type T, k, rfl, .ty T, r1.tyX s1.ok.sub, kit_ty hk, q _ _ _ s1 (.bl k)⟩)

/-! ### ways that are known -/
variable {rest body els : List Stmt} {D : Ends}
theorem zs_ifT (w : WOk F O H) (hc : ZT X c σ F O true O1) (h1 : ∀ F1 H1, Stp F O H F1 O1 H1 → ZS X body σ H1 { D with nx := fun σ' H' => ZS X rest σ' H' D }) : ZS X (.If c body els pos :: rest) σ H D := zs_if w hc (fun _ => h1) fun h => Bool.noConfusion h
theorem zs_ifF (w : WOk F O H) (hc : ZT X c σ F O false O1) (h1 : ∀ F1 H1, Stp F O H F1 O1 H1 → ZS X els σ H1 { D with nx := fun σ' H' => ZS X rest σ' H' D }) : ZS X (.If c body els pos :: rest) σ H D := zs_if w hc (fun h => Bool.noConfusion h) fun _ => h1

/-! ### pop -/
variable {q : Addr} {vs : List V} {px apos cpos : Pos}
theorem ze_popO (n m : Nat) {v : V} (hσ : σ[n]? = some (some (.ref q))) (hO : O[m]? = some (q, .lst (vs ++ [v]))) (hr : R X.K F v d) (hN : X.N[n]? = some x := by rfl)
    (hv : Vis X.env.scope x := by first | exact Or.inl rfl | exact Or.inr (Or.inl rfl) | exact Or.inr (Or.inr rfl)) (hd : (x == ("__debug__" : Str)) = false := by decide) (hcd : (x == ("__classdict__" : Str)) = false := by decide)
    (hbase : attributeBase (.Name x px) "pop" X.env (eval (.Name x px) X.env) = eval (.Name x px) X.env := by rfl)
    (hline : (apos.endLine == cpos.line) = true := by rfl) : ZE X (.Call (.Attribute (.Name x px) "pop" apos) [] [] cpos) σ F O d (O.set m (q, .lst vs)) := fun F1 H g w Q qq => by
  have hH := (w.at_ hO).1
  refine wE_of (pe_bm0 PySem.F.plainAttrs_list PySem.F.slot_list_pop PySem.F.type_list_pop mt_pop (pe_var hN hv hd hcd) hbase hline) ⟨_, hσ, .inl ⟨rfl, _, .inl (.inl hH)⟩, q, vs ++ [v], v, rfl, rfl, hH, by simp, ?_⟩
  have hz := w.szo _ (List.mem_of_getElem? hO) _ rfl
  rw [List.dropLast_concat]
  exact qq _ _ _ (Stp.write w hO (by show vs.length ≤ _; rw [List.length_append] at hz; omega)) (hr.mono g)

/-! ### xs.index(y) of ints -/
theorem idxOf_before : ∀ (ns : List Int) (i : Int) (m : Nat) (t : Int), m < ns.idxOf i → ns[m]? = some t → t ≠ i
  | [], i, m, t, h, _ => by simp at h
  | a :: ns, i, 0, t, h, e => by
    have e : a = t := by simpa using e
    subst e
    intro z; subst z
    rw [List.idxOf_cons_self] at h; exact absurd h (Nat.lt_irrefl _)
  | a :: ns, i, m + 1, t, h, e => by
    by_cases ha : a = i
    · subst ha; rw [List.idxOf_cons_self] at h; omega
    · rw [List.idxOf_cons] at h
      have hb : (a == i) = false := beq_eq_false_iff_ne.mpr ha
      rw [hb] at h
      have h : m + 1 < ns.idxOf i + 1 := h
      exact idxOf_before ns i m t (by omega) (by simpa using e)
theorem ze_indexI {ns : List Int} (ha : ZE X a σ F O (eL eI ns) O1) (hb : ZE X b σ F O1 (eI i) O2) (hi : i ∈ ns)
    (hbase : attributeBase a "index" X.env (eval a X.env) = eval a X.env := by rfl)
    (hfew : ((backTo cpos (starEach (b :: []) X.env)).all (fun x => !x.1) && (backToKw cpos (keywordEach [] X.env)).all (fun x => x.1.isSome)
      && decide ((b :: []).length + ([] : List Keyword).length + (if ([] : List Keyword).isEmpty then 0 else 1) < 30)) = true := by rfl)
    (hline : (apos.endLine == cpos.line) = true := by rfl) (hse : starEach (b :: []) X.env = (false, eval b X.env) :: starEach [] X.env := by exact se_pl rfl) (hplain : (backTo cpos (starEach [] X.env)).any (·.1) = false := by exact se_any rfl) :
    ZE X (.Call (.Attribute a "index" apos) [b] [] cpos) σ F O (eI (ns.idxOf i : Nat)) O2 := fun F1 H g w Q qq => by
  refine wE_of (pe_bm PySem.F.plainAttrs_list PySem.F.slot_list_index PySem.F.type_list_index mt_index pe_w (pa_cons pe_w pa_nil hse) hbase hfew hline hse hplain) (ha F1 H g w _ fun v F2 H2 s1 r1 => ?_)
  obtain ⟨l, xs, rfl, e1, a1⟩ := r1.lst_inv
  have ex := ints_ra a1
  subst ex
  refine ⟨.inl ⟨rfl, _, .inl (.inl (s1.ok.sub _ _ e1))⟩, hb F2 H2 (g.trans s1.gr) s1.ok _ fun u F3 H3 s2 r2 => ?_⟩
  have hlt := List.idxOf_lt_length_iff.mpr hi
  refine ⟨l, ns.map V.int, u, ns.idxOf i, .int i, rfl, rfl, .inl (.inl (s2.ok.sub _ _ (s2.gr _ _ e1))), by rw [r2.int_inv]; rfl, all_flat_int ns, ?_, ?_, ?_, qq _ _ _ (s1.trans s2) (.int _)⟩
  · rw [List.getElem?_map, List.getElem?_eq_getElem hlt, List.getElem_idxOf]; rfl
  · rw [r2.int_inv]; show (i == i) = true; exact beq_self_eq_true _
  · intro m' z' hm hz
    rw [List.getElem?_map] at hz
    cases hq : ns[m']? with
    | none => rw [hq] at hz; cases hz
    | some t =>
      rw [hq] at hz; cases hz
      rw [r2.int_inv]
      show (t == i) = false
      exact beq_eq_false_iff_ne.mpr fun e => idxOf_before ns i m' t hm hq e
end

/-! ### how many values -/
mutual
def dsz : PyData → Nat
  | .list xs => 1 + dszL xs
  | .tuple xs => 1 + dszL xs
  | .none => 1 | .bool _ => 1 | .int _ => 1 | .str _ => 1 | .dict _ => 200000
def dszL : List PyData → Nat
  | [] => 0
  | d :: ds => dsz d + dszL ds
end
theorem dszL_app : ∀ xs ys : List PyData, dszL (xs ++ ys) = dszL xs + dszL ys
  | [], ys => by simp [dszL]
  | x :: xs, ys => by rw [List.cons_append]; simp only [dszL]; rw [dszL_app xs ys]; omega
theorem dsz_list (xs : List PyData) : dsz (.list xs) = 1 + dszL xs := by simp [dsz]
theorem dsz_tuple (xs : List PyData) : dsz (.tuple xs) = 1 + dszL xs := by simp [dsz]
theorem dsz_pos (d : PyData) : 1 ≤ dsz d := by cases d <;> simp [dsz]
theorem dszL_map_le {α : Type} {e : α → PyData} {c : Nat} : ∀ {xs : List α}, (∀ x ∈ xs, dsz (e x) ≤ c) → dszL (xs.map e) ≤ c * xs.length
  | [], _ => by simp [dszL]
  | x :: xs, h => by
    have h1 := h x List.mem_cons_self
    have h2 := dszL_map_le (xs := xs) fun y hy => h y (List.mem_cons_of_mem _ hy)
    rw [List.map_cons, List.length_cons, Nat.mul_succ]
    simp only [dszL]; omega
theorem dsz_L {α : Type} {e : α → PyData} {c : Nat} {xs : List α} (h : ∀ x ∈ xs, dsz (e x) ≤ c) : dsz (eL e xs) ≤ 1 + c * xs.length := by
  show dsz (.list _) ≤ _
  rw [dsz_list]
  have := dszL_map_le h
  omega
theorem dsz_T2 {α β : Type} {e1 : α → PyData} {e2 : β → PyData} {p : α × β} {c1 c2 : Nat} (h1 : dsz (e1 p.1) ≤ c1) (h2 : dsz (e2 p.2) ≤ c2) : dsz (eT2 e1 e2 p) ≤ 1 + c1 + c2 := by
  show dsz (.tuple _) ≤ _
  rw [dsz_tuple]
  simp only [dszL]; omega
theorem dsz_I (i : Int) : dsz (eI i) ≤ 1 := by simp [dsz]
theorem dsz_B (i : Bool) : dsz (eB i) ≤ 1 := by simp [dsz]
theorem dsz_S (i : Str) : dsz (eS i) ≤ 1 := by simp [dsz]
theorem dsz_O {α : Type} {e : α → PyData} {o : Option α} {c : Nat} (h : ∀ x, o = some x → dsz (e x) ≤ c) (hc : 1 ≤ c) : dsz (eO e o) ≤ c := by
  cases o with
  | none => simp [eO, dsz]; exact hc
  | some x => exact h x rfl
end Z

end
section
namespace Z
open PySem PySem.Spec PyProof.Rows L2

/-! ### what is mine, lent as data for the time of a call -/
def frz (F : Hp) (O : Own) : Hp := fun b => match O.find? (fun q => decide (q.1 = b)) with
  | some q => some q.2
  | none => F b
def unf (F : Hp) (O : Own) : Hp := fun b => if b ∈ keys O then none else F b
section
variable {K : PySem.W.Frag} {F F' F1 F2 H H' : Hp} {v : V} {d : PyData} {a p : Addr} {vs : List V} {ds : List PyData} {O O' : Own} {o o' : HO}
theorem frz_cases (F : Hp) (O : Own) (b : Addr) : (∃ q ∈ O, q.1 = b ∧ frz F O b = some q.2) ∨ (b ∉ keys O ∧ frz F O b = F b) := by
  unfold frz
  cases e : O.find? (fun q => decide (q.1 = b)) with
  | some q => exact .inl ⟨q, List.mem_of_find?_eq_some e, by have := List.find?_some e; simpa using this, rfl⟩
  | none =>
    refine .inr ⟨fun h => ?_, rfl⟩
    obtain ⟨q, hq, rfl⟩ := List.mem_map.mp h
    have := List.find?_eq_none.mp e q hq
    simp at this
theorem WOk.frz (w : WOk F O H) : WOk (frz F O) [] H where
  sub := fun b u e => by
    rcases frz_cases F O b with ⟨q, hq, rfl, h⟩ | ⟨_, h⟩
    · rw [h] at e; cases e; exact (w.own q hq).1
    · rw [h] at e; exact w.sub b u e
  own := fun _ h => nomatch h
  nd := List.nodup_nil
  sz := fun b xs e => by
    rcases frz_cases F O b with ⟨q, hq, rfl, h⟩ | ⟨_, h⟩
    · rw [h] at e; exact w.szo q hq xs (Option.some.inj e)
    · rw [h] at e; exact w.sz b xs e
  szo := fun _ h => nomatch h
theorem Gr.frz (w : WOk F O H) : Gr F (frz F O) := fun b o e => by
  rcases frz_cases F O b with ⟨q, hq, rfl, h⟩ | ⟨_, h⟩
  · rw [(w.own q hq).2] at e; cases e
  · rw [h]; exact e
theorem frz_at (w : WOk F O H) {k : Nat} (h : O[k]? = some (a, o)) : frz F O a = some o := by
  rcases frz_cases F O a with ⟨q, hq, e, h2⟩ | ⟨n, _⟩
  · have h1 := (w.own q hq).1
    rw [e, (w.at_ h).1] at h1
    rw [h2, ← h1]
  · exact absurd (w.key h) n
theorem Stp.unf (w : WOk F O H) (x : Stp (frz F O) [] H F' [] H') : Stp F O H (unf F' O) O H' where
  ok := {
    sub := fun b u e => by
      unfold Z.unf at e
      split at e
      · cases e
      · exact x.ok.sub b u e
    own := fun q hq => ⟨x.keep _ _ (w.own q hq).1 (by intro z; cases z), by
      unfold Z.unf
      exact if_pos (show q.1 ∈ keys O from List.mem_map.mpr ⟨q, hq, rfl⟩)⟩
    nd := w.nd
    sz := fun b xs e => by
      unfold Z.unf at e
      split at e
      · cases e
      · exact x.ok.sz b xs e
    szo := w.szo }
  gr := fun b o e => by
    have hb : b ∉ keys O := fun h => by
      obtain ⟨q, hq, rfl⟩ := List.mem_map.mp h
      rw [(w.own q hq).2] at e; cases e
    unfold Z.unf
    rw [if_neg hb]
    exact x.gr b o (Gr.frz w b o e)
  keep := fun b o e _ => x.keep b o e (by intro z; cases z)
  fr := fun b o e => by
    unfold Z.unf at e
    split at e
    · cases e
    · rename_i hb
      rcases x.fr b o e with h | h
      · rcases frz_cases F O b with ⟨q, hq, rfl, _⟩ | ⟨_, h2⟩
        · exact absurd (List.mem_map.mpr ⟨q, hq, rfl⟩) hb
        · rw [h2] at h; exact .inl h
      · exact .inr h
  ky := fun _ h => .inl h
  dom := x.dom
theorem Gr.frz2 (g : Gr F F1) : Gr (Z.frz F O) (Z.frz F1 O) := fun b o e => by
  unfold Z.frz at e ⊢
  split at e
  · exact e
  · exact g b o e
end
section
variable {X : Cx} {e a b c tg iter elt : Expr} {es : List Expr} {σ : L2.St} {F H : Hp} {O O1 O2 O3 : Own} {d da db : PyData} {ds rs : List PyData} {pos p : Pos} {i j : Int} {k k1 k2 : Bool} {x : Str} {n : Nat} {ps : List Str}
theorem ze_eqB (h : ZE X e σ F O (.bool k1) O1) (q : k1 = k) : ZE X e σ F O (.bool k) O1 := q ▸ h
/-- a call whose first argument is a value that stands on what is mine -/
theorem ze_callDZ {A : List PyData → PyData → Prop} {sx : Str} {sp : Pos} {v : V} (l : Nat) (G : Fn X.prog X.w X.K X.mg X.base n x ps (spD X.K A)) (hr : Room n X.A) (hσ : σ[l]? = some (some v)) (hv0 : ∀ F1 H1, Gr F F1 → WOk F1 O H1 → R X.K (frz F1 O) v d) (ha : ZA X es σ F O ds O) (hA : A (d :: ds) (.bool k))
    (hN : X.N[l]? = some sx := by rfl) (hv : Vis X.env.scope sx := by first | exact Or.inl rfl | exact Or.inr (Or.inl rfl) | exact Or.inr (Or.inr rfl)) (hg : Gl X x := by rfl) (hdb : (x == ("__debug__" : Str)) = false := by decide) (hd : (sx == ("__debug__" : Str)) = false := by decide) (hcd : (sx == ("__classdict__" : Str)) = false := by decide)
    (he : starEach (.Name sx sp :: es) X.env = (false, eval (.Name sx sp) X.env) :: starEach es X.env := by exact se_pl rfl) (hpl : (backTo pos (starEach es X.env)).any (·.1) = false := by exact se_any rfl) : ZE X (.Call (.Name x p) (.Name sx sp :: es) [] pos) σ F O (.bool k) O := fun F1 H g w Q qq => by
  obtain ⟨f, fd, G, hm, hk, hb⟩ := G.ex
  refine wE_of (pe_call G hr hg hm hk hb .nil (E := E0) pass0 (pa_cons (pe_var hN hv hd hcd) pa_w he) hdb he hpl) ⟨_, hσ, ha F1 H g w _ fun vs F2 H2 s1 r1 => ?_⟩
  show spD X.K A ((v :: vs) ++ []) H2 Q E0
  rw [List.append_nil]
  refine ⟨frz F2 O, d :: ds, .bool k, s1.ok.frz, .cons (hv0 F2 H2 (g.trans s1.gr) s1.ok) (r1.mono (Gr.frz s1.ok)), hA, fun u F' H' s2 r2 => qq _ _ _ (s1.trans (Stp.unf s1.ok s2)) ?_⟩
  rw [r2.bl_inv]; exact .bl _
theorem ze_callDO {A : List PyData → PyData → Prop} {sx : Str} {sp : Pos} {q : Addr} {us : List V} {d0 : List PyData} (l m : Nat) (G : Fn X.prog X.w X.K X.mg X.base n x ps (spD X.K A)) (hr : Room n X.A) (hσ : σ[l]? = some (some (.ref q))) (hO : O[m]? = some (q, .lst us)) (hra : RA X.K F us d0) (ha : ZA X es σ F O ds O) (hA : A (.list d0 :: ds) (.bool k))
    (hN : X.N[l]? = some sx := by rfl) (hv : Vis X.env.scope sx := by first | exact Or.inl rfl | exact Or.inr (Or.inl rfl) | exact Or.inr (Or.inr rfl)) (hg : Gl X x := by rfl) (hdb : (x == ("__debug__" : Str)) = false := by decide) (hd : (sx == ("__debug__" : Str)) = false := by decide) (hcd : (sx == ("__classdict__" : Str)) = false := by decide)
    (he : starEach (.Name sx sp :: es) X.env = (false, eval (.Name sx sp) X.env) :: starEach es X.env := by exact se_pl rfl) (hpl : (backTo pos (starEach es X.env)).any (·.1) = false := by exact se_any rfl) : ZE X (.Call (.Name x p) (.Name sx sp :: es) [] pos) σ F O (.bool k) O :=
  ze_callDZ l G hr hσ (fun F1 H1 g w => (hra.mono (g.trans (Gr.frz w))).lst (frz_at w hO)) ha hA hN hv hg hdb hd hcd he hpl

instance instInhPyData : Inhabited PyData := ⟨.none⟩
instance instInhStr : Inhabited Str := ⟨⟨#[]⟩⟩
/-! ### the store of a script -/
def sto0 (ns : List Int) : Sto := ⟨0, 0, 0, ns.foldl (fun b a : Int => (b * 1000003 + a % 2305843009213693951 + 1) % 2305843009213693951) (17 + (ns.length : Int))⟩
def spMk (K : PySem.W.Frag) : Sp := fun vs H Q _ => ∃ (F : Hp) (a : Addr) (ns : List Int), vs = [.ref a] ∧ WOk F [] H ∧ SqL K F a (ns.map V.int) ∧ ns.length ≤ 63 ∧ ∀ p c F' H', H p = none → Stp F [] H F' [stoO p c (sto0 ns)] H' → R K F' c (eL eI ns) → Q (.ref p) H'
theorem zn_callMk {ns : List Int} {q : Addr} {sx : Str} {sp : Pos} (l : Nat) (G : Fn X.prog X.w X.K X.mg X.base n x ps (spMk X.K)) (hr : Room n X.A) (hσ : σ[l]? = some (some (.ref q))) (hS : SqL X.K F q (ns.map V.int)) (hl : ns.length ≤ 63)
    (hN : X.N[l]? = some sx := by rfl) (hv : Vis X.env.scope sx := by first | exact Or.inl rfl | exact Or.inr (Or.inl rfl) | exact Or.inr (Or.inr rfl)) (hg : Gl X x := by rfl) (hdb : (x == ("__debug__" : Str)) = false := by decide) (hd : (sx == ("__debug__" : Str)) = false := by decide) (hcd : (sx == ("__classdict__" : Str)) = false := by decide)
    (he : starEach (.Name sx sp :: []) X.env = (false, eval (.Name sx sp) X.env) :: starEach [] X.env := by exact se_pl rfl) (hpl : (backTo pos (starEach [] X.env)).any (·.1) = false := by exact se_any rfl) : ZN X (.Call (.Name x p) [.Name sx sp] [] pos) σ F [] (stoD ns (sto0 ns)) [] := fun F1 H g w Q qq => by
  obtain ⟨f, fd, G, hm, hk, hb⟩ := G.ex
  refine wE_of (pe_call G hr hg hm hk hb .nil (E := E0) pass0 (pa_cons (pe_var hN hv hd hcd) pa_nil he) hdb he hpl) ⟨_, hσ, ?_⟩
  exact ⟨F1, q, ns, rfl, w, g.sqL hS, hl, fun p c F' H' hp s2 r2 => qq p _ _ _ hp s2 (sto_ra r2)⟩
theorem sto_inv {K : PySem.W.Frag} {us : List V} {ns : List Int} {s : Sto} (h : RA K F us (stoD ns s)) : ∃ c, us = stoL c s ∧ R K F c (eL eI ns) := by
  obtain ⟨c, us, rfl, rc, h⟩ := h.cons_inv
  obtain ⟨i1, us, rfl, q1, h⟩ := h.cons_inv
  obtain ⟨i2, us, rfl, q2, h⟩ := h.cons_inv
  obtain ⟨i3, us, rfl, q3, h⟩ := h.cons_inv
  obtain ⟨i4, us, rfl, q4, h⟩ := h.cons_inv
  obtain rfl := h.nil_inv
  obtain rfl := q1.int_inv
  obtain rfl := q2.int_inv
  obtain rfl := q3.int_inv
  obtain rfl := q4.int_inv
  exact ⟨c, rfl, rc⟩
def spLaw (K : PySem.W.Frag) : Sp := fun vs H Q _ => ∃ (a : Addr) (ns : List Int), vs = [.ref a] ∧ ns.length ≤ 63 ∧ SqL K H a (ns.map V.int) ∧ ∀ H', Q (.bl true) H'
/-- a world to start from: nothing but the script -/
theorem law_start {K : PySem.W.Frag} {H : Hp} {a : Addr} {vs : List V} (hl : vs.length ≤ 63) (h : SqL K H a vs) : ∃ F, WOk F [] H ∧ SqL K F a vs := by
  have one : ∀ o, H a = some o → (∀ xs, o = .lst xs → xs.length ≤ sizeLine) → WOk (fun b => if b = a then some o else none) [] H := fun o e hz =>
    { sub := fun b u e2 => by
        dsimp only at e2
        split at e2
        · rename_i hb; cases e2; rw [hb]; exact e
        · cases e2
      own := fun _ h => (nomatch h)
      nd := List.nodup_nil
      sz := fun b xs e2 => by
        split at e2
        · cases e2; exact hz xs rfl
        · cases e2
      szo := fun _ h => (nomatch h) }
  have hlz : vs.length ≤ sizeLine := by rw [← szL]; omega
  rcases h with (h | ⟨o, h⟩) | h
  · exact ⟨_, one _ h (fun xs e => by cases e; exact hlz), .inl (.inl (if_pos rfl))⟩
  · exact ⟨_, one _ h (fun xs e => by cases e), .inl (.inr ⟨o, if_pos rfl⟩)⟩
  · exact ⟨fun _ => none, { sub := fun _ _ e => (nomatch e), own := fun _ h => (nomatch h), nd := List.nodup_nil, sz := fun _ _ e => (nomatch e), szo := fun _ h => (nomatch h) }, .inr h⟩
end
end Z

end
section
namespace Z
open PySem PySem.Spec PyProof.Rows L2

theorem rangeI_at {lo hi x : Int} {i : Nat} (h : (rangeI lo hi)[i]? = some x) : x = lo + (i : Int) ∧ lo ≤ x ∧ x < hi := by
  have hl := (List.getElem?_eq_some_iff.mp h).1
  rw [rangeI_length] at hl
  unfold rangeI at h
  rw [List.getElem?_map, List.getElem?_range hl] at h
  have h : lo + (i : Int) = x := Option.some.inj h
  omega
theorem rangeI_mem {lo hi x : Int} : x ∈ rangeI lo hi ↔ lo ≤ x ∧ x < hi := by
  constructor
  · intro h
    obtain ⟨i, hi⟩ := List.mem_iff_getElem?.mp h
    have := rangeI_at hi
    omega
  · intro h
    refine List.mem_iff_getElem?.mpr ⟨(x - lo).toNat, ?_⟩
    unfold rangeI
    rw [List.getElem?_map, List.getElem?_range (by omega)]
    show some (lo + ((x - lo).toNat : Int)) = some x
    congr 1; omega
theorem foldl_inv {α β : Type} {f : β → α → β} (P : β → Prop) : ∀ {xs : List α} {b : β}, P b → (∀ b a, a ∈ xs → P b → P (f b a)) → P (xs.foldl f b)
  | [], _, h, _ => h
  | x :: xs, b, h, hf => foldl_inv P (xs := xs) (hf b x List.mem_cons_self h) fun b a ha => hf b a (List.mem_cons_of_mem _ ha)
section
variable {X : Cx} {e a b c tg iter elt : Expr} {es : List Expr} {σ : L2.St} {F H : Hp} {O O1 O2 O3 : Own} {d da db : PyData} {ds rs : List PyData} {pos apos cpos : Pos} {i j : Int} {k k1 k2 : Bool} {x : Str} {n m : Nat} {D : Ends} {rest : List Stmt} {p : Addr} {vs : List V} {v : V}
theorem ze_to {d' : PyData} {O1' : Own} (h : ZE X e σ F O d O1) (hd : d = d') (hO : O1 = O1') : ZE X e σ F O d' O1' := hd ▸ hO ▸ h
/-- an expression that tells a value and leaves the heap (a place in what is mine) -/
def ZP (X : Cx) (a : Expr) (σ : L2.St) (F : Hp) (O : Own) (v : V) : Prop := ∀ F1 H1, Gr F F1 → WOk F1 O H1 → ∀ Q : VK, Q v H1 → wE X a σ H1 Q
theorem zp_ixO (n m : Nat) {px : Pos} (hσ : σ[n]? = some (some (.ref p))) (hb : ZE X b σ F O (.int i) O) (hO : O[m]? = some (p, .lst vs)) (h : atI vs i = some v)
    (hN : X.N[n]? = some x := by rfl) (hv : Vis X.env.scope x := by first | exact Or.inl rfl | exact Or.inr (Or.inl rfl) | exact Or.inr (Or.inr rfl)) (hs : PlainIx b := by exact fun _ _ => rfl) (hd : (x == ("__debug__" : Str)) = false := by decide)
    (hcd : (x == ("__classdict__" : Str)) = false := by decide) : ∀ F1 H1, Gr F F1 → WOk F1 O H1 → ∀ Q : VK, (∀ F2 H2, Stp F1 O H1 F2 O H2 → Q v H2) → wE X (.Subscript (.Name x px) b pos) σ H1 Q := fun F1 H g w Q q =>
  wE_of (pe_ix ix_list (pe_var hN hv hd hcd) pe_w hs) ⟨_, hσ, hb F1 H g w _ fun y F2 H2 s1 r1 => ⟨p, vs, i, v, rfl, r1.int_inv, .inl (.inl (s1.ok.at_ hO).1), h, q _ _ s1⟩⟩
/-- a[i].append(e) where a[i] is mine -/
theorem zs_appendP (w : WOk F O H) {q : Addr} (m : Nat) (hp : ∀ F1 H1, Gr F F1 → WOk F1 O H1 → ∀ Q : VK, (∀ F2 H2, Stp F1 O H1 F2 O H2 → Q (.ref q) H2) → wE X a σ H1 Q) (he : ZE X e σ F O d O) (hO : O[m]? = some (q, .lst vs)) (hz : vs.length < sizeLine) (kk : ∀ v F1 H1, Stp F O H F1 (O.set m (q, .lst (vs ++ [v]))) H1 → R X.K F1 v d → ZS X rest σ H1 D)
    (hs : swapsWith (.Call (.Attribute a "append" apos) [e] [] cpos) none pos.line X.env = pure false := by rfl)
    (hbase : attributeBase a "append" X.env (eval a X.env) = eval a X.env := by rfl)
    (hfew : ((backTo cpos (starEach (e :: []) X.env)).all (fun x => !x.1) && (backToKw cpos (keywordEach [] X.env)).all (fun x => x.1.isSome)
      && decide ((e :: []).length + ([] : List Keyword).length + (if ([] : List Keyword).isEmpty then 0 else 1) < 30)) = true := by rfl)
    (hline : (apos.endLine == cpos.line) = true := by rfl) (hse : starEach (e :: []) X.env = (false, eval e X.env) :: starEach [] X.env := by exact se_pl rfl) (hplain : (backTo cpos (starEach [] X.env)).any (·.1) = false := by exact se_any rfl) :
    ZS X (.Expr (.Call (.Attribute a "append" apos) [e] [] cpos) pos :: rest) σ H D := by
  refine wSs_of (pss_cons (ps_expr (pe_bm PySem.F.plainAttrs_list PySem.F.slot_list_append PySem.F.type_list_append mt_append pe_w (pa_cons pe_w pa_nil hse) hbase hfew hline hse hplain) hs) pss_w) ?_
  refine hp F H Gr.refl w _ fun F0 H0 s0 => ⟨.inl ⟨rfl, _, .inl (.inl (s0.ok.at_ hO).1)⟩, he F0 H0 s0.gr s0.ok _ fun v F1 H1 s1 r1 => ?_⟩
  exact ⟨q, vs, v, rfl, rfl, (s1.ok.at_ hO).1, hz, kk v _ _ ((s0.trans s1).trans (Stp.write s1.ok hO (by show (vs ++ [v]).length ≤ _; rw [List.length_append]; exact hz))) r1⟩
theorem zs_reverseP (w : WOk F O H) {q : Addr} (m : Nat) (hp : ∀ F1 H1, Gr F F1 → WOk F1 O H1 → ∀ Q : VK, (∀ F2 H2, Stp F1 O H1 F2 O H2 → Q (.ref q) H2) → wE X a σ H1 Q) (hO : O[m]? = some (q, .lst vs)) (kk : ∀ F1 H1, Stp F O H F1 (O.set m (q, .lst vs.reverse)) H1 → ZS X rest σ H1 D)
    (hs : swapsWith (.Call (.Attribute a "reverse" apos) [] [] cpos) none pos.line X.env = pure false := by rfl)
    (hbase : attributeBase a "reverse" X.env (eval a X.env) = eval a X.env := by rfl)
    (hline : (apos.endLine == cpos.line) = true := by rfl) : ZS X (.Expr (.Call (.Attribute a "reverse" apos) [] [] cpos) pos :: rest) σ H D := by
  refine wSs_of (pss_cons (ps_expr (pe_bm0 PySem.F.plainAttrs_list PySem.F.slot_list_reverse PySem.F.type_list_reverse mt_reverse pe_w hbase hline) hs) pss_w) ?_
  refine hp F H Gr.refl w _ fun F0 H0 s0 => ⟨.inl ⟨rfl, _, .inl (.inl (s0.ok.at_ hO).1)⟩, q, vs, rfl, rfl, (s0.ok.at_ hO).1, kk _ _ (s0.trans (Stp.write s0.ok hO (by show vs.reverse.length ≤ _; rw [List.length_reverse]; exact s0.ok.szo _ (List.mem_of_getElem? hO) _ rfl)))⟩
/-- a display whose first thing is a new list: both are mine -/
theorem zs_setLst1 (w : WOk F O H) (he : ZN X e σ F O rs O1) (hes : ∀ p0 us, ZA X es σ F ((p0, .lst us) :: O1) ds ((p0, .lst us) :: O1)) (hN : X.N.Nodup) (hi : X.N[n]? = some x) (hx : Loc X.env.scope x)
    (kk : ∀ p p0 us vs F1 H1, H p = none → H p0 = none → Stp F O H F1 ((p, .lst (.ref p0 :: vs)) :: (p0, .lst us) :: O1) H1 → RA X.K F1 us rs → RA X.K F1 vs ds → ZS X rest (σ.set n (some (.ref p))) H1 D)
    (hz : ds.length + 1 ≤ sizeLine := by show _ ≤ (16777216 : Nat); exact Nat.le_of_ble_eq_true rfl) {px : Pos}
    (hs : swapsWith (.List (e :: es) cpos) (some (.Name x px)) pos.line X.env = pure false := by rfl) (hf : X.fn x = true ∨ X.env.scope.names.lookup x = some .local := by first | exact .inl rfl | exact .inr rfl | assumption) (hse : starEach (e :: es) X.env = (false, eval e X.env) :: starEach es X.env := by exact se_pl rfl) : ZS X (.Assign [.Name x px] (.List (e :: es) cpos) pos :: rest) σ H D := by
  refine wSs_of (pss_cons (ps_set hN hi hx (pe_lst (pa_cons pe_w pa_w hse)) hs hf) pss_w) ?_
  refine he F H Gr.refl w _ fun p0 us F1 H1 hp0 s1 r1 => hes p0 us F1 H1 s1.gr s1.ok _ fun vs F2 H2 s2 r2 => ?_
  have hl : (V.ref p0 :: vs).length ≤ sizeLine := by rw [List.length_cons, r2.len]; exact hz
  refine ⟨hl, fun p hp => kk p p0 us vs _ _ ?_ hp0 ((s1.trans s2).trans (Stp.alloc s2.ok hp hl)) (r1.mono s2.gr) r2⟩
  cases z : H p with
  | none => rfl
  | some u => exact absurd hp ((s1.trans s2).dom p (by rw [z]; simp))
end
end Z

end
section
namespace Z
open PySem PySem.Spec PyProof.Rows L2
section
variable {X : Cx} {e a b c tg iter elt tg1 iter1 : Expr} {es : List Expr} {σ : L2.St} {F H : Hp} {O O1 O2 O3 : Own} {d da db : PyData} {ds rs : List PyData} {pos p : Pos} {i j : Int} {k k1 k2 : Bool} {x y : Str} {n m : Nat} {px py spos : Pos} {scope : Scope} {ifs : List Expr}
variable {α α1 β γ : Type} {G : β → Own} {enc : α → PyData} {enc1 : α1 → PyData} {encR : γ → PyData} {xs : List α} {st0 : β} {own : List (Str × Nat)} {vs1 : List Nat}
def uG (X : Cx) (scope : Scope) (tg : Expr) : TG := fun v σ H Q => ∀ s H0 C cl fp, wG (blkX X scope s H0 C cl fp) tg v σ H Q
def uI (X : Cx) (scope : Scope) (tg iter : Expr) : TI := fun σ H Rr => ∀ s H0 C cl fp, wI (blkX X scope s H0 C cl fp) tg iter σ H Rr
theorem pg_u (s : Shared) (H : Hp) (C : Addr) (cl : List (Str × Addr)) (fp : List Addr) : PG (blkX X scope s H C cl fp) tg (uG X scope tg) := ⟨fun pins s' σ H1 v u Q I r h => pg_w.run pins s' σ H1 v u Q I r (h s H C cl fp)⟩
theorem pi_u (s : Shared) (H : Hp) (C : Addr) (cl : List (Str × Addr)) (fp : List Addr) : PI (blkX X scope s H C cl fp) tg iter (uI X scope tg iter) := ⟨fun pins s' σ H1 Rr I h => pi_w.run pins s' σ H1 Rr I (h s H C cl fp)⟩
/-- how a target is bound to an item -/
structure Bd (X : Cx) (scope : Scope) (tg : Expr) (vs : List Nat) (σ0 : L2.St) (enc : α → PyData) (xs : List α) (B : α → L2.St → Hp → Prop) : Prop where
  wp : ∀ a σ2 F', B a σ2 F' → wipe σ2 vs = wipe σ0 vs
  mono : ∀ a σ2 F' F'', B a σ2 F' → Gr F' F'' → B a σ2 F''
  tgt : ∀ s H0 C cl fp a v F' O' H' Q, a ∈ xs → WOk F' O' H' → R X.K F' v (enc a) → (∀ σ2, B a σ2 F' → Q σ2 H') → wG (blkX X scope s H0 C cl fp) tg v (wipe σ0 vs) H' Q
def genF (pr : β → α → Bool) (f0 : β → α → γ) (s1 s2 : β → α → β) : β → α → Option γ × β := fun st a => if pr st a then (some (f0 st a), s2 st a) else (none, s1 st a)
theorem lcX_read {B : α → L2.St → Hp → Prop} {f : β → α → Option γ × β} {tt : TT} (hi : ZI X tg iter σ F O (xs.map enc) (G st0)) (bd : Bd X scope tg (own.map (·.2)) σ enc xs B)
    (hb : ∀ st a σ2 F' H', a ∈ xs → Gr F F' → WOk F' (G st) H' → B a σ2 F' → ∀ (Q1 : V → Hp → Prop) (Q0 : Hp → Prop), (∀ v F2 H2 y, (f st a).1 = some y → Stp F' (G st) H' F2 (G (f st a).2) H2 → R X.K F2 v (encR y) → Q1 v H2) → (∀ F2 H2, (f st a).1 = none → Stp F' (G st) H' F2 (G (f st a).2) H2 → Q0 H2) →
      tt σ2 H' fun b H3 => if b = true then uE X scope elt σ2 H3 Q1 else Q0 H3)
    {F1 H : Hp} (g1 : Gr F F1) (w : WOk F1 O H) {Q : VK}
    (q : ∀ p us F2 H2, H p = none → Stp F1 O H F2 ((p, .lst us) :: G (runS f st0 xs).2) H2 → RA X.K F2 us ((runS f st0 xs).1.map encR) → Q (.ref p) H2) : tLc (wI X tg iter) (uG X scope tg) tt (uE X scope elt) (own.map (·.2)) σ H Q := by
  refine lc_read (fun i => G (stS f st0 xs i)) (fun i => (xs[i]?).bind fun a => (f (stS f st0 xs i) a).1.map encR) (fun F1 H g1 w Q q => hi F1 H g1 w Q q) (fun i d v F' H' hd gg ww rr Q1 Q0 h1 h0 => ?_) g1 w (fun p us F2 H2 hp s2 ra => ?_)
  · rw [List.getElem?_map] at hd
    cases ha : xs[i]? with
    | none => rw [ha] at hd; cases hd
    | some a =>
      rw [ha] at hd; cases hd
      have es : stS f st0 xs (i + 1) = (f (stS f st0 xs i) a).2 := by show (match xs[i]? with | some a => _ | none => _) = _; rw [ha]
      rw [ha] at h1 h0
      rw [es] at h1 h0
      intro s H0 C cl fp
      refine bd.tgt s H0 C cl fp a v F' _ H' _ (List.mem_of_getElem? ha) ww rr fun σ2 b2 => ⟨bd.wp a σ2 F' b2, ?_⟩
      exact hb _ a σ2 F' H' (List.mem_of_getElem? ha) gg ww b2 Q1 Q0 (fun v F2 H2 y hy s r => h1 v F2 H2 (encR y) (by show Option.map encR _ = _; rw [hy]; rfl) s r) fun F2 H2 hy s => h0 F2 H2 (by show Option.map encR _ = _; rw [hy]; rfl) s
  · rw [List.length_map] at s2 ra
    rw [stS_run] at s2
    rw [runS_eq] at ra
    exact q p us F2 H2 hp s2 ra
/-- test and item as such a body -/
theorem body_t {B : α → L2.St → Hp → Prop} {pr : β → α → Bool} {f0 : β → α → γ} {s1 s2 : β → α → β} {c : Expr} (bd : Bd X scope tg (own.map (·.2)) σ enc xs B)
    (ht : ∀ s H0 C cl fp st a σ2 F', a ∈ xs → Gr F F' → B a σ2 F' → ZT (blkX X scope s H0 C cl fp) c σ2 F' (G st) (pr st a) (G (s1 st a)))
    (he : ∀ s H0 C cl fp st a σ2 F', a ∈ xs → pr st a = true → Gr F F' → B a σ2 F' → ZE (blkX X scope s H0 C cl fp) elt σ2 F' (G (s1 st a)) (encR (f0 st a)) (G (s2 st a))) :
    ∀ st a σ2 F' H', a ∈ xs → Gr F F' → WOk F' (G st) H' → B a σ2 F' → ∀ (Q1 : V → Hp → Prop) (Q0 : Hp → Prop), (∀ v F2 H2 y, (genF pr f0 s1 s2 st a).1 = some y → Stp F' (G st) H' F2 (G (genF pr f0 s1 s2 st a).2) H2 → R X.K F2 v (encR y) → Q1 v H2) → (∀ F2 H2, (genF pr f0 s1 s2 st a).1 = none → Stp F' (G st) H' F2 (G (genF pr f0 s1 s2 st a).2) H2 → Q0 H2) →
      uT X scope c σ2 H' fun b H3 => if b = true then uE X scope elt σ2 H3 Q1 else Q0 H3 := fun st a σ2 F' H' ha g w b2 Q1 Q0 h1 h0 => by
  intro s H0 C cl fp
  unfold genF at h1 h0
  refine ht s H0 C cl fp st a σ2 F' ha g b2 F' H' Gr.refl w _ fun F2 H2 s2' => ?_
  cases hp : pr st a with
  | true =>
    rw [if_pos rfl]
    intro s H0 C cl fp
    refine he s H0 C cl fp st a σ2 F2 ha hp (g.trans s2'.gr) (bd.mono _ _ _ _ b2 s2'.gr) F2 H2 Gr.refl s2'.ok _ fun u F3 H3 s3 r3 => h1 u F3 H3 (f0 st a) (by rw [hp]; rfl) ?_ r3
    rw [hp]
    exact s2'.trans s3
  | false =>
    rw [if_neg (by decide)]
    refine h0 F2 H2 (by rw [hp]; rfl) ?_
    rw [hp]
    exact s2'
theorem body_n {B : α → L2.St → Hp → Prop} {f0 : β → α → γ} {s2 : β → α → β}
    (he : ∀ s H0 C cl fp st a σ2 F', a ∈ xs → Gr F F' → B a σ2 F' → ZE (blkX X scope s H0 C cl fp) elt σ2 F' (G st) (encR (f0 st a)) (G (s2 st a))) :
    ∀ st a σ2 F' H', a ∈ xs → Gr F F' → WOk F' (G st) H' → B a σ2 F' → ∀ (Q1 : V → Hp → Prop) (Q0 : Hp → Prop), (∀ v F2 H2 y, ((fun st a => (some (f0 st a), s2 st a)) st a : Option γ × β).1 = some y → Stp F' (G st) H' F2 (G ((fun st a => (some (f0 st a), s2 st a)) st a : Option γ × β).2) H2 → R X.K F2 v (encR y) → Q1 v H2) → (∀ F2 H2, ((fun st a => (some (f0 st a), s2 st a)) st a : Option γ × β).1 = none → Stp F' (G st) H' F2 (G ((fun st a => (some (f0 st a), s2 st a)) st a : Option γ × β).2) H2 → Q0 H2) →
      tYes σ2 H' fun b H3 => if b = true then uE X scope elt σ2 H3 Q1 else Q0 H3 := fun st a σ2 F' H' ha g w b2 Q1 Q0 h1 h0 => by
  show (if true = true then uE X scope elt σ2 H' Q1 else Q0 H')
  rw [if_pos rfl]
  intro s H0 C cl fp
  exact he s H0 C cl fp st a σ2 F' ha g b2 F' H' Gr.refl w _ fun u F2 H2 s2 r2 => h1 u F2 H2 _ rfl s2 r2
theorem zn_lcXt {B : α → L2.St → Hp → Prop} {pr : β → α → Bool} {f0 : β → α → γ} {s1 s2 : β → α → β} {c : Expr} (hc : X.calm = true) (hN : X.N.Nodup) (hi : ZI X tg iter σ F O (xs.map enc) (G st0)) (bd : Bd X scope tg (own.map (·.2)) σ enc xs B)
    (ht : ∀ s H0 C cl fp st a σ2 F', a ∈ xs → Gr F F' → B a σ2 F' → ZT (blkX X scope s H0 C cl fp) c σ2 F' (G st) (pr st a) (G (s1 st a)))
    (he : ∀ s H0 C cl fp st a σ2 F', a ∈ xs → pr st a = true → Gr F F' → B a σ2 F' → ZE (blkX X scope s H0 C cl fp) elt σ2 F' (G (s1 st a)) (encR (f0 st a)) (G (s2 st a)))
    (ok : BlkOk X.N X.env.scope scope own) (hs : ∀ x, foldedSetIterable iter X.env x = pure x := by intro _; rfl) :
    ZN X (.ListComp elt [⟨tg, iter, [c], 0⟩] scope pos) σ F O ((runS (genF pr f0 s1 s2) st0 xs).1.map encR) (G (runS (genF pr f0 s1 s2) st0 xs).2) := fun F1 H g1 w Q q =>
  wE_of (pe_lc hc hN pi_w ok pg_u (fun s H C cl fp => pts_one (pt_u s H C cl fp)) pe_u hs) (lcX_read hi bd (body_t bd ht he) g1 w q)
theorem zn_lcXn {B : α → L2.St → Hp → Prop} {f0 : β → α → γ} {s2 : β → α → β} (hc : X.calm = true) (hN : X.N.Nodup) (hi : ZI X tg iter σ F O (xs.map enc) (G st0)) (bd : Bd X scope tg (own.map (·.2)) σ enc xs B)
    (he : ∀ s H0 C cl fp st a σ2 F', a ∈ xs → Gr F F' → B a σ2 F' → ZE (blkX X scope s H0 C cl fp) elt σ2 F' (G st) (encR (f0 st a)) (G (s2 st a)))
    (ok : BlkOk X.N X.env.scope scope own) (hs : ∀ x, foldedSetIterable iter X.env x = pure x := by intro _; rfl) :
    ZN X (.ListComp elt [⟨tg, iter, [], 0⟩] scope pos) σ F O ((mapS (fun st a => (f0 st a, s2 st a)) st0 xs).1.map encR) (G (mapS (fun st a => (f0 st a, s2 st a)) st0 xs).2) := by
  have h : ZN X (.ListComp elt [⟨tg, iter, [], 0⟩] scope pos) σ F O ((runS (fun st a => (some (f0 st a), s2 st a)) st0 xs).1.map encR) (G (runS (fun st a => (some (f0 st a), s2 st a)) st0 xs).2) := fun F1 H g1 w Q q =>
    wE_of (pe_lc hc hN pi_w ok pg_u (fun s H C cl fp => pts_nil) pe_u hs) (lcX_read hi bd (body_n he) g1 w q)
  rw [runS_state (f0 := fun st a => (f0 st a, s2 st a))] at h
  exact h
/-- a comprehension that goes into a plain local -/
theorem zs_setLcXt (w : WOk F O H) {i0 : Nat} {rest : List Stmt} {D : Ends} {B : α → L2.St → Hp → Prop} {pr : β → α → Bool} {f0 : β → α → γ} {s1 s2 : β → α → β} {c : Expr} (hc : X.calm = true) (hN : X.N.Nodup) (hi : ZI X tg iter σ F O (xs.map enc) (G st0)) (bd : Bd X scope tg (own.map (·.2)) σ enc xs B)
    (ht : ∀ s H0 C cl fp st a σ2 F', a ∈ xs → Gr F F' → B a σ2 F' → ZT (blkX X scope s H0 C cl fp) c σ2 F' (G st) (pr st a) (G (s1 st a)))
    (he : ∀ s H0 C cl fp st a σ2 F', a ∈ xs → pr st a = true → Gr F F' → B a σ2 F' → ZE (blkX X scope s H0 C cl fp) elt σ2 F' (G (s1 st a)) (encR (f0 st a)) (G (s2 st a)))
    (ok : BlkOk X.N X.env.scope scope own) (hy : X.N[i0]? = some y) (hyl : X.env.scope.names.lookup y = some .local)
    (hsw : swapsWith (.ListComp elt [⟨tg, iter, [c], 0⟩] scope pos) (some (.Name y py)) spos.line X.env = pure true)
    (kk : ∀ p us F1 H1, H p = none → Stp F O H F1 ((p, .lst us) :: G (runS (genF pr f0 s1 s2) st0 xs).2) H1 → RA X.K F1 us ((runS (genF pr f0 s1 s2) st0 xs).1.map encR) → ZS X rest (σ.set i0 (some (.ref p))) H1 D) (hs : ∀ x, foldedSetIterable iter X.env x = pure x := by intro _; rfl) :
    ZS X (.Assign [.Name y py] (.ListComp elt [⟨tg, iter, [c], 0⟩] scope pos) spos :: rest) σ H D :=
  wSs_of (pss_cons (ps_setLc hc hN hy hyl hsw pi_w ok pg_u (fun s H C cl fp => pts_one (pt_u s H C cl fp)) pe_u hs) pss_w) (lcX_read (Q := fun v H' => ZS X rest (σ.set i0 (some v)) H' D) hi bd (body_t bd ht he) Gr.refl w fun p us F2 H2 hp s ra => kk p us F2 H2 hp s ra)
theorem zs_setLcXn (w : WOk F O H) {i0 : Nat} {rest : List Stmt} {D : Ends} {B : α → L2.St → Hp → Prop} {f0 : β → α → γ} {s2 : β → α → β} (hc : X.calm = true) (hN : X.N.Nodup) (hi : ZI X tg iter σ F O (xs.map enc) (G st0)) (bd : Bd X scope tg (own.map (·.2)) σ enc xs B)
    (he : ∀ s H0 C cl fp st a σ2 F', a ∈ xs → Gr F F' → B a σ2 F' → ZE (blkX X scope s H0 C cl fp) elt σ2 F' (G st) (encR (f0 st a)) (G (s2 st a)))
    (ok : BlkOk X.N X.env.scope scope own) (hy : X.N[i0]? = some y) (hyl : X.env.scope.names.lookup y = some .local)
    (hsw : swapsWith (.ListComp elt [⟨tg, iter, [], 0⟩] scope pos) (some (.Name y py)) spos.line X.env = pure true)
    (kk : ∀ p us F1 H1, H p = none → Stp F O H F1 ((p, .lst us) :: G (mapS (fun st a => (f0 st a, s2 st a)) st0 xs).2) H1 → RA X.K F1 us ((mapS (fun st a => (f0 st a, s2 st a)) st0 xs).1.map encR) → ZS X rest (σ.set i0 (some (.ref p))) H1 D) (hs : ∀ x, foldedSetIterable iter X.env x = pure x := by intro _; rfl) :
    ZS X (.Assign [.Name y py] (.ListComp elt [⟨tg, iter, [], 0⟩] scope pos) spos :: rest) σ H D :=
  wSs_of (pss_cons (ps_setLc hc hN hy hyl hsw pi_w ok pg_u (fun s H C cl fp => pts_nil) pe_u hs) pss_w) (lcX_read (Q := fun v H' => ZS X rest (σ.set i0 (some v)) H' D) hi bd (body_n he) Gr.refl w fun p us F2 H2 hp s ra => kk p us F2 H2 hp (by rw [runS_state (f0 := fun st a => (f0 st a, s2 st a))] at s; exact s) (by rw [runS_state (f0 := fun st a => (f0 st a, s2 st a))] at ra; exact ra))

theorem tYes_if {σ : L2.St} {H : Hp} {p q : Hp → Prop} (h : p H) : tYes σ H fun b H3 => if b = true then p H3 else q H3 := by
  show (if true = true then p H else q H)
  rw [if_pos rfl]; exact h
/-! ### two fors, without a state -/
/-- the reading: the first item's list, then the second's .. -/
theorem lc2_read {wi wi1 : TI} {g g1 : TG} {te : TE} {tt1 : TT} {vs : List Nat} {K : PySem.W.Frag} {xs : List α} {ys : α → List α1} {r : α → α1 → Option PyData} {B : α → L2.St → Hp → Prop}
    (hi : ∀ F1 H, Gr F F1 → WOk F1 O H → ∀ Q : It → Hp → Prop, (∀ J F2 H2, Stp F1 O H F2 O H2 → Walks K J F2 (xs.map enc) → Q J H2) → wi σ H Q)
    (hg : ∀ a x F' O' H' Q, a ∈ xs → WOk F' O' H' → R K F' x (enc a) → (∀ σ2, wipe σ2 vs = wipe σ vs → B a σ2 F' → Q σ2 H') → g x (wipe σ vs) H' Q)
    (hBm : ∀ a σ2 F' F'', B a σ2 F' → Gr F' F'' → B a σ2 F'')
    (hi1 : ∀ a σ2 F1 H, a ∈ xs → Gr F F1 → B a σ2 F1 → WOk F1 O H → ∀ Q : It → Hp → Prop, (∀ J F2 H2, Stp F1 O H F2 O H2 → Walks K J F2 ((ys a).map enc1) → Q J H2) → wi1 σ2 H Q)
    (hb : ∀ a b σ2 x F' H', a ∈ xs → b ∈ ys a → Gr F F' → WOk F' O H' → B a σ2 F' → R K F' x (enc1 b) → ∀ (Q1 : V → Hp → Prop) (Q0 : Hp → Prop), (∀ v F2 H2 y, r a b = some y → Stp F' O H' F2 O H2 → R K F2 v y → Q1 v H2) → (∀ F2 H2, r a b = none → Stp F' O H' F2 O H2 → Q0 H2) →
      g1 x (wipe σ2 vs1) H' fun σ3 H3 => wipe σ3 vs1 = wipe σ2 vs1 ∧ tt1 σ3 H3 fun b H4 => if b = true then te σ3 H4 Q1 else Q0 H4)
    (hz : (xs.flatMap fun a => (ys a).filterMap (r a)).length ≤ sizeLine)
    {F1 H : Hp} (gg1 : Gr F F1) (w : WOk F1 O H) {Q : VK} (q : ∀ p us F2 H2, H p = none → Stp F1 O H F2 ((p, .lst us) :: O) H2 → RA K F2 us (xs.flatMap fun a => (ys a).filterMap (r a)) → Q (.ref p) H2) : tLc2 wi g tYes wi1 g1 tt1 te vs vs1 σ H Q := by
  refine hi F1 H gg1 w _ fun J F2 H2 s1 wk => fun D hD => ?_
  have hD0 : H D = none := by
    cases z : H D with
    | none => rfl
    | some u => exact absurd hD (s1.dom D (by rw [z]; simp))
  have hsplit : ∀ i, i < xs.length → ∃ a, xs[i]? = some a ∧ ((xs.take (i + 1)).flatMap fun a => (ys a).filterMap (r a)) = ((xs.take i).flatMap fun a => (ys a).filterMap (r a)) ++ (ys a).filterMap (r a) := fun i h => by
    refine ⟨xs[i], List.getElem?_eq_getElem h, ?_⟩
    rw [List.take_add_one, List.getElem?_eq_getElem h, List.flatMap_append]
    simp
  have hle : ∀ i j a, xs[i]? = some a → (((xs.take i).flatMap fun a => (ys a).filterMap (r a)) ++ ((ys a).take j).filterMap (r a)).length ≤ sizeLine := fun i j a ha => by
    refine Nat.le_trans (List.Sublist.length_le ?_) hz
    obtain ⟨hi, e⟩ := List.getElem?_eq_some_iff.mp ha
    obtain ⟨a', ha', e2⟩ := hsplit i hi
    rw [ha] at ha'; cases ha'
    have h1 : (((xs.take i).flatMap fun a => (ys a).filterMap (r a)) ++ ((ys a).take j).filterMap (r a)).Sublist ((xs.take (i + 1)).flatMap fun a => (ys a).filterMap (r a)) := by
      rw [e2]
      exact List.Sublist.append (List.Sublist.refl _) ((List.take_sublist _ _).filterMap _)
    refine h1.trans ?_
    have e3 : xs = xs.take (i + 1) ++ xs.drop (i + 1) := (List.take_append_drop _ _).symm
    have e4 : (xs.flatMap fun a => (ys a).filterMap (r a)) = ((xs.take (i + 1)).flatMap fun a => (ys a).filterMap (r a)) ++ ((xs.drop (i + 1)).flatMap fun a => (ys a).filterMap (r a)) := by rw [← List.flatMap_append, List.take_append_drop]
    rw [e4]
    exact List.sublist_append_left _ _
  refine ⟨fun i m H' => m = xs.length - i ∧ i ≤ xs.length ∧ ∃ F' us, Gr F2 F' ∧ Stp F1 O H F' ((D, .lst us) :: O) H' ∧ RA K F' us ((xs.take i).flatMap fun a => (ys a).filterMap (r a)), ⟨xs.length, by simp, Nat.zero_le _, F2, [], Gr.refl, s1.trans (Stp.alloc s1.ok hD (Nat.zero_le _)), .nil⟩, ?_⟩
  rintro i m H' ⟨rfl, hle', F', us, g2, st, ra⟩
  by_cases hlt : i < xs.length
  · obtain ⟨a, ha, hsp⟩ := hsplit i hlt
    have ham := List.mem_of_getElem? ha
    refine .inr ⟨wk.go F' _ H' g2 st.ok i (by rw [List.length_map]; exact hlt), fun H3 => ∃ F3 us', Gr F2 F3 ∧ Stp F1 O H F3 ((D, .lst us') :: O) H3 ∧ RA K F3 us' ((xs.take (i + 1)).flatMap fun a => (ys a).filterMap (r a)), fun H3 ⟨F3, us', h2, h3, h4⟩ => ⟨xs.length - (i + 1), by omega, rfl, hlt, F3, us', h2, h3, h4⟩, fun x H3 y => ?_⟩
    obtain ⟨F3, s2, rx⟩ := wk.yld F' _ H' g2 st.ok i x H3 (enc a) (by rw [List.getElem?_map, ha]; rfl) y
    refine hg a x F3 _ H3 _ ham s2.ok rx fun σ2 hw b2 => ⟨hw, ?_⟩
    refine tYes_if ?_
    have g3 : Gr F F3 := gg1.trans (s1.gr.trans (g2.trans s2.gr))
    refine hi1 a σ2 F3 H3 ham g3 b2 s2.ok.tail _ fun J1 F4 H4 s3 wk1 => ?_
    have st4 := st.trans (s2.trans (Stp.cons s2.ok s3))
    refine ⟨fun j m H' => m = (ys a).length - j ∧ j ≤ (ys a).length ∧ ∃ F' us, Gr F4 F' ∧ Stp F1 O H F' ((D, .lst us) :: O) H' ∧ RA K F' us (((xs.take i).flatMap fun a => (ys a).filterMap (r a)) ++ ((ys a).take j).filterMap (r a)), ⟨(ys a).length, by simp, Nat.zero_le _, F4, us, Gr.refl, st4, by
      rw [List.take_zero, List.filterMap_nil, List.append_nil]
      exact ra.mono (s2.gr.trans s3.gr)⟩, ?_⟩
    rintro j m H5 ⟨rfl, hjl, F5, us5, g5, st5, ra5⟩
    by_cases hjt : j < (ys a).length
    · have hbj : (ys a)[j]? = some (ys a)[j] := List.getElem?_eq_getElem hjt
      have htk : ((ys a).take (j + 1)).filterMap (r a) = ((ys a).take j).filterMap (r a) ++ (match r a (ys a)[j] with | some y => [y] | none => []) := by
        rw [List.take_add_one, hbj, List.filterMap_append]
        congr 1
        show [(ys a)[j]].filterMap (r a) = _
        rw [List.filterMap_cons]
        cases r a (ys a)[j] <;> rfl
      refine .inr ⟨wk1.go F5 _ H5 g5 st5.ok j (by rw [List.length_map]; exact hjt), fun H6 => ∃ F6 us', Gr F4 F6 ∧ Stp F1 O H F6 ((D, .lst us') :: O) H6 ∧ RA K F6 us' (((xs.take i).flatMap fun a => (ys a).filterMap (r a)) ++ ((ys a).take (j + 1)).filterMap (r a)), fun H6 ⟨F6, us', h2, h3, h4⟩ => ⟨(ys a).length - (j + 1), by omega, rfl, hjt, F6, us', h2, h3, h4⟩, fun x5 H6 y5 => ?_⟩
      obtain ⟨F6, s6, rx5⟩ := wk1.yld F5 _ H5 g5 st5.ok j x5 H6 (enc1 (ys a)[j]) (by rw [List.getElem?_map, hbj]; rfl) y5
      have g34 : Gr F3 F6 := s3.gr.trans (g5.trans s6.gr)
      refine hb a (ys a)[j] σ2 x5 F6 H6 ham (List.getElem_mem hjt) (g3.trans g34) s6.ok.tail (hBm a σ2 F3 F6 b2 g34) rx5 _ _ (fun v F7 H7 y hy s7 r7 => ?_) fun F7 H7 hy s7 => ?_
      · have st7 := st5.trans (s6.trans (Stp.cons s6.ok s7))
        have hl7 : us5.length < sizeLine := by
          have h1 := hle i (j + 1) a ha
          rw [htk, hy, ← List.append_assoc, List.length_append] at h1
          have h2 := ra5.len
          have h1 : _ + 1 ≤ sizeLine := h1
          rw [← h2] at h1
          exact h1
        have s8 := Stp.write (o' := .lst (us5 ++ [v])) st7.ok (k := 0) rfl (by show (us5 ++ [v]).length ≤ _; rw [List.length_append]; exact hl7)
        refine ⟨us5, (st7.ok.own (D, .lst us5) List.mem_cons_self).1, hl7, F7, us5 ++ [v], g5.trans (s6.gr.trans s7.gr), st7.trans s8, ?_⟩
        rw [htk, hy, ← List.append_assoc]
        exact (ra5.mono (s6.gr.trans s7.gr)).snoc r7
      · refine ⟨F7, us5, g5.trans (s6.gr.trans s7.gr), st5.trans (s6.trans (Stp.cons s6.ok s7)), ?_⟩
        rw [htk, hy]
        show RA K F7 us5 (_ ++ (_ ++ []))
        rw [List.append_nil]
        exact ra5.mono (s6.gr.trans s7.gr)
    · have ej : j = (ys a).length := by omega
      subst ej
      refine .inl ⟨wk1.stop F5 _ H5 g5 st5.ok _ (by rw [List.length_map]; exact Nat.le_refl _), F5, us5, ?_, st5, ?_⟩
      · exact g2.trans (s2.gr.trans (s3.gr.trans g5))
      · rw [hsp]
        rw [List.take_length] at ra5
        exact ra5
  · have ei : i = xs.length := by omega
    subst ei
    rw [List.take_length] at ra
    exact .inl ⟨wk.stop F' _ H' g2 st.ok _ (by rw [List.length_map]; exact Nat.le_refl _), q D us F' H' hD0 st ra⟩
/-- how the second target is bound -/
structure Bd1 (X : Cx) (scope : Scope) (tg1 : Expr) (vs1 : List Nat) (enc1 : α1 → PyData) (xs : List α) (ys : α → List α1) (B : α → L2.St → Hp → Prop) (B1 : α → α1 → L2.St → Hp → Prop) : Prop where
  mono : ∀ a b σ2 F' F'', B1 a b σ2 F' → Gr F' F'' → B1 a b σ2 F''
  tgt : ∀ s H0 C cl fp a b v σ2 F' O' H' Q, a ∈ xs → b ∈ ys a → B a σ2 F' → WOk F' O' H' → R X.K F' v (enc1 b) → (∀ σ3, wipe σ3 vs1 = wipe σ2 vs1 → B1 a b σ3 F' → Q σ3 H') → wG (blkX X scope s H0 C cl fp) tg1 v (wipe σ2 vs1) H' Q
theorem flat_map {α α1 γ : Type} {encR : γ → PyData} {xs : List α} {ys : α → List α1} {f0 : α → α1 → γ} : (xs.flatMap fun a => (ys a).filterMap fun b => some (encR (f0 a b))) = (xs.flatMap fun a => (ys a).map (f0 a)).map encR := by
  rw [List.map_flatMap]
  congr 1; funext a
  rw [List.map_map, ← List.filterMap_eq_map]; rfl
theorem flat_filter {α α1 γ : Type} {encR : γ → PyData} {xs : List α} {ys : α → List α1} {f0 : α → α1 → γ} {pr : α → α1 → Bool} : (xs.flatMap fun a => (ys a).filterMap fun b => if pr a b then some (encR (f0 a b)) else none) = (xs.flatMap fun a => ((ys a).filter (pr a)).map (f0 a)).map encR := by
  rw [List.map_flatMap]
  congr 1; funext a
  rw [List.map_map]
  induction ys a with
  | nil => rfl
  | cons b bs ih =>
    rw [List.filterMap_cons, List.filter_cons]
    cases h : pr a b with
    | true => rw [if_pos rfl, if_pos rfl, List.map_cons, ← ih]; rfl
    | false => rw [if_neg (by decide), if_neg (by decide), ← ih]
theorem lc2n_read {B : α → L2.St → Hp → Prop} {B1 : α → α1 → L2.St → Hp → Prop} {ys : α → List α1} {f0 : α → α1 → γ} (hi : ZI X tg iter σ F O (xs.map enc) O) (bd : Bd X scope tg (own.map (·.2)) σ enc xs B)
    (hi1 : ∀ s H0 C cl fp a σ2 F', a ∈ xs → Gr F F' → B a σ2 F' → ZI (blkX X scope s H0 C cl fp) tg1 iter1 σ2 F' O ((ys a).map enc1) O) (bd1 : Bd1 X scope tg1 vs1 enc1 xs ys B B1)
    (he : ∀ s H0 C cl fp a b σ3 F', a ∈ xs → b ∈ ys a → Gr F F' → B1 a b σ3 F' → ZE (blkX X scope s H0 C cl fp) elt σ3 F' O (encR (f0 a b)) O) (hz : (xs.flatMap fun a => (ys a).map (f0 a)).length ≤ sizeLine)
    {F1 H : Hp} (g1 : Gr F F1) (w : WOk F1 O H) {Q : VK} (q : ∀ p us F2 H2, H p = none → Stp F1 O H F2 ((p, .lst us) :: O) H2 → RA X.K F2 us ((xs.flatMap fun a => (ys a).map (f0 a)).map encR) → Q (.ref p) H2) :
    tLc2 (wI X tg iter) (uG X scope tg) tYes (uI X scope tg1 iter1) (uG X scope tg1) tYes (uE X scope elt) (own.map (·.2)) vs1 σ H Q :=
  lc2_read (ys := ys) (r := fun a b => some (encR (f0 a b))) (B := B) (enc1 := enc1) (fun F1 H g1 w Q q => hi F1 H g1 w Q q) (fun a x F' O' H' Q ha w r k s H0 C cl fp => bd.tgt s H0 C cl fp a x F' O' H' Q ha w r fun σ2 b2 => k σ2 (bd.wp _ _ _ b2) b2) bd.mono
    (fun a σ2 F1 H ha g b2 w Q q s H0 C cl fp => hi1 s H0 C cl fp a σ2 F1 ha g b2 F1 H Gr.refl w Q q)
    (fun a b σ2 x F' H' ha hb g w b2 r Q1 Q0 h1 h0 s H0 C cl fp => bd1.tgt s H0 C cl fp a b x σ2 F' O H' _ ha hb b2 w r fun σ3 hw b3 => ⟨hw, tYes_if fun s H0 C cl fp => he s H0 C cl fp a b σ3 F' ha hb g b3 F' H' Gr.refl w _ fun u F2 H2 s2 r2 => h1 u F2 H2 _ rfl s2 r2⟩)
    (by rw [flat_map, List.length_map]; exact hz) g1 w fun p us F2 H2 hp s r => q p us F2 H2 hp s (by rw [flat_map] at r; exact r)
theorem lc2t_read {B : α → L2.St → Hp → Prop} {B1 : α → α1 → L2.St → Hp → Prop} {ys : α → List α1} {f0 : α → α1 → γ} {pr : α → α1 → Bool} {c : Expr} (hi : ZI X tg iter σ F O (xs.map enc) O) (bd : Bd X scope tg (own.map (·.2)) σ enc xs B)
    (hi1 : ∀ s H0 C cl fp a σ2 F', a ∈ xs → Gr F F' → B a σ2 F' → ZI (blkX X scope s H0 C cl fp) tg1 iter1 σ2 F' O ((ys a).map enc1) O) (bd1 : Bd1 X scope tg1 vs1 enc1 xs ys B B1)
    (ht : ∀ s H0 C cl fp a b σ3 F', a ∈ xs → b ∈ ys a → Gr F F' → B1 a b σ3 F' → ZT (blkX X scope s H0 C cl fp) c σ3 F' O (pr a b) O)
    (he : ∀ s H0 C cl fp a b σ3 F', a ∈ xs → b ∈ ys a → pr a b = true → Gr F F' → B1 a b σ3 F' → ZE (blkX X scope s H0 C cl fp) elt σ3 F' O (encR (f0 a b)) O) (hz : (xs.flatMap fun a => ((ys a).filter (pr a)).map (f0 a)).length ≤ sizeLine)
    {F1 H : Hp} (g1 : Gr F F1) (w : WOk F1 O H) {Q : VK} (q : ∀ p us F2 H2, H p = none → Stp F1 O H F2 ((p, .lst us) :: O) H2 → RA X.K F2 us ((xs.flatMap fun a => ((ys a).filter (pr a)).map (f0 a)).map encR) → Q (.ref p) H2) :
    tLc2 (wI X tg iter) (uG X scope tg) tYes (uI X scope tg1 iter1) (uG X scope tg1) (uT X scope c) (uE X scope elt) (own.map (·.2)) vs1 σ H Q :=
  lc2_read (ys := ys) (r := fun a b => if pr a b then some (encR (f0 a b)) else none) (B := B) (enc1 := enc1) (fun F1 H g1 w Q q => hi F1 H g1 w Q q) (fun a x F' O' H' Q ha w r k s H0 C cl fp => bd.tgt s H0 C cl fp a x F' O' H' Q ha w r fun σ2 b2 => k σ2 (bd.wp _ _ _ b2) b2) bd.mono
    (fun a σ2 F1 H ha g b2 w Q q s H0 C cl fp => hi1 s H0 C cl fp a σ2 F1 ha g b2 F1 H Gr.refl w Q q)
    (fun a b σ2 x F' H' ha hb g w b2 r Q1 Q0 h1 h0 s H0 C cl fp => bd1.tgt s H0 C cl fp a b x σ2 F' O H' _ ha hb b2 w r fun σ3 hw b3 => ⟨hw, fun s H0 C cl fp => ht s H0 C cl fp a b σ3 F' ha hb g b3 F' H' Gr.refl w _ fun F2 H2 s2 => by
      cases hp : pr a b with
      | true =>
        rw [if_pos rfl]
        intro s H0 C cl fp
        exact he s H0 C cl fp a b σ3 F2 ha hb hp (g.trans s2.gr) (bd1.mono _ _ _ _ _ b3 s2.gr) F2 H2 Gr.refl s2.ok _ fun u F3 H3 s3 r3 => h1 u F3 H3 _ (by rw [hp]; rfl) (s2.trans s3) r3
      | false =>
        rw [if_neg (by decide)]
        exact h0 F2 H2 (by rw [hp]; rfl) s2⟩)
    (by rw [flat_filter, List.length_map]; exact hz) g1 w fun p us F2 H2 hp s r => q p us F2 H2 hp s (by rw [flat_filter] at r; exact r)
theorem zn_lc2n {B : α → L2.St → Hp → Prop} {B1 : α → α1 → L2.St → Hp → Prop} {ys : α → List α1} {f0 : α → α1 → γ} (hc : X.calm = true) (hN : X.N.Nodup) (hi : ZI X tg iter σ F O (xs.map enc) O) (bd : Bd X scope tg (own.map (·.2)) σ enc xs B)
    (hi1 : ∀ s H0 C cl fp a σ2 F', a ∈ xs → Gr F F' → B a σ2 F' → ZI (blkX X scope s H0 C cl fp) tg1 iter1 σ2 F' O ((ys a).map enc1) O) (bd1 : Bd1 X scope tg1 vs1 enc1 xs ys B B1)
    (he : ∀ s H0 C cl fp a b σ3 F', a ∈ xs → b ∈ ys a → Gr F F' → B1 a b σ3 F' → ZE (blkX X scope s H0 C cl fp) elt σ3 F' O (encR (f0 a b)) O) (hz : (xs.flatMap fun a => (ys a).map (f0 a)).length ≤ sizeLine)
    (ok : BlkOk X.N X.env.scope scope own) (hv : ∀ i ∈ vs1, i ∈ own.map (·.2)) (hs : ∀ x, foldedSetIterable iter X.env x = pure x := by intro _; rfl) (hs1 : ∀ env x, foldedSetIterable iter1 env x = pure x := by intro _ _; rfl) :
    ZN X (.ListComp elt [⟨tg, iter, [], 0⟩, ⟨tg1, iter1, [], 0⟩] scope pos) σ F O ((xs.flatMap fun a => (ys a).map (f0 a)).map encR) O := fun F1 H g1 w Q q =>
  wE_of (pe_lc2 hc hN pi_w ok hv pg_u (fun s H C cl fp => pts_nil) pi_u pg_u (fun s H C cl fp => pts_nil) pe_u hs hs1) (lc2n_read hi bd hi1 bd1 he hz g1 w q)
theorem zn_lc2t {B : α → L2.St → Hp → Prop} {B1 : α → α1 → L2.St → Hp → Prop} {ys : α → List α1} {f0 : α → α1 → γ} {pr : α → α1 → Bool} {c : Expr} (hc : X.calm = true) (hN : X.N.Nodup) (hi : ZI X tg iter σ F O (xs.map enc) O) (bd : Bd X scope tg (own.map (·.2)) σ enc xs B)
    (hi1 : ∀ s H0 C cl fp a σ2 F', a ∈ xs → Gr F F' → B a σ2 F' → ZI (blkX X scope s H0 C cl fp) tg1 iter1 σ2 F' O ((ys a).map enc1) O) (bd1 : Bd1 X scope tg1 vs1 enc1 xs ys B B1)
    (ht : ∀ s H0 C cl fp a b σ3 F', a ∈ xs → b ∈ ys a → Gr F F' → B1 a b σ3 F' → ZT (blkX X scope s H0 C cl fp) c σ3 F' O (pr a b) O)
    (he : ∀ s H0 C cl fp a b σ3 F', a ∈ xs → b ∈ ys a → pr a b = true → Gr F F' → B1 a b σ3 F' → ZE (blkX X scope s H0 C cl fp) elt σ3 F' O (encR (f0 a b)) O) (hz : (xs.flatMap fun a => ((ys a).filter (pr a)).map (f0 a)).length ≤ sizeLine)
    (ok : BlkOk X.N X.env.scope scope own) (hv : ∀ i ∈ vs1, i ∈ own.map (·.2)) (hs : ∀ x, foldedSetIterable iter X.env x = pure x := by intro _; rfl) (hs1 : ∀ env x, foldedSetIterable iter1 env x = pure x := by intro _ _; rfl) :
    ZN X (.ListComp elt [⟨tg, iter, [], 0⟩, ⟨tg1, iter1, [c], 0⟩] scope pos) σ F O ((xs.flatMap fun a => ((ys a).filter (pr a)).map (f0 a)).map encR) O := fun F1 H g1 w Q q =>
  wE_of (pe_lc2 hc hN pi_w ok hv pg_u (fun s H C cl fp => pts_nil) pi_u pg_u (fun s H C cl fp => pts_one (pt_u s H C cl fp)) pe_u hs hs1) (lc2t_read hi bd hi1 bd1 ht he hz g1 w q)
theorem zs_setLc2n (w : WOk F O H) {i0 : Nat} {rest : List Stmt} {D : Ends} {B : α → L2.St → Hp → Prop} {B1 : α → α1 → L2.St → Hp → Prop} {ys : α → List α1} {f0 : α → α1 → γ} (hc : X.calm = true) (hN : X.N.Nodup) (hi : ZI X tg iter σ F O (xs.map enc) O) (bd : Bd X scope tg (own.map (·.2)) σ enc xs B)
    (hi1 : ∀ s H0 C cl fp a σ2 F', a ∈ xs → Gr F F' → B a σ2 F' → ZI (blkX X scope s H0 C cl fp) tg1 iter1 σ2 F' O ((ys a).map enc1) O) (bd1 : Bd1 X scope tg1 vs1 enc1 xs ys B B1)
    (he : ∀ s H0 C cl fp a b σ3 F', a ∈ xs → b ∈ ys a → Gr F F' → B1 a b σ3 F' → ZE (blkX X scope s H0 C cl fp) elt σ3 F' O (encR (f0 a b)) O) (hz : (xs.flatMap fun a => (ys a).map (f0 a)).length ≤ sizeLine)
    (ok : BlkOk X.N X.env.scope scope own) (hv : ∀ i ∈ vs1, i ∈ own.map (·.2)) (hy : X.N[i0]? = some y) (hyl : X.env.scope.names.lookup y = some .local)
    (hsw : swapsWith (.ListComp elt [⟨tg, iter, [], 0⟩, ⟨tg1, iter1, [], 0⟩] scope pos) (some (.Name y py)) spos.line X.env = pure true)
    (kk : ∀ p us F1 H1, H p = none → Stp F O H F1 ((p, .lst us) :: O) H1 → RA X.K F1 us ((xs.flatMap fun a => (ys a).map (f0 a)).map encR) → ZS X rest (σ.set i0 (some (.ref p))) H1 D) (hs : ∀ x, foldedSetIterable iter X.env x = pure x := by intro _; rfl) (hs1 : ∀ env x, foldedSetIterable iter1 env x = pure x := by intro _ _; rfl) :
    ZS X (.Assign [.Name y py] (.ListComp elt [⟨tg, iter, [], 0⟩, ⟨tg1, iter1, [], 0⟩] scope pos) spos :: rest) σ H D :=
  wSs_of (pss_cons (ps_setLc2 hc hN hy hyl hsw pi_w ok hv pg_u (fun s H C cl fp => pts_nil) pi_u pg_u (fun s H C cl fp => pts_nil) pe_u hs hs1) pss_w) (lc2n_read (Q := fun v H' => ZS X rest (σ.set i0 (some v)) H' D) hi bd hi1 bd1 he hz Gr.refl w fun p us F2 H2 hp s ra => kk p us F2 H2 hp s ra)
theorem zs_setLc2t (w : WOk F O H) {i0 : Nat} {rest : List Stmt} {D : Ends} {B : α → L2.St → Hp → Prop} {B1 : α → α1 → L2.St → Hp → Prop} {ys : α → List α1} {f0 : α → α1 → γ} {pr : α → α1 → Bool} {c : Expr} (hc : X.calm = true) (hN : X.N.Nodup) (hi : ZI X tg iter σ F O (xs.map enc) O) (bd : Bd X scope tg (own.map (·.2)) σ enc xs B)
    (hi1 : ∀ s H0 C cl fp a σ2 F', a ∈ xs → Gr F F' → B a σ2 F' → ZI (blkX X scope s H0 C cl fp) tg1 iter1 σ2 F' O ((ys a).map enc1) O) (bd1 : Bd1 X scope tg1 vs1 enc1 xs ys B B1)
    (ht : ∀ s H0 C cl fp a b σ3 F', a ∈ xs → b ∈ ys a → Gr F F' → B1 a b σ3 F' → ZT (blkX X scope s H0 C cl fp) c σ3 F' O (pr a b) O)
    (he : ∀ s H0 C cl fp a b σ3 F', a ∈ xs → b ∈ ys a → pr a b = true → Gr F F' → B1 a b σ3 F' → ZE (blkX X scope s H0 C cl fp) elt σ3 F' O (encR (f0 a b)) O) (hz : (xs.flatMap fun a => ((ys a).filter (pr a)).map (f0 a)).length ≤ sizeLine)
    (ok : BlkOk X.N X.env.scope scope own) (hv : ∀ i ∈ vs1, i ∈ own.map (·.2)) (hy : X.N[i0]? = some y) (hyl : X.env.scope.names.lookup y = some .local)
    (hsw : swapsWith (.ListComp elt [⟨tg, iter, [], 0⟩, ⟨tg1, iter1, [c], 0⟩] scope pos) (some (.Name y py)) spos.line X.env = pure true)
    (kk : ∀ p us F1 H1, H p = none → Stp F O H F1 ((p, .lst us) :: O) H1 → RA X.K F1 us ((xs.flatMap fun a => ((ys a).filter (pr a)).map (f0 a)).map encR) → ZS X rest (σ.set i0 (some (.ref p))) H1 D) (hs : ∀ x, foldedSetIterable iter X.env x = pure x := by intro _; rfl) (hs1 : ∀ env x, foldedSetIterable iter1 env x = pure x := by intro _ _; rfl) :
    ZS X (.Assign [.Name y py] (.ListComp elt [⟨tg, iter, [], 0⟩, ⟨tg1, iter1, [c], 0⟩] scope pos) spos :: rest) σ H D :=
  wSs_of (pss_cons (ps_setLc2 hc hN hy hyl hsw pi_w ok hv pg_u (fun s H C cl fp => pts_nil) pi_u pg_u (fun s H C cl fp => pts_one (pt_u s H C cl fp)) pe_u hs hs1) pss_w) (lc2t_read (Q := fun v H' => ZS X rest (σ.set i0 (some v)) H' D) hi bd hi1 bd1 ht he hz Gr.refl w fun p us F2 H2 hp s ra => kk p us F2 H2 hp s ra)
end
end Z

end
section
namespace Z
open PySem PySem.Spec PyProof.Rows L2
/-! ### sorted, pairs of ints -/
def leP (a b : Int × Int) : Bool := !SrtO.lexB b a
def sortP (xs : List (Int × Int)) : List (Int × Int) := xs.mergeSort leP
theorem leP_iff {a b : Int × Int} : leP a b = true ↔ a.1 < b.1 ∨ (a.1 = b.1 ∧ a.2 ≤ b.2) := by
  unfold leP
  rw [Bool.not_eq_true', SrtO.lexB_no]
  omega
theorem sortP_perm (xs : List (Int × Int)) : (sortP xs).Perm xs := List.mergeSort_perm _ _
theorem sortP_sorted (xs : List (Int × Int)) : (sortP xs).Pairwise (fun a b => leP a b = true) :=
  List.pairwise_mergeSort (le := leP) (fun a b c h1 h2 => leP_iff.mpr (by have := leP_iff.mp h1; have := leP_iff.mp h2; omega)) (fun a b => by
    cases h : leP a b with
    | true => rfl
    | false =>
      have h2 : ¬ (a.1 < b.1 ∨ (a.1 = b.1 ∧ a.2 ≤ b.2)) := fun z => by rw [leP_iff.mpr z] at h; cases h
      show (false || leP b a) = true
      rw [Bool.false_or]
      exact leP_iff.mpr (by omega)) xs
theorem sortedP_unique {xs ys : List (Int × Int)} (h : xs.Perm ys) (hx : xs.Pairwise (fun a b => leP a b = true)) (hy : ys.Pairwise (fun a b => leP a b = true)) : xs = ys :=
  List.Perm.eq_of_pairwise (fun a b _ _ h1 h2 => by
    have := leP_iff.mp h1; have := leP_iff.mp h2
    exact Prod.ext (by omega) (by omega)) hx hy h
theorem sortP_of {xs : List (Int × Int)} (h : xs.Pairwise (fun a b => leP a b = true)) : sortP xs = xs := sortedP_unique (sortP_perm xs) (sortP_sorted xs) h
theorem sortI_of {xs : List Int} (h : xs.Pairwise (· ≤ ·)) : sortI xs = xs := sorted_unique (sortI_perm xs) (sortI_sorted xs) h
def keyP (F : Hp) (v : V) : Int × Int := match v with
  | .ref t => (match F t with | some (.tup [.int i, .int j]) => (i, j) | _ => (0, 0))
  | _ => (0, 0)
theorem R.pair {K : PySem.W.Frag} {F : Hp} {v : V} {p : Int × Int} (h : R K F v (eT2 eI eI p)) : ∃ t, v = .ref t ∧ F t = some (.tup [.int p.1, .int p.2]) ∧ keyP F v = p := by
  obtain ⟨t, vs, rfl, e, r⟩ := h.tupH_inv
  obtain ⟨u, w, rfl, r1, r2⟩ := r.two
  rw [r1.int_inv, r2.int_inv] at e
  exact ⟨t, rfl, e, by show (match F t with | some (.tup [.int i, .int j]) => (i, j) | _ => (0, 0)) = p; rw [e]⟩
theorem RA.pairs {K : PySem.W.Frag} {F : Hp} : ∀ {vs : List V} {ps : List (Int × Int)}, RA K F vs (ps.map (eT2 eI eI)) → vs.map (keyP F) = ps ∧ ∀ v ∈ vs, ∃ t, v = .ref t ∧ F t = some (.tup [.int (keyP F v).1, .int (keyP F v).2]) ∧ R K F v (eT2 eI eI (keyP F v))
  | vs, [], h => by
    have := h.nil_inv
    subst this
    exact ⟨rfl, fun _ z => nomatch z⟩
  | vs, p :: ps, h => by
    obtain ⟨v, ws, rfl, r, t⟩ := RA.cons_inv (show RA K F vs (eT2 eI eI p :: ps.map (eT2 eI eI)) from h)
    obtain ⟨e, g⟩ := RA.pairs t
    obtain ⟨a, rfl, ea, k⟩ := r.pair
    refine ⟨by rw [List.map_cons, e, k], fun u hu => ?_⟩
    rcases List.mem_cons.mp hu with rfl | hu
    · exact ⟨a, rfl, by rw [k]; exact ea, by rw [k]; exact r⟩
    · exact g u hu
theorem RA.of_all {K : PySem.W.Frag} {F : Hp} {f : V → PyData} : ∀ {vs : List V}, (∀ v ∈ vs, R K F v (f v)) → RA K F vs (vs.map f)
  | [], _ => .nil
  | v :: vs, h => .cons (h v List.mem_cons_self) (RA.of_all fun u hu => h u (List.mem_cons_of_mem _ hu))
section
variable {X : Cx} {e a b c tg iter elt : Expr} {es : List Expr} {σ : L2.St} {F H : Hp} {O O1 O2 O3 : Own} {d da db : PyData} {ds rs : List PyData} {pos p p2 apos cpos : Pos} {i j : Int} {k k1 k2 : Bool} {x y : Str} {n m : Nat}
theorem zn_sortP {ps : List (Int × Int)} (hm : X.mg "sorted" = none) (ha : ZE X e σ F O (eL (eT2 eI eI) ps) O1) (hg : Gl X "sorted" := by rfl) (he : starEach [e] X.env = (false, eval e X.env) :: starEach [] X.env := by exact se_pl rfl) (hpl : (backTo pos (starEach [] X.env)).any (·.1) = false := by exact se_any rfl) : ZN X (.Call (.Name "sorted" p) [e] [] pos) σ F O ((sortP ps).map (eT2 eI eI)) O1 :=
  zn_callB cr_sortedPO hm (by decide +kernel) (za_cons ha za_nil he) (fun F1 H1 vs _ w r Q q => by
    obtain ⟨v, rfl, r1⟩ := r.one
    obtain ⟨l, xs, rfl, e1, a1⟩ := r1.lst_inv
    obtain ⟨hk, hx⟩ := a1.pairs
    refine ⟨l, xs, keyP F1, rfl, .inl (.inl (w.sub _ _ e1)), fun x hxm => ?_, fun ys p hs hb hn => ?_⟩
    · obtain ⟨t, e2, e3, _⟩ := hx x hxm
      exact ⟨t, e2, w.sub _ _ e3⟩
    · have ee : ys.map (keyP F1) = sortP ps := by
        refine sortedP_unique (((hb.perm.map (keyP F1)).trans (by rw [hk])).trans (sortP_perm ps).symm) ?_ (sortP_sorted ps)
        rw [List.pairwise_map]
        exact hs.imp fun {a b} h => by
          show leP (keyP F1 a) (keyP F1 b) = true
          unfold leP
          rw [show SrtO.lexB (keyP F1 b) (keyP F1 a) = false from h]; rfl
      have hz := w.sz _ _ e1
      have ra : RA X.K F1 ys ((sortP ps).map (eT2 eI eI)) := by
        rw [← ee, List.map_map]
        exact RA.of_all fun v hv => (hx v (hb.perm.mem_iff.mp hv)).elim fun t ht => ht.2.2
      exact q p _ _ _ hn (Stp.alloc w hn (by show ys.length ≤ _; rw [hb.perm.length_eq]; exact hz)) ra) hg (by decide) (by decide) he hpl

/-! ### list(range(..)) -/
theorem zn_lr1 {px : Pos} (hc : X.calm = true) (hl : X.mg "list" = none) (hm : X.mg "range" = none) (ha : ZE X a σ F O (.int j) O1) (hj : -16777216 ≤ j ∧ j ≤ 16777216) (hgl : Gl X "list" := by rfl) (hg : Gl X "range" := by rfl) (na : starEach [a] X.env = (false, eval a X.env) :: starEach [] X.env := by exact se_pl rfl)
    (nb : starEach [.Call (.Name "range" p2) [a] [] px] X.env = (false, eval (.Call (.Name "range" p2) [a] [] px) X.env) :: starEach [] X.env := by rfl) : ZN X (.Call (.Name "list" p) [.Call (.Name "range" p2) [a] [] px] [] pos) σ F O ((rangeI 0 j).map eI) O1 := fun F1 H g w Q q =>
  wE_of (pe_listRg hc hgl hl (prg_1 hg hm pe_w na) nb) (ha F1 H g w _ fun v F2 H2 s1 r1 => ⟨j, r1.int_inv, ⟨by omega, by omega, by omega, by omega, by omega⟩, fun l hl => by
    have hz : (rgV 0 j).length ≤ sizeLine := by rw [rgV_length, ← szL]; omega
    refine q l (rgV 0 j) _ _ ?_ (s1.trans (Stp.alloc s1.ok hl hz)) ?_
    · cases z : H l with
      | none => rfl
      | some u => exact absurd hl (s1.dom l (by rw [z]; simp))
    · have e : rgV 0 j = (rangeI 0 j).map V.int := by unfold rgV rangeI; rw [List.map_map]; rfl
      rw [e]; exact ra_ints _⟩)
theorem zn_lr2 {px : Pos} (hc : X.calm = true) (hl : X.mg "list" = none) (hm : X.mg "range" = none) (ha : ZE X a σ F O (.int i) O1) (hb : ZE X b σ F O1 (.int j) O2) (hj : -16777216 ≤ i ∧ i ≤ 16777216 ∧ -16777216 ≤ j ∧ j ≤ 16777216 ∧ j - i ≤ 16777216) (hgl : Gl X "list" := by rfl) (hg : Gl X "range" := by rfl) (na : starEach [a, b] X.env = (false, eval a X.env) :: starEach [b] X.env := by exact se_pl rfl)
    (nb : starEach [b] X.env = (false, eval b X.env) :: starEach [] X.env := by exact se_pl rfl) (hp : (backTo px (starEach [b] X.env)).any (·.1) = false := by exact se_any rfl)
    (nc : starEach [.Call (.Name "range" p2) [a, b] [] px] X.env = (false, eval (.Call (.Name "range" p2) [a, b] [] px) X.env) :: starEach [] X.env := by rfl) : ZN X (.Call (.Name "list" p) [.Call (.Name "range" p2) [a, b] [] px] [] pos) σ F O ((rangeI i j).map eI) O2 := fun F1 H g w Q q =>
  wE_of (pe_listRg hc hgl hl (prg_2 hg hm pe_w pe_w na nb hp) nc) (ha F1 H g w _ fun v F2 H2 s1 r1 => hb F2 H2 (g.trans s1.gr) s1.ok _ fun u F3 H3 s2 r2 => ⟨i, j, r1.int_inv, r2.int_inv, ⟨by omega, by omega, by omega, by omega, by omega⟩, fun l hl => by
    have s3 := s1.trans s2
    have hz : (rgV i j).length ≤ sizeLine := by rw [rgV_length, ← szL]; omega
    refine q l (rgV i j) _ _ ?_ (s3.trans (Stp.alloc s3.ok hl hz)) ?_
    · cases z : H l with
      | none => rfl
      | some u => exact absurd hl (s3.dom l (by rw [z]; simp))
    · have e : rgV i j = (rangeI i j).map V.int := by unfold rgV rangeI; rw [List.map_map]; rfl
      rw [e]; exact ra_ints _⟩)
/-! ### max, min of two -/
theorem ze_max2 (hc : X.calm = true) (hm : X.mg "max" = none) (ha : ZE X a σ F O (.int i) O1) (hb : ZE X b σ F O1 (.int j) O2) (hg : Gl X "max" := by rfl) (na : starEach [a, b] X.env = (false, eval a X.env) :: starEach [b] X.env := by exact se_pl rfl)
    (nb : starEach [b] X.env = (false, eval b X.env) :: starEach [] X.env := by exact se_pl rfl) (hp : (backTo pos (starEach [b] X.env)).any (·.1) = false := by exact se_any rfl) : ZE X (.Call (.Name "max" p) [a, b] [] pos) σ F O (eI (if j > i then j else i)) O2 :=
  ze_callB (call_max2 hc) hm (by decide +kernel) (za_cons ha (za_cons hb za_nil nb) na) (fun F1 H1 vs _ w r Q q => by
    obtain ⟨v, u, rfl, r1, r2⟩ := r.two
    exact ⟨i, j, by rw [r1.int_inv, r2.int_inv], q _ _ _ (Stp.refl w) (.int _)⟩) hg (by decide) (by decide) na hp
theorem ze_min2 (hc : X.calm = true) (hm : X.mg "min" = none) (ha : ZE X a σ F O (.int i) O1) (hb : ZE X b σ F O1 (.int j) O2) (hg : Gl X "min" := by rfl) (na : starEach [a, b] X.env = (false, eval a X.env) :: starEach [b] X.env := by exact se_pl rfl)
    (nb : starEach [b] X.env = (false, eval b X.env) :: starEach [] X.env := by exact se_pl rfl) (hp : (backTo pos (starEach [b] X.env)).any (·.1) = false := by exact se_any rfl) : ZE X (.Call (.Name "min" p) [a, b] [] pos) σ F O (eI (if j < i then j else i)) O2 :=
  ze_callB (call_min2 hc) hm (by decide +kernel) (za_cons ha (za_cons hb za_nil nb) na) (fun F1 H1 vs _ w r Q q => by
    obtain ⟨v, u, rfl, r1, r2⟩ := r.two
    exact ⟨i, j, by rw [r1.int_inv, r2.int_inv], q _ _ _ (Stp.refl w) (.int _)⟩) hg (by decide) (by decide) na hp
/-! ### xs.remove(k) of ints, a list that is mine -/
theorem zs_removeI (w : WOk F O H) (n m : Nat) {rest : List Stmt} {D : Ends} {q : Addr} {vs : List V} {ns : List Int} {px : Pos} (hσ : σ[n]? = some (some (.ref q))) (he : ZE X e σ F O (.int i) O1) (hO : O1[m]? = some (q, .lst vs)) (hr : RA X.K F vs (ns.map eI)) (hi : i ∈ ns)
    (kk : ∀ F1 H1, Stp F O H F1 (O1.set m (q, .lst ((ns.erase i).map V.int))) H1 → ZS X rest σ H1 D) (hN : X.N[n]? = some x := by rfl) (hO0 : ∃ o, O[m]? = some (q, .lst o) := by exact ⟨_, rfl⟩)
    (hv : Vis X.env.scope x := by first | exact Or.inl rfl | exact Or.inr (Or.inl rfl) | exact Or.inr (Or.inr rfl)) (hd : (x == ("__debug__" : Str)) = false := by decide) (hcd : (x == ("__classdict__" : Str)) = false := by decide)
    (hs : swapsWith (.Call (.Attribute (.Name x px) "remove" apos) [e] [] cpos) none pos.line X.env = pure false := by rfl)
    (hbase : attributeBase (.Name x px) "remove" X.env (eval (.Name x px) X.env) = eval (.Name x px) X.env := by rfl)
    (hfew : ((backTo cpos (starEach (e :: []) X.env)).all (fun x => !x.1) && (backToKw cpos (keywordEach [] X.env)).all (fun x => x.1.isSome)
      && decide ((e :: []).length + ([] : List Keyword).length + (if ([] : List Keyword).isEmpty then 0 else 1) < 30)) = true := by rfl)
    (hline : (apos.endLine == cpos.line) = true := by rfl) (hse : starEach (e :: []) X.env = (false, eval e X.env) :: starEach [] X.env := by exact se_pl rfl) (hplain : (backTo cpos (starEach [] X.env)).any (·.1) = false := by exact se_any rfl) :
    ZS X (.Expr (.Call (.Attribute (.Name x px) "remove" apos) [e] [] cpos) pos :: rest) σ H D := by
  obtain ⟨o0, hO0⟩ := hO0
  have hvs := ints_ra hr
  subst hvs
  refine wSs_of (pss_cons (ps_expr (pe_bm PySem.F.plainAttrs_list PySem.F.slot_list_remove PySem.F.type_list_remove mt_remove (pe_var hN hv hd hcd) (pa_cons pe_w pa_nil hse) hbase hfew hline hse hplain) hs) pss_w) ?_
  refine ⟨_, hσ, .inl ⟨rfl, _, .inl (.inl (w.at_ hO0).1)⟩, he F H Gr.refl w _ fun v F1 H1 s1 r1 => ?_⟩
  have hlt := List.idxOf_lt_length_iff.mpr hi
  refine ⟨q, ns, i, ns.idxOf i, rfl, by rw [r1.int_inv], (s1.ok.at_ hO).1, by rw [List.getElem?_eq_getElem hlt, List.getElem_idxOf], fun m' hm hz => idxOf_before ns i m' i hm hz rfl, ?_⟩
  rw [← List.erase_eq_eraseIdx_of_idxOf rfl]
  have hz := s1.ok.szo _ (List.mem_of_getElem? hO) _ rfl
  exact kk F1 _ (s1.trans (Stp.write s1.ok hO (by
    show ((ns.erase i).map V.int).length ≤ _
    rw [List.length_map] at hz ⊢
    exact Nat.le_trans (List.length_erase_le) hz)))
end
end Z

end
section
namespace Z
open PySem PySem.Spec PyProof.Rows L2
section
variable {X : Cx} {e a b c tg iter elt tg1 iter1 : Expr} {es : List Expr} {σ : L2.St} {F H : Hp} {O O1 O2 O3 : Own} {d da db : PyData} {ds rs : List PyData} {pos p : Pos} {i j : Int} {k k1 k2 : Bool} {x y : Str} {n m : Nat} {px py spos : Pos} {scope : Scope} {ifs : List Expr}
variable {α α1 β γ : Type} {G : β → Own} {enc : α → PyData} {enc1 : α1 → PyData} {encR : γ → PyData} {xs : List α} {st0 : β} {own : List (Str × Nat)} {vs1 : List Nat}
theorem zt_to {k' : Bool} {O1' : Own} (h : ZT X e σ F O k O1) (hd : k = k') (hO : O1 = O1') : ZT X e σ F O k' O1' := hd ▸ hO ▸ h
theorem runS_genU {pr : α → Bool} {f0 : α → γ} (xs : List α) : (runS (genF (fun (_ : Unit) a => pr a) (fun _ a => f0 a) (fun _ _ => ()) (fun _ _ => ())) () xs).1 = (xs.filter pr).map f0 := by
  rw [← runS_filter]
  congr 2
  funext st a
  show (if pr a = true then (some (f0 a), ()) else (none, ())) = ((if pr a = true then some (f0 a) else none), ())
  cases h : pr a with
  | true => rw [if_pos rfl, if_pos rfl]
  | false => rw [if_neg (by decide), if_neg (by decide)]
theorem mapS_U {f0 : α → γ} : ∀ xs : List α, (mapS (fun (_ : Unit) a => (f0 a, ())) () xs).1 = xs.map f0
  | [] => rfl
  | a :: xs => by show _ :: _ = _; rw [mapS_U xs]; rfl
/-- the same without a state -/
theorem zn_lcXtp {B : α → L2.St → Hp → Prop} {pr : α → Bool} {f0 : α → γ} {c : Expr} (hc : X.calm = true) (hN : X.N.Nodup) (hi : ZI X tg iter σ F O (xs.map enc) O1) (bd : Bd X scope tg (own.map (·.2)) σ enc xs B)
    (ht : ∀ s H0 C cl fp a σ2 F', a ∈ xs → Gr F F' → B a σ2 F' → ZT (blkX X scope s H0 C cl fp) c σ2 F' O1 (pr a) O1)
    (he : ∀ s H0 C cl fp a σ2 F', a ∈ xs → pr a = true → Gr F F' → B a σ2 F' → ZE (blkX X scope s H0 C cl fp) elt σ2 F' O1 (encR (f0 a)) O1)
    (ok : BlkOk X.N X.env.scope scope own) (hs : ∀ x, foldedSetIterable iter X.env x = pure x := by intro _; rfl) :
    ZN X (.ListComp elt [⟨tg, iter, [c], 0⟩] scope pos) σ F O (((xs.filter pr).map f0).map encR) O1 :=
  zn_eq (zn_lcXt (G := fun _ : Unit => O1) (st0 := ()) (pr := fun _ a => pr a) (f0 := fun _ a => f0 a) (s1 := fun _ _ => ()) (s2 := fun _ _ => ()) hc hN hi bd (fun s H0 C cl fp _ a σ2 F' => ht s H0 C cl fp a σ2 F') (fun s H0 C cl fp _ a σ2 F' => he s H0 C cl fp a σ2 F') ok hs) (by rw [runS_genU])
theorem zn_lcXnp {B : α → L2.St → Hp → Prop} {f0 : α → γ} (hc : X.calm = true) (hN : X.N.Nodup) (hi : ZI X tg iter σ F O (xs.map enc) O1) (bd : Bd X scope tg (own.map (·.2)) σ enc xs B)
    (he : ∀ s H0 C cl fp a σ2 F', a ∈ xs → Gr F F' → B a σ2 F' → ZE (blkX X scope s H0 C cl fp) elt σ2 F' O1 (encR (f0 a)) O1)
    (ok : BlkOk X.N X.env.scope scope own) (hs : ∀ x, foldedSetIterable iter X.env x = pure x := by intro _; rfl) :
    ZN X (.ListComp elt [⟨tg, iter, [], 0⟩] scope pos) σ F O ((xs.map f0).map encR) O1 :=
  zn_eq (zn_lcXn (G := fun _ : Unit => O1) (st0 := ()) (f0 := fun _ a => f0 a) (s2 := fun _ _ => ()) hc hN hi bd (fun s H0 C cl fp _ a σ2 F' => he s H0 C cl fp a σ2 F') ok hs) (by rw [mapS_U])
theorem zs_setLcXtp (w : WOk F O H) {i0 : Nat} {rest : List Stmt} {D : Ends} {B : α → L2.St → Hp → Prop} {pr : α → Bool} {f0 : α → γ} {c : Expr} (hc : X.calm = true) (hN : X.N.Nodup) (hi : ZI X tg iter σ F O (xs.map enc) O1) (bd : Bd X scope tg (own.map (·.2)) σ enc xs B)
    (ht : ∀ s H0 C cl fp a σ2 F', a ∈ xs → Gr F F' → B a σ2 F' → ZT (blkX X scope s H0 C cl fp) c σ2 F' O1 (pr a) O1)
    (he : ∀ s H0 C cl fp a σ2 F', a ∈ xs → pr a = true → Gr F F' → B a σ2 F' → ZE (blkX X scope s H0 C cl fp) elt σ2 F' O1 (encR (f0 a)) O1)
    (ok : BlkOk X.N X.env.scope scope own) (hy : X.N[i0]? = some y) (hyl : X.env.scope.names.lookup y = some .local)
    (hsw : swapsWith (.ListComp elt [⟨tg, iter, [c], 0⟩] scope pos) (some (.Name y py)) spos.line X.env = pure true)
    (kk : ∀ p us F1 H1, H p = none → Stp F O H F1 ((p, .lst us) :: O1) H1 → RA X.K F1 us (((xs.filter pr).map f0).map encR) → ZS X rest (σ.set i0 (some (.ref p))) H1 D) (hs : ∀ x, foldedSetIterable iter X.env x = pure x := by intro _; rfl) :
    ZS X (.Assign [.Name y py] (.ListComp elt [⟨tg, iter, [c], 0⟩] scope pos) spos :: rest) σ H D :=
  zs_setLcXt (G := fun _ : Unit => O1) (st0 := ()) (pr := fun _ a => pr a) (f0 := fun _ a => f0 a) (s1 := fun _ _ => ()) (s2 := fun _ _ => ()) w hc hN hi bd (fun s H0 C cl fp _ a σ2 F' => ht s H0 C cl fp a σ2 F') (fun s H0 C cl fp _ a σ2 F' => he s H0 C cl fp a σ2 F') ok hy hyl hsw (fun p us F1 H1 hp s r => kk p us F1 H1 hp s (by rw [runS_genU] at r; exact r)) hs
theorem zs_setLcXnp (w : WOk F O H) {i0 : Nat} {rest : List Stmt} {D : Ends} {B : α → L2.St → Hp → Prop} {f0 : α → γ} (hc : X.calm = true) (hN : X.N.Nodup) (hi : ZI X tg iter σ F O (xs.map enc) O1) (bd : Bd X scope tg (own.map (·.2)) σ enc xs B)
    (he : ∀ s H0 C cl fp a σ2 F', a ∈ xs → Gr F F' → B a σ2 F' → ZE (blkX X scope s H0 C cl fp) elt σ2 F' O1 (encR (f0 a)) O1)
    (ok : BlkOk X.N X.env.scope scope own) (hy : X.N[i0]? = some y) (hyl : X.env.scope.names.lookup y = some .local)
    (hsw : swapsWith (.ListComp elt [⟨tg, iter, [], 0⟩] scope pos) (some (.Name y py)) spos.line X.env = pure true)
    (kk : ∀ p us F1 H1, H p = none → Stp F O H F1 ((p, .lst us) :: O1) H1 → RA X.K F1 us ((xs.map f0).map encR) → ZS X rest (σ.set i0 (some (.ref p))) H1 D) (hs : ∀ x, foldedSetIterable iter X.env x = pure x := by intro _; rfl) :
    ZS X (.Assign [.Name y py] (.ListComp elt [⟨tg, iter, [], 0⟩] scope pos) spos :: rest) σ H D :=
  zs_setLcXn (G := fun _ : Unit => O1) (st0 := ()) (f0 := fun _ a => f0 a) (s2 := fun _ _ => ()) w hc hN hi bd (fun s H0 C cl fp _ a σ2 F' => he s H0 C cl fp a σ2 F') ok hy hyl hsw (fun p us F1 H1 hp s r => kk p us F1 H1 hp s (by rw [mapS_U] at r; exact r)) hs
end
end Z

end
section
namespace Z
open PySem PySem.Spec PyProof.Rows L2
/-! ### set(xs) of a list of ints: the set, as the layer knows it -/
def empS (w : World) : Obj := { cls := .type "set", dict := none, data := .set #[] 0 (.fresh 0 0 (!w.params.followText "set-order")) }
def IntsOfSet (w : World) (ns : List Int) (s : Shared) (S : Addr) (s' : Shared) : Prop :=
  ∃ h' tk c, s' = { s with heap := h', toks := tk } ∧ SetR w h' S (fun j => decide (j ∈ ns)) c ∧ c ≤ ns.length ∧ ∀ b o, s.heap.get? b = some o → h'.get? b = some o
section
variable {P : Program} {w : World} {A : Around} {E : Value → Shared → Prop} {s : Shared}
set_option maxHeartbeats 3200000 in
theorem set_of_ints {l : Addr} {its : Array Value} (ns : List Int) {Q : Value → Shared → Prop} (hh : A.handled = none) (hl : s.heap.IsList l its) (hi : IntsAre its.toList ns) (hb : ns.length + 1 < scanBound)
    (k : ∀ s', IntsOfSet w ns s s.heap.objs.size s' → Q (.ref s.heap.objs.size) s') : wpAny (model P w) A (call (.type "set") [.ref l]) Q E s := by
  have hsz : its.size = ns.length := by
    have q := IntsAre.length hi
    rwa [Array.length_toList] at q
  obtain ⟨c, tl, mro⟩ := F.called_set.mro
  have made := F.called_set.made
  have sub := F.called_set.sub
  have nt := F.called_set.notType
  have cc := F.called_set.canCreate
  have tc := F.typeCall_set_1 (.ref l)
  refine wpAny_call (codeAny_of_tree (wpAny_pure ⟨Code.quiet_builtin _ (by decide +kernel), codeAny_builtin F.entry_type_call ?_⟩))
  rw [Around.under_plain (weight_type_call_type "set" [.ref l] []) rfl]
  repeat (any_goals (first | assumption | wp_step))
  refine codeAny_mono (code_set_led1 (.ref l) (E := E) (Q₁ := fun u s₁ => u = .ref s.heap.objs.size ∧ s₁ = { s with heap := s.heap.push (empS w) }) ⟨rfl, rfl⟩) fun r s₁ hr => ?_
  cases r with
  | error e => exact hr
  | ok fl =>
    cases fl with
    | ret u =>
      obtain ⟨rfl, rfl⟩ := hr
      have g0 : (s.heap.push (empS w)).get? s.heap.objs.size = some (empS w) := Heap.get?_push_size _ rfl
      have ty : Shared.TypeIs { s with heap := s.heap.push (empS w) } (.ref s.heap.objs.size) "set" := ⟨_, g0, rfl⟩
      have il := F.called_set.init.lookup
      have ib := F.called_set.init.bind (.ref s.heap.objs.size)
      repeat (any_goals (first | assumption | wp_step))
      refine codeAny_mono (codeAny_call_builtin (R := wants (fun r s₂ => r = .none ∧ IntsOfSet w ns s s.heap.objs.size s₂) E) F.called_set.init.plain F.entry_set_init (check_set_init_1 ty ?_)) fun r₂ s₂ hr₂ => ?_
      · obtain ⟨ol, gl, cl, nl, dl⟩ := hl
        obtain ⟨oc, od, odt, osl⟩ := ol
        simp only at cl dl
        subst cl; subst dl
        have gl1 := Heap.get?_push_of_some (empS w) gl
        have n1 := F.sub_list_set
        have n2 := F.sub_list_frozenset
        have n3 : (Value.type "list" == Value.type "dict") = false := by decide
        have il1 : (s.heap.push (empS w)).IsList l its := ⟨_, gl1, rfl, nl, rfl⟩
        unfold Builtin.«set.__init__» noKeywords Builtin.Frozenset.updateFrom
        generalize ep : pyIter = PI
        wp_walk
        subst ep
        refine wpAny_pyIter_list il1 (wpAny_bind (wpAny_runValue ?_))
        have lt : l < s.heap.objs.size := Heap.lt_size gl
        have hd : A.in1.in1.in1.handled = none := by simp [hh]
        have ne : l ≠ (s.heap.push (empS w)).objs.size := by rw [Heap.size_push]; exact Nat.ne_of_lt (Nat.lt_succ_of_lt lt)
        have nf : s.heap.objs.size ∉ [(s.heap.push (empS w)).objs.size, l] := by
          rw [Heap.size_push]
          intro z
          rcases List.mem_cons.mp z with z | z
          · exact Nat.ne_of_lt (Nat.lt_succ_self _) z
          · exact Nat.ne_of_gt lt (List.mem_singleton.mp z)
        have val : ∀ (i : Nat) (v : Value), its[i]? = some v → ∃ k t, ns[i]? = some k ∧ v = .int k t := fun i v hv => by
          have lti : i < ns.length := by rw [← hsz]; exact (Array.getElem?_eq_some_iff.mp hv).1
          obtain ⟨t, e⟩ := IntsAre.int_at hi i v (by rw [Array.getElem?_toList]; exact hv)
          exact ⟨ns[i], t, List.getElem?_eq_getElem lti, by rw [e, List.getD_eq_getElem?_getD, List.getElem?_eq_getElem lti]; rfl⟩
        refine set_update_ints ((Walks.list hd _ l ne its).toS) s.heap.objs.size nf ns hsz hb val (its.size - 0) 0 _ (by omega) (Nat.zero_le _) ⟨⟨_, Heap.get?_push_size _ rfl, rfl, rfl⟩, il1.push _⟩ ⟨0, Nat.le_refl 0, setR_new_at (Heap.get?_push_of_some _ g0)⟩ ?_
        intro s' c' mv hc hS
        obtain ⟨h', g2, d2, t2, o2⟩ := s'
        obtain rfl : g2 = s.gens := mv.gens
        obtain rfl : d2 = s.drawn := mv.drawn
        obtain rfl : o2 = s.os := mv.os
        refine wpAny_pure (wpAny_pure ⟨rfl, h', t2, c', rfl, hS, by rw [← hsz]; exact hc, fun b o e => ?_⟩)
        have lb : b < s.heap.objs.size := Heap.lt_size e
        refine mv.heap b o ?_ (Heap.get?_push_of_some _ (Heap.get?_push_of_some _ e))
        rw [Heap.size_push]
        intro z
        rcases List.mem_cons.mp z with z | z
        · exact Nat.ne_of_lt lb z
        · exact Nat.ne_of_lt (Nat.lt_succ_of_lt lb) (List.mem_singleton.mp z)
      · cases r₂ with
        | error e => exact hr₂
        | ok fl₂ =>
          cases fl₂ with
          | ret r =>
            obtain ⟨rfl, q⟩ := hr₂
            repeat (any_goals (first | assumption | wp_step))
            exact k _ q
          | _ => exact hr₂.elim
    | _ => exact hr.elim
end
/-! ### sorted(set(xs)), ints -/
def ddI : List Int → List Int
  | [] => []
  | x :: xs => if x ∈ xs then ddI xs else x :: ddI xs
theorem ddI_mem {y : Int} : ∀ {xs : List Int}, y ∈ ddI xs ↔ y ∈ xs
  | [] => Iff.rfl
  | x :: xs => by
    unfold ddI
    split
    · rename_i h
      rw [ddI_mem (xs := xs)]
      exact ⟨fun z => List.mem_cons_of_mem _ z, fun z => (List.mem_cons.mp z).elim (fun e => e ▸ h) id⟩
    · rw [List.mem_cons, List.mem_cons, ddI_mem (xs := xs)]
theorem ddI_nodup : ∀ xs : List Int, (ddI xs).Nodup
  | [] => List.nodup_nil
  | x :: xs => by
    unfold ddI
    split
    · exact ddI_nodup xs
    · rename_i h
      exact List.nodup_cons.mpr ⟨fun z => h (ddI_mem.mp z), ddI_nodup xs⟩
theorem ddI_le : ∀ xs : List Int, (ddI xs).length ≤ xs.length
  | [] => Nat.le_refl _
  | x :: xs => by
    unfold ddI
    have := ddI_le xs
    split
    · rw [List.length_cons]; omega
    · rw [List.length_cons, List.length_cons]; omega
def usI (xs : List Int) : List Int := sortI (ddI xs)
theorem pw_of_nodup {xs : List Int} (h : xs.Pairwise (· ≤ ·)) (nd : xs.Nodup) : xs.Pairwise (· < ·) := by
  have := List.pairwise_and_iff.mpr ⟨h, nd⟩
  exact this.imp fun ⟨a, b⟩ => by omega
theorem usI_mem {xs : List Int} {x : Int} : x ∈ usI xs ↔ x ∈ xs := by
  unfold usI
  rw [(sortI_perm _).mem_iff, ddI_mem]
theorem usI_pw (xs : List Int) : (usI xs).Pairwise (· < ·) := pw_of_nodup (sortI_sorted _) ((sortI_perm _).nodup_iff.mpr (ddI_nodup _))
theorem usI_unique {xs ys : List Int} (h : ys.Pairwise (· < ·)) (hm : ∀ x, x ∈ ys ↔ x ∈ xs) : ys = usI xs := by
  refine sorted_unique ((List.perm_ext_iff_of_nodup (h.imp fun h => by omega) ((usI_pw xs).imp fun h => by omega)).mpr fun x => ?_) (h.imp fun h => by omega) ((usI_pw xs).imp fun h => by omega)
  rw [hm x, usI_mem]
theorem Stp.junk {F H : Hp} {O : Own} {p : Addr} {o : HO} (w : WOk F O H) (h : H p = none) : Stp F O H F O (upd H p o) where
  ok := {
    sub := fun b u e => by rw [upd_ne (ne_of_none (w.sub b u e) h)]; exact w.sub b u e
    own := fun q hq => by
      obtain ⟨e, n⟩ := w.own q hq
      exact ⟨by rw [upd_ne (ne_of_none e h)]; exact e, n⟩
    nd := w.nd
    sz := w.sz
    szo := w.szo }
  gr := Gr.refl
  keep := fun b u e _ => by rw [upd_ne (ne_of_none e h)]; exact e
  fr := fun _ _ e => .inl e
  ky := fun _ hb => .inl hb
  dom := fun b e => by
    by_cases hb : b = p
    · rw [hb] at e; exact absurd h e
    · rw [upd_ne hb]; exact e
section
variable {X : Cx}
def rSetI (K : PySem.W.Frag) (w : World) : List V → Hp → VK → Prop := fun vs H Q => ∃ (l : Addr) (ns : List Int), vs = [V.ref l] ∧ SqL K H l (ns.map V.int) ∧ ns.length + 1 < scanBound ∧
  ∀ p c, H p = none → c ≤ ns.length → Q (.ref p) (upd H p (SetO w p (fun j => decide (j ∈ ns)) c))
theorem cr_setI (hc : X.calm = true) : CallR X (.type "set") (rSetI X.K X.w) := by
  intro pins s σ H vs us Q I r h
  obtain ⟨l, ns, rfl, hl, hb, q⟩ := h
  rw [Vals.ref1 r]
  obtain ⟨its, rv, pl, hz⟩ := I.list hl
  refine set_of_ints (P := X.prog) (w := X.w) ns (I.ok.hd hc) pl.isList (by simpa using rv.ints) hb fun s' ⟨h', tk, c, es, hS, hcn, hk⟩ => ?_
  subst es
  exact ⟨.ref s.heap.objs.size, upd H s.heap.objs.size (SetO X.w s.heap.objs.size (fun j => decide (j ∈ ns)) c), I.laid (t' := tk) hk (Nat.le_refl _) (setO_new hS), rfl, q _ c (I.hok.fresh (Nat.le_refl _)) hcn⟩
end
section
variable {X : Cx} {e : Expr} {σ : L2.St} {F H : Hp} {O O1 : Own} {pos p p2 p3 : Pos}
theorem zn_sortSet {ns : List Int} (hc : X.calm = true) (hm : X.mg "sorted" = none) (hm2 : X.mg "set" = none) (ha : ZE X e σ F O (eL eI ns) O1) (hl : ns.length < 63) (hg : Gl X "sorted" := by rfl) (hg2 : Gl X "set" := by rfl) (he : starEach [e] X.env = (false, eval e X.env) :: starEach [] X.env := by exact se_pl rfl) (hpl : (backTo p3 (starEach [] X.env)).any (·.1) = false := by exact se_any rfl)
    (he2 : starEach [.Call (.Name "set" p2) [e] [] p3] X.env = (false, eval (.Call (.Name "set" p2) [e] [] p3) X.env) :: starEach [] X.env := by rfl) (hpl2 : (backTo pos (starEach [] X.env)).any (·.1) = false := by exact se_any rfl) : ZN X (.Call (.Name "sorted" p) [.Call (.Name "set" p2) [e] [] p3] [] pos) σ F O ((usI ns).map eI) O1 := fun F1 H g w Q q => by
  refine wE_of (pe_callB (cr_sortedSet hc) hg hm (by decide +kernel) (pa_cons (pe_callTy (cr_setI hc) hg2 hm2 (by decide +kernel) (pa_cons pe_w pa_nil he) (by decide) (by decide) he hpl) pa_nil he2) (by decide) (by decide) he2 hpl2) ?_
  refine ha F1 H g w _ fun v F2 H2 s1 r1 => ?_
  obtain ⟨l, xs, rfl, e1, a1⟩ := r1.lst_inv
  have ex := ints_ra a1
  subst ex
  refine ⟨l, ns, rfl, .inl (.inl (s1.ok.sub _ _ e1)), by unfold scanBound; omega, fun a c hn hcn => ?_⟩
  have s2 := s1.trans (Stp.junk (o := SetO X.w a (fun j => decide (j ∈ ns)) c) s1.ok hn)
  refine ⟨a, _, c, rfl, upd_same, by omega, fun ms b hp hmem _ hb => ?_⟩
  have em : ms = usI ns := usI_unique hp fun x => by rw [hmem x]; simp
  subst em
  have hz : ((usI ns).map V.int).length ≤ sizeLine := by
    rw [List.length_map]
    have h1 := (sortI_perm (ddI ns)).length_eq
    have h2 : (ddI ns).length ≤ ns.length := ddI_le _
    unfold usI
    rw [h1, ← szL]; omega
  refine q b _ _ _ ?_ (s2.trans (Stp.alloc s2.ok hb hz)) (ra_ints _)
  cases z : H b with
  | none => rfl
  | some u => exact absurd hb (s2.dom b (by rw [z]; simp))
end
end Z

end
section
namespace Z
open PySem PySem.Spec PyProof.Rows L2 PpSet
/-! ### comprehensions of sets, whatever the set holds -/
structure SK (P : Program) (w : World) (τ : Type) where
  so : Addr → τ → HO
  sz : ∀ D st, szOk (so D st)
  st0 : τ
  new : ∀ (H : Hp) (h : Heap), ObjOk P w H (h.push (empS w)) h.objs.size (so h.objs.size st0)
  can : Hp → V → τ → τ → Prop
  add : ∀ {Y : Cx}, Y.prog = P → Y.w = w → ∀ {pins : List (Addr × Obj)} {σ : L2.St} {H : Hp} {s : Shared} {E : Value → Shared → Prop} {D : Addr} {st st' : τ} {y : V} {v : Value} {Q : Value → Shared → Prop},
    Inv Y pins σ H s → H D = some (so D st) → can H y st st' → RelV y v → (∀ s', Inv Y pins σ (upd H D (so D st')) s' → Q .none s') → wpAny (model Y.prog Y.w) Y.A (call (.builtin "set.add") [.ref D, v]) Q E s
section
variable {P : Program} {w : World} {τ : Type}
def tSk (K : SK P w τ) (wi : TI) (g : TG) (tt : TT) (te : TE) (vs : List Nat) : TE := fun σ H Q => wi σ H fun J H1 => ∀ D, H1 D = none → ∃ W : Nat → Nat → Hp → Prop, (∃ m, W 0 m (upd H1 D (K.so D K.st0))) ∧ ∀ i m H, W i m H →
  (J.stop i H ∧ Q (.ref D) H) ∨
  (J.go i H ∧ ∃ Nx : Hp → Prop, (∀ H', Nx H' → ∃ m', m' < m ∧ W (i + 1) m' H') ∧
    ∀ x H', J.yld i H x H' → g x (wipe σ vs) H' fun σ2 H2 => wipe σ2 vs = wipe σ vs ∧ tt σ2 H2 fun b H3 =>
      if b = true then te σ2 H3 fun y H4 => ∃ st st', H4 D = some (K.so D st) ∧ K.can H4 y st st' ∧ Nx (upd H4 D (K.so D st')) else Nx H3)
end
section
variable {X : Cx} {τ : Type}
theorem sk_core (K : SK X.prog X.w τ) {pins : List (Addr × Obj)} {s : Shared} {σ : L2.St} {H : Hp} {Q : VK} {elt tg iter : Expr} {ifs : List Expr} {scope : Scope} {own : List (Str × Nat)} {pos pos' : Pos} {wi : TI} {g : TG} {tt : TT} {te : TE} {use : Option (Value → Sem Unit)} {Qf : Value → Shared → Prop}
    (hc : X.calm = true) (hN : X.N.Nodup) (I : Inv X pins σ H s) (hi : PI X tg iter wi) (ok : BlkOk X.N X.env.scope scope own)
    (hg : ∀ s H C cl fp, PG (blkX X scope s H C cl fp) tg g) (ht : ∀ s H C cl fp, PTs (blkX X scope s H C cl fp) ifs tt) (he : ∀ s H C cl fp, PE (blkX X scope s H C cl fp) elt te)
    (hs : ∀ x, foldedSetIterable iter X.env x = pure x) (h : tSk K wi g tt te (own.map (·.2)) σ H Q)
    (fin : ∀ D C s' m H', Inv X pins σ H' s' → Q (.ref D) H' → s'.heap.Ns C m → FpOk X pins H' C → compPost (model X.prog X.w) X.A X.xe use Qf (.ref D) C (.ok .next) s') :
    wpAny (model X.prog X.w) X.A (comprehension (.SetComp elt [⟨tg, iter, ifs, 0⟩] scope pos) scope X.env pos' (newSet (.type "set")) false (eval iter X.env) use) Qf X.xe s := by
  have free : ∀ y ∈ scope.names, y.2 = .free → ∃ c, X.env.cells.lookup y.1 = some c := fun y hy e => (ok.free y hy e).elim (fun k => I.ok.has _ (.inl k)) fun k => I.ok.has _ (.inr k)
  refine wpAny_comprehension_free (use := use) rfl hs (closure_ok free) ok.kind (fun y hy e => by rw [ok.uniq y hy, e]) (thn (hi.run pins s σ H _ I h) fun xv s1 hx => thn hx fun itv s2 h2 => ?_)
  obtain ⟨it, fp, tn, J, H2, rfl, I2, T, st2, f2, q⟩ := h2
  refine newSet_ok (newEnv_comp ?_)
  generalize hD : s2.heap.objs.size = D
  obtain ⟨W, ⟨m0, w0⟩, turn⟩ := q D (I2.hok.fresh (Nat.le_of_eq hD))
  obtain ⟨s3, hs3⟩ : ∃ z : Shared, z = { s2 with heap := s2.heap.push (empS X.w) } := ⟨_, rfl⟩
  obtain ⟨H3, hH3⟩ : ∃ z, z = upd H2 D (K.so D K.st0) := ⟨_, rfl⟩
  have hp3 : s3.heap = s2.heap.push (empS X.w) := by rw [hs3]
  have I3 : Inv X pins σ H3 s3 := by
    rw [hs3, hH3]
    refine I2.laid (t' := s2.toks) (fun b o e => Heap.get?_push_of_some _ e) (Nat.le_of_eq hD) ?_
    rw [← hD]; exact K.new _ _
  rw [← hH3] at w0
  have old : ∀ b ∈ fp, b < D := fun b hb => by
    obtain ⟨_, e, _⟩ := T.obj _ _ st2 b hb
    rw [← hD]; exact Heap.lt_size e
  have f3 : ∀ b ∈ fp, FpOk X pins H3 b ∧ b < s3.heap.objs.size := fun b hb => by
    have lt := old b hb
    rw [hp3, Heap.size_push, hD]
    refine ⟨⟨?_, (f2 b hb).2⟩, Nat.lt_succ_of_lt lt⟩
    rw [hH3, upd_ne (Nat.ne_of_lt lt)]
    exact (f2 b hb).1
  have none3 : ∀ b ∈ fp, H3 b = none := fun b hb => (f3 b hb).1.1
  have t3 : tn 0 s3.heap := T.keep _ _ _ st2 fun b _ o e => by rw [hp3]; exact Heap.get?_push_of_some _ e
  have I4 := block_start I3 ok hN f3
  change codeAny _ _ (.compStart _ 0 _ (.ref D) (compEnvC scope (cellsFrom (s2.heap.push (empS X.w)).objs.size.succ scope.names (cloFrom X.env.cells scope.names [])) (s2.heap.push (empS X.w)).objs.size X.env)) (compPost (model X.prog X.w) X.A X.xe use Qf (.ref D) (s2.heap.push (empS X.w)).objs.size) { ({ s2 with heap := s2.heap.push (empS X.w) } : Shared) with heap := pushCells ((s2.heap.push (empS X.w)).push _) scope.names }
  rw [← hp3]
  rw [show s2.gens = s3.gens from by rw [hs3], show s2.drawn = s3.drawn from by rw [hs3], show s2.toks = s3.toks from by rw [hs3], show s2.os = s3.os from by rw [hs3]]
  obtain ⟨cl, hcl⟩ : ∃ z, z = cellsFrom s3.heap.objs.size.succ scope.names (cloFrom X.env.cells scope.names []) := ⟨_, rfl⟩
  obtain ⟨C, hC⟩ : ∃ z, z = s3.heap.objs.size := ⟨_, rfl⟩
  have g1 := hg s3 H3 C cl fp
  have t1 := ht s3 H3 C cl fp
  have e1 := he s3 H3 C cl fp
  have I4 : Inv (blkX X scope s3 H3 C cl fp) [] (wipe σ (own.map (·.2))) H3 { s3 with heap := pushCells (s3.heap.push { cls := .type "dict", data := .dict #[] }) scope.names } := by rw [hcl, hC]; exact I4
  rw [← hcl, ← hC]
  obtain ⟨s4, hs4⟩ : ∃ z : Shared, z = { s3 with heap := pushCells (s3.heap.push { cls := .type "dict", data := .dict #[] }) scope.names } := ⟨_, rfl⟩
  rw [← hs4] at I4
  change codeAny _ _ (.compStart (.SetComp elt [⟨tg, iter, ifs, 0⟩] scope pos) 0 (.ref it) (.ref D) (compEnvC scope cl C X.env)) (compPost (model X.prog X.w) X.A X.xe use Qf (.ref D) C) { s3 with heap := pushCells (s3.heap.push { cls := .type "dict", data := .dict #[] }) scope.names }
  rw [← hs4]
  have t4 : tn 0 s4.heap := T.keep _ _ _ t3 fun b _ o e => by rw [hs4]; exact pushCells_keeps _ _ _ _ (Heap.get?_push_of_some _ e)
  obtain ⟨B, hB⟩ : ∃ z, z = blkX X scope s3 H3 C cl fp := ⟨_, rfl⟩
  rw [← hB] at I4 g1 t1 e1
  have bx : B.prog = X.prog ∧ B.w = X.w ∧ B.A = X.A ∧ B.env = compEnvC scope cl C X.env ∧ B.xe = (blkX X scope s3 H3 C cl fp).xe := by rw [hB]; exact ⟨rfl, rfl, rfl, rfl, rfl⟩
  have calmly : ∀ {σ' : L2.St} {H' : Hp} {s' : Shared}, Inv B [] σ' H' s' → (∀ b ∈ fp, H' b = none) → ∀ b ∈ fp, FpOk B [] H' b := fun {σ' H' s'} I' hn b hb => by
    subst hB
    exact ⟨hn b hb, (I'.ok.exf b hb).1, I'.ok.exfs b hb, .inl hb, fun x c e => (I'.ok.exf b hb).2 x c e, fun p hp => absurd (show p ∈ ([] : List (Addr × Obj)) ++ [] from hp) (by simp)⟩
  have loop : codeAny (model X.prog X.w) X.A (.compLoop (.SetComp elt [⟨tg, iter, ifs, 0⟩] scope pos) 0 (.ref it) (.ref D) (compEnvC scope cl C X.env)) (compPost (model X.prog X.w) X.A X.xe use Qf (.ref D) C) s4 := by
    refine compLoopS_any (fun n s' => ∃ i H', Inv B [] (wipe σ (own.map (·.2))) H' s' ∧ tn i s'.heap ∧ (∀ b ∈ fp, H' b = none) ∧ W i n H') ?_ m0 ⟨0, H3, I4, t4, none3, w0⟩
    subst hB
    rintro n s5 ⟨i, H5, I5, t5, n5, w5⟩
    rcases turn i n H5 w5 with ⟨stop, out⟩ | ⟨go, Nx, less, body⟩
    · refine thnF (T.done (blkX X scope s3 H3 C cl fp) rfl rfl rfl hc i [] s5 _ H5 (fun _ _ => False) I5 (calmly I5 n5) t5 stop) fun r s6 ⟨hr, I6⟩ => ?_
      subst hr
      have back : Inv X pins σ H5 s6 := I3.call' (ch := fp) I6.os I6.base I6.hok I6.bare fun b hb => let z := (f3 b hb).1.2; ⟨z.2.2.1, z.1, z.2.2.2.1, z.2.2.2.2⟩
      have lone : H5 C = none := I6.free
      obtain ⟨m, hn, _⟩ := I6.loc
      have hn : s6.heap.Ns C m := hn
      exact fin D C s6 m H5 back out hn (I3.fpOk (Nat.le_of_eq hC.symm) lone)
    · refine thnF (T.item (blkX X scope s3 H3 C cl fp) rfl rfl rfl hc i [] s5 _ H5 (fun _ _ => False) I5 (calmly I5 n5) t5 go) fun r s6 ⟨u, hr, h6⟩ => ?_
      subst hr
      refine thnF h6 fun _ s7 ⟨x, H7, I7, r7, y7, t7, n7⟩ => ?_
      have P7 := I7.pinned (calmly I7 n7) (T.obj _ _ t7)
      refine thnF (g1.run _ s7 _ H7 x u _ P7 r7 (body x H7 y7)) fun _ s8 ⟨σ8, H8, I8, hw8, q8⟩ => ?_
      refine thnF (t1.run _ s8 σ8 H8 _ I8 q8) fun b s9 ⟨H9, I9, q9⟩ => ?_
      have close : ∀ {s' : Shared} {H' : Hp}, Inv (blkX X scope s3 H3 C cl fp) ([] ++ pinsAt fp s7.heap) σ8 H' s' → Nx H' → ∃ m, m < n ∧ ∃ i H', Inv (blkX X scope s3 H3 C cl fp) [] (wipe σ (own.map (·.2))) H' s' ∧ tn i s'.heap ∧ (∀ b ∈ fp, H' b = none) ∧ W i m H' := fun {s' H'} I' nx => by
        obtain ⟨m', lt, w'⟩ := less H' nx
        have pinned : ∀ b ∈ fp, ∀ o, s7.heap.get? b = some o → s'.heap.get? b = some o ∧ H' b = none := fun b hb o e => by
          have z := I'.pin (b, o) (List.mem_append_right _ (List.mem_append_right _ (mem_pinsAt hb e)))
          exact ⟨z.1, z.2.1⟩
        refine ⟨m', lt, i + 1, H', (I'.unpinned (pins := [])).weak (by rw [← hw8, wipe_length]) (fun j v e => ?_), T.keep _ _ _ t7 fun b hb o e => (pinned b hb o e).1, fun b hb => ?_, w'⟩
        · rw [← hw8] at e; exact (wipe_some e).1
        · obtain ⟨_, e, _⟩ := T.obj _ _ t7 b hb
          exact (pinned b hb _ e).2
      cases b with
      | false => exact close I9 q9
      | true =>
        refine thnF (e1.run _ s9 σ8 H9 _ I9 q9) fun z s10 ⟨yv, H10, I10, r10, st, st', at10, cn, nx⟩ => ?_
        exact K.add (Y := blkX X scope s3 H3 C cl fp) rfl rfl I10 at10 cn r10 fun s11 I11 => close I11 nx
  exact codeAny_compStart_set loop (T.self X.A 0 _ _ _ t4 loop)
theorem pe_sk (K : SK X.prog X.w τ) {elt tg iter : Expr} {ifs : List Expr} {scope : Scope} {own : List (Str × Nat)} {pos : Pos} {wi : TI} {g : TG} {tt : TT} {te : TE} (hc : X.calm = true) (hN : X.N.Nodup) (hi : PI X tg iter wi) (ok : BlkOk X.N X.env.scope scope own)
    (hg : ∀ s H C cl fp, PG (blkX X scope s H C cl fp) tg g) (ht : ∀ s H C cl fp, PTs (blkX X scope s H C cl fp) ifs tt) (he : ∀ s H C cl fp, PE (blkX X scope s H C cl fp) elt te)
    (hs : ∀ x, foldedSetIterable iter X.env x = pure x := by intro _; rfl) : PE X (.SetComp elt [⟨tg, iter, ifs, 0⟩] scope pos) (tSk K wi g tt te (own.map (·.2))) := by
  refine ⟨fun pins s σ H Q I h => ?_⟩
  rw [eval_SetComp]
  exact sk_core K hc hN I hi ok hg ht he hs h fun D C s' m H' I' q hn ⟨f0, f1, f2, f3, f4, f5⟩ => ⟨m, hn, fun h'' sb => ⟨.ref D, H', I'.turned (t' := s'.toks) (fun b o hb e => (sb.2 b hb).trans e) f0 f1 f3 f4 f5, rfl, q⟩⟩
end
/-! ### the reading -/
section
variable {F : Hp} {O : Own} {σ : L2.St} {ds : List PyData}
theorem sc_read {P : Program} {w : World} {τ γ : Type} (Kd : SK P w τ) {wi : TI} {g : TG} {tt : TT} {te : TE} {vs : List Nat} {K : PySem.W.Frag} (S : Nat → Own) (r : Nat → Option γ) (encR : γ → PyData) (acc : List γ → τ → Prop) (a0 : acc [] Kd.st0)
    (hadd : ∀ ys st y v F' H', acc ys st → ys.length < ds.length → R K F' v (encR y) → Gr F' H' → ∃ st', Kd.can H' v st st' ∧ acc (ys ++ [y]) st')
    (hi : ∀ F1 H, Gr F F1 → WOk F1 O H → ∀ Q : It → Hp → Prop, (∀ J F2 H2, Stp F1 O H F2 (S 0) H2 → Walks K J F2 ds → Q J H2) → wi σ H Q)
    (hb : ∀ i d x F' H', ds[i]? = some d → Gr F F' → WOk F' (S i) H' → R K F' x d → ∀ (Q1 : V → Hp → Prop) (Q0 : Hp → Prop), (∀ v F2 H2 y, r i = some y → Stp F' (S i) H' F2 (S (i + 1)) H2 → R K F2 v (encR y) → Q1 v H2) → (∀ F2 H2, r i = none → Stp F' (S i) H' F2 (S (i + 1)) H2 → Q0 H2) →
      g x (wipe σ vs) H' fun σ2 H2 => wipe σ2 vs = wipe σ vs ∧ tt σ2 H2 fun b H3 => if b = true then te σ2 H3 Q1 else Q0 H3)
    {F1 H : Hp} (g1 : Gr F F1) (ok : WOk F1 O H) {Q : VK} (q : ∀ p st F2 H2, H p = none → acc ((List.range ds.length).filterMap r) st → Stp F1 O H F2 ((p, Kd.so p st) :: S ds.length) H2 → Q (.ref p) H2) : tSk Kd wi g tt te vs σ H Q := by
  refine hi F1 H g1 ok _ fun J F2 H2 s1 wk => fun D hD => ?_
  have fresh : H D = none := by
    cases z : H D with
    | none => rfl
    | some u => exact absurd hD (s1.dom D (by rw [z]; simp))
  refine ⟨fun i m H' => m = ds.length - i ∧ i ≤ ds.length ∧ ∃ F' st, Gr F2 F' ∧ Stp F1 O H F' ((D, Kd.so D st) :: S i) H' ∧ acc ((List.range i).filterMap r) st, ⟨ds.length, by simp, Nat.zero_le _, F2, Kd.st0, Gr.refl, s1.trans (Stp.alloc s1.ok hD (Kd.sz D _)), a0⟩, ?_⟩
  rintro i m H' ⟨rfl, hle, F', st, g2, s2, ac⟩
  by_cases hlt : i < ds.length
  · refine .inr ⟨wk.go F' _ H' g2 s2.ok i hlt, fun H3 => ∃ F3 st', Gr F2 F3 ∧ Stp F1 O H F3 ((D, Kd.so D st') :: S (i + 1)) H3 ∧ acc ((List.range (i + 1)).filterMap r) st', fun H3 ⟨F3, st', h2, h3, h4⟩ => ⟨ds.length - (i + 1), by omega, rfl, hlt, F3, st', h2, h3, h4⟩, fun x H3 y => ?_⟩
    obtain ⟨F3, s3, rx⟩ := wk.yld F' _ H' g2 s2.ok i x H3 ds[i] (List.getElem?_eq_getElem hlt) y
    have g3 : Gr F F3 := g1.trans (s1.gr.trans (g2.trans s3.gr))
    refine hb i ds[i] x F3 H3 (List.getElem?_eq_getElem hlt) g3 s3.ok.tail rx _ _ (fun v F4 H4 y hy s4 r4 => ?_) fun F4 H4 hy s4 => ?_
    · have s5 := s2.trans (s3.trans (Stp.cons s3.ok s4))
      have hl : ((List.range i).filterMap r).length < ds.length := Nat.lt_of_le_of_lt (Nat.le_trans (List.length_filterMap_le _ _) (by rw [List.length_range]; exact Nat.le_refl _)) hlt
      obtain ⟨st', cn, ac'⟩ := hadd _ _ y v F4 H4 ac hl r4 s4.ok.sub
      have s6 := Stp.write (o' := Kd.so D st') s5.ok (k := 0) rfl (Kd.sz D st')
      refine ⟨st, st', (s5.ok.own (D, Kd.so D st) List.mem_cons_self).1, cn, F4, st', g2.trans (s3.gr.trans s4.gr), s5.trans s6, ?_⟩
      rw [List.range_succ, List.filterMap_append]
      have e1 : [i].filterMap r = [y] := by rw [List.filterMap_cons, hy]; rfl
      rw [e1]; exact ac'
    · refine ⟨F4, st, g2.trans (s3.gr.trans s4.gr), s2.trans (s3.trans (Stp.cons s3.ok s4)), ?_⟩
      rw [List.range_succ, List.filterMap_append]
      have e1 : [i].filterMap r = [] := by rw [List.filterMap_cons, hy]; rfl
      rw [e1, List.append_nil]; exact ac
  · have ei : i = ds.length := by omega
    subst ei
    exact .inl ⟨wk.stop F' _ H' g2 s2.ok _ (Nat.le_refl _), q D st F' H' fresh ac s2⟩
end
theorem runS_eqG {α β γ : Type} (f : β → α → Option γ × β) : ∀ (xs : List α) (s : β), (List.range xs.length).filterMap (fun i => (xs[i]?).bind fun a => (f (stS f s xs i) a).1) = (runS f s xs).1
  | [], s => rfl
  | a :: xs, s => by
    rw [List.length_cons, List.range_succ_eq_map, List.filterMap_cons, List.filterMap_map]
    have e1 : ((fun i => ((a :: xs)[i]?).bind fun b => (f (stS f s (a :: xs) i) b).1) ∘ Nat.succ) = fun i => (xs[i]?).bind fun b => (f (stS f (f s a).2 xs i) b).1 := by
      funext i
      show ((a :: xs)[i + 1]?).bind _ = _
      rw [List.getElem?_cons_succ, stS_cons]
    rw [e1, runS_eqG f xs (f s a).2]
    have e2 : (((a :: xs)[0]?).bind fun b => (f (stS f s (a :: xs) 0) b).1) = (f s a).1 := rfl
    rw [e2]
    cases h : (f s a).1 with
    | none => simp only [runS, h]
    | some y => simp only [runS, h]
/-- the value is a new thing of mine of which Φ says what it is -/
def ZV (X : Cx) (e : Expr) (σ : L2.St) (F : Hp) (O : Own) (Φ : Addr → HO → Prop) (O' : Own) : Prop :=
  ∀ F1 H, Gr F F1 → WOk F1 O H → ∀ Q : VK, (∀ p o F2 H2, H p = none → Φ p o → Stp F1 O H F2 ((p, o) :: O') H2 → Q (.ref p) H2) → wE X e σ H Q
section
variable {X : Cx} {e a b c tg iter elt tg1 iter1 : Expr} {es : List Expr} {σ : L2.St} {F H : Hp} {O O1 O2 O3 : Own} {d da db : PyData} {ds rs : List PyData} {pos p : Pos} {i j : Int} {k k1 k2 : Bool} {x y : Str} {n m : Nat} {px py spos : Pos} {scope : Scope} {ifs : List Expr}
variable {α β γ τ : Type} {G : β → Own} {enc : α → PyData} {encR : γ → PyData} {xs : List α} {st0 : β} {own : List (Str × Nat)}
theorem scX_read {P : Program} {w : World} (Kd : SK P w τ) (acc : List γ → τ → Prop) (a0 : acc [] Kd.st0) (hadd : ∀ ys st y v F' H', acc ys st → ys.length < xs.length → R X.K F' v (encR y) → Gr F' H' → ∃ st', Kd.can H' v st st' ∧ acc (ys ++ [y]) st')
    {B : α → L2.St → Hp → Prop} {f : β → α → Option γ × β} {tt : TT} (hi : ZI X tg iter σ F O (xs.map enc) (G st0)) (bd : Bd X scope tg (own.map (·.2)) σ enc xs B)
    (hb : ∀ st a σ2 F' H', a ∈ xs → Gr F F' → WOk F' (G st) H' → B a σ2 F' → ∀ (Q1 : V → Hp → Prop) (Q0 : Hp → Prop), (∀ v F2 H2 y, (f st a).1 = some y → Stp F' (G st) H' F2 (G (f st a).2) H2 → R X.K F2 v (encR y) → Q1 v H2) → (∀ F2 H2, (f st a).1 = none → Stp F' (G st) H' F2 (G (f st a).2) H2 → Q0 H2) →
      tt σ2 H' fun b H3 => if b = true then uE X scope elt σ2 H3 Q1 else Q0 H3)
    {F1 H : Hp} (g1 : Gr F F1) (ok : WOk F1 O H) {Q : VK}
    (q : ∀ p st F2 H2, H p = none → acc (runS f st0 xs).1 st → Stp F1 O H F2 ((p, Kd.so p st) :: G (runS f st0 xs).2) H2 → Q (.ref p) H2) : tSk Kd (wI X tg iter) (uG X scope tg) tt (uE X scope elt) (own.map (·.2)) σ H Q := by
  refine sc_read Kd (K := X.K) (fun i => G (stS f st0 xs i)) (fun i => (xs[i]?).bind fun a => (f (stS f st0 xs i) a).1) encR acc a0 (fun ys st y v F' H' h1 h2 => hadd ys st y v F' H' h1 (by rw [List.length_map] at h2; exact h2)) (fun F1 H g1 w Q q => hi F1 H g1 w Q q) (fun i d v F' H' hd gg ww rr Q1 Q0 h1 h0 => ?_) g1 ok (fun p st F2 H2 hp ac s2 => ?_)
  · rw [List.getElem?_map] at hd
    cases ha : xs[i]? with
    | none => rw [ha] at hd; cases hd
    | some a =>
      rw [ha] at hd; cases hd
      have es : stS f st0 xs (i + 1) = (f (stS f st0 xs i) a).2 := by show (match xs[i]? with | some a => _ | none => _) = _; rw [ha]
      rw [ha, es] at h1 h0
      intro s H0 C cl fp
      refine bd.tgt s H0 C cl fp a v F' _ H' _ (List.mem_of_getElem? ha) ww rr fun σ2 b2 => ⟨bd.wp a σ2 F' b2, ?_⟩
      exact hb _ a σ2 F' H' (List.mem_of_getElem? ha) gg ww b2 Q1 Q0 (fun v F2 H2 y hy s r => h1 v F2 H2 y hy s r) fun F2 H2 hy s => h0 F2 H2 hy s
  · rw [List.length_map] at s2 ac
    rw [stS_run] at s2
    rw [runS_eqG] at ac
    exact q p st F2 H2 hp ac s2
theorem zv_scXt (Kd : SK X.prog X.w τ) (acc : List γ → τ → Prop) (a0 : acc [] Kd.st0) (hadd : ∀ ys st y v F' H', acc ys st → ys.length < xs.length → R X.K F' v (encR y) → Gr F' H' → ∃ st', Kd.can H' v st st' ∧ acc (ys ++ [y]) st')
    {B : α → L2.St → Hp → Prop} {pr : α → Bool} {f0 : α → γ} {c : Expr} (hc : X.calm = true) (hN : X.N.Nodup) (hi : ZI X tg iter σ F O (xs.map enc) O1) (bd : Bd X scope tg (own.map (·.2)) σ enc xs B)
    (ht : ∀ s H0 C cl fp a σ2 F', a ∈ xs → Gr F F' → B a σ2 F' → ZT (blkX X scope s H0 C cl fp) c σ2 F' O1 (pr a) O1)
    (he : ∀ s H0 C cl fp a σ2 F', a ∈ xs → pr a = true → Gr F F' → B a σ2 F' → ZE (blkX X scope s H0 C cl fp) elt σ2 F' O1 (encR (f0 a)) O1)
    (ok : BlkOk X.N X.env.scope scope own) (hs : ∀ x, foldedSetIterable iter X.env x = pure x := by intro _; rfl) :
    ZV X (.SetComp elt [⟨tg, iter, [c], 0⟩] scope pos) σ F O (fun p o => ∃ st, acc ((xs.filter pr).map f0) st ∧ o = Kd.so p st) O1 := fun F1 H g1 w Q q =>
  wE_of (pe_sk Kd hc hN pi_w ok pg_u (fun s H C cl fp => pts_one (pt_u s H C cl fp)) pe_u hs)
    (scX_read Kd acc a0 hadd (G := fun _ : Unit => O1) (st0 := ()) hi bd (body_t (pr := fun _ a => pr a) (f0 := fun _ a => f0 a) (s1 := fun _ _ => ()) (s2 := fun _ _ => ()) bd (fun s H0 C cl fp _ a σ2 F' => ht s H0 C cl fp a σ2 F') (fun s H0 C cl fp _ a σ2 F' => he s H0 C cl fp a σ2 F')) g1 w fun p st F2 H2 hp ac s => q p _ F2 H2 hp ⟨st, by rw [runS_genU] at ac; exact ac, rfl⟩ s)
theorem zv_scXn (Kd : SK X.prog X.w τ) (acc : List γ → τ → Prop) (a0 : acc [] Kd.st0) (hadd : ∀ ys st y v F' H', acc ys st → ys.length < xs.length → R X.K F' v (encR y) → Gr F' H' → ∃ st', Kd.can H' v st st' ∧ acc (ys ++ [y]) st')
    {B : α → L2.St → Hp → Prop} {f0 : α → γ} (hc : X.calm = true) (hN : X.N.Nodup) (hi : ZI X tg iter σ F O (xs.map enc) O1) (bd : Bd X scope tg (own.map (·.2)) σ enc xs B)
    (he : ∀ s H0 C cl fp a σ2 F', a ∈ xs → Gr F F' → B a σ2 F' → ZE (blkX X scope s H0 C cl fp) elt σ2 F' O1 (encR (f0 a)) O1)
    (ok : BlkOk X.N X.env.scope scope own) (hs : ∀ x, foldedSetIterable iter X.env x = pure x := by intro _; rfl) :
    ZV X (.SetComp elt [⟨tg, iter, [], 0⟩] scope pos) σ F O (fun p o => ∃ st, acc (xs.map f0) st ∧ o = Kd.so p st) O1 := fun F1 H g1 w Q q =>
  wE_of (pe_sk Kd hc hN pi_w ok pg_u (fun s H C cl fp => pts_nil) pe_u hs)
    (scX_read Kd acc a0 hadd (G := fun _ : Unit => O1) (st0 := ()) hi bd (body_n (f0 := fun _ a => f0 a) (s2 := fun _ _ => ()) (fun s H0 C cl fp _ a σ2 F' => he s H0 C cl fp a σ2 F')) g1 w fun p st F2 H2 hp ac s => q p _ F2 H2 hp ⟨st, by rw [runS_state (f0 := fun (_ : Unit) a => (f0 a, ())), mapS_U] at ac; exact ac, rfl⟩ s)
/-! ### sets of ints -/
def skI (P : Program) (w : World) : SK P w ((Int → Bool) × Nat) where
  so := fun D st => SetO w D st.1 st.2
  sz := fun _ _ => trivial
  st0 := (fun _ => false, 0)
  new := fun H h => by
    have e : (h.push (empS w)).get? h.objs.size = some (empS w) := Heap.get?_push_size _ rfl
    have := setR_new_at (w := w) (ns := []) e
    exact setO_new (this.congr fun k => by simp)
  can := fun _ y st st' => ∃ k, y = .int k ∧ st.2 + 1 < scanBound ∧ st' = (fun j => st.1 j || decide (j = k), if st.1 k = true then st.2 else st.2 + 1)
  add := fun {Y} hP hw => by
    subst hP hw
    intro pins σ H s E D st st' y v Q I hD ⟨k, ey, room, est⟩ r h
    subst ey est
    obtain ⟨tk, rfl⟩ := r
    refine setR_add (setO_get I hD) room fun h' sb new => ?_
    have ⟨o, _, _, _, ho, _⟩ := new
    exact h _ (I.write (e := D) (t' := s.toks + 1) (by rw [hD]; trivial) (.inl rfl) (fun b u hb hu => (sb.2 b hb).trans hu) ⟨o, ho⟩ (setO_new new))
def accI (ns : List Int) (st : (Int → Bool) × Nat) : Prop := (∀ j, st.1 j = decide (j ∈ ns)) ∧ st.2 ≤ ns.length
theorem accI_nil {P : Program} {w : World} : accI [] (skI P w).st0 := ⟨fun j => by simp [skI], Nat.le_refl _⟩
theorem accI_add {P : Program} {w : World} {K : PySem.W.Frag} {N : Nat} (hN : N + 1 < scanBound) : ∀ ys st y v F' H', accI ys st → ys.length < N → R K F' v (eI y) → Gr F' H' → ∃ st', (skI P w).can H' v st st' ∧ accI (ys ++ [y]) st' := fun ys st y v F' H' ⟨h1, h2⟩ hl r _ => by
  refine ⟨_, ⟨y, r.int_inv, by omega, rfl⟩, fun j => ?_, ?_⟩
  · show (st.1 j || decide (j = y)) = _
    rw [h1]; simp
  · show (if st.1 y = true then st.2 else st.2 + 1) ≤ _
    rw [List.length_append, List.length_singleton]
    split <;> omega
/-- what a set of ints is -/
def ISet (w : World) (ns : List Int) : Addr → HO → Prop := fun p o => ∃ c, c ≤ ns.length ∧ o = SetO w p (fun j => decide (j ∈ ns)) c
theorem zv_set {ns : List Int} (hc : X.calm = true) (hm2 : X.mg "set" = none) (ha : ZE X e σ F O (eL eI ns) O1) (hl : ns.length < 63) (hg2 : Gl X "set" := by rfl) (he : starEach [e] X.env = (false, eval e X.env) :: starEach [] X.env := by exact se_pl rfl) (hpl : (backTo pos (starEach [] X.env)).any (·.1) = false := by exact se_any rfl) :
    ZV X (.Call (.Name "set" p) [e] [] pos) σ F O (ISet X.w ns) O1 := fun F1 H g w Q q => by
  refine wE_of (pe_callTy (cr_setI hc) hg2 hm2 (by decide +kernel) (pa_cons pe_w pa_nil he) (by decide) (by decide) he hpl) ?_
  refine ha F1 H g w _ fun v F2 H2 s1 r1 => ?_
  obtain ⟨l, xs, rfl, e1, a1⟩ := r1.lst_inv
  have ex := ints_ra a1
  subst ex
  refine ⟨l, ns, rfl, .inl (.inl (s1.ok.sub _ _ e1)), by unfold scanBound; omega, fun a c hn hcn => ?_⟩
  have fresh : H a = none := by
    cases z : H a with
    | none => rfl
    | some u => exact absurd hn (s1.dom a (by rw [z]; simp))
  exact q a _ _ _ fresh ⟨c, hcn, rfl⟩ (s1.trans (Stp.alloc s1.ok hn trivial))
theorem zv_scI {xs : List α} {B : α → L2.St → Hp → Prop} {pr : α → Bool} {f0 : α → Int} {c : Expr} (hl : xs.length < 63) (hc : X.calm = true) (hN : X.N.Nodup) (hi : ZI X tg iter σ F O (xs.map enc) O1) (bd : Bd X scope tg (own.map (·.2)) σ enc xs B)
    (ht : ∀ s H0 C cl fp a σ2 F', a ∈ xs → Gr F F' → B a σ2 F' → ZT (blkX X scope s H0 C cl fp) c σ2 F' O1 (pr a) O1)
    (he : ∀ s H0 C cl fp a σ2 F', a ∈ xs → pr a = true → Gr F F' → B a σ2 F' → ZE (blkX X scope s H0 C cl fp) elt σ2 F' O1 (eI (f0 a)) O1)
    (ok : BlkOk X.N X.env.scope scope own) (hs : ∀ x, foldedSetIterable iter X.env x = pure x := by intro _; rfl) :
    ZV X (.SetComp elt [⟨tg, iter, [c], 0⟩] scope pos) σ F O (ISet X.w ((xs.filter pr).map f0)) O1 := fun F1 H g w Q q =>
  zv_scXt (skI X.prog X.w) accI accI_nil (accI_add (by unfold scanBound; omega)) hc hN hi bd ht he ok hs F1 H g w Q fun p o F2 H2 hp ⟨st, ⟨h1, h2⟩, ho⟩ s => q p o F2 H2 hp ⟨st.2, h2, by rw [ho, ← show st.1 = _ from funext h1]; rfl⟩ s
theorem zv_scIn {xs : List α} {B : α → L2.St → Hp → Prop} {f0 : α → Int} (hl : xs.length < 63) (hc : X.calm = true) (hN : X.N.Nodup) (hi : ZI X tg iter σ F O (xs.map enc) O1) (bd : Bd X scope tg (own.map (·.2)) σ enc xs B)
    (he : ∀ s H0 C cl fp a σ2 F', a ∈ xs → Gr F F' → B a σ2 F' → ZE (blkX X scope s H0 C cl fp) elt σ2 F' O1 (eI (f0 a)) O1)
    (ok : BlkOk X.N X.env.scope scope own) (hs : ∀ x, foldedSetIterable iter X.env x = pure x := by intro _; rfl) :
    ZV X (.SetComp elt [⟨tg, iter, [], 0⟩] scope pos) σ F O (ISet X.w (xs.map f0)) O1 := fun F1 H g w Q q =>
  zv_scXn (skI X.prog X.w) accI accI_nil (accI_add (by unfold scanBound; omega)) hc hN hi bd he ok hs F1 H g w Q fun p o F2 H2 hp ⟨st, ⟨h1, h2⟩, ho⟩ s => q p o F2 H2 hp ⟨st.2, h2, by rw [ho, ← show st.1 = _ from funext h1]; rfl⟩ s
/-- sorted(e), e a set of ints -/
theorem zn_sortV {ns : List Int} (hc : X.calm = true) (hm : X.mg "sorted" = none) (ha : ZV X e σ F O (ISet X.w ns) O1) (hl : ns.length < 63) (hg : Gl X "sorted" := by rfl) (he : starEach [e] X.env = (false, eval e X.env) :: starEach [] X.env := by exact se_pl rfl) (hpl : (backTo pos (starEach [] X.env)).any (·.1) = false := by exact se_any rfl) :
    ZN X (.Call (.Name "sorted" p) [e] [] pos) σ F O ((usI ns).map eI) O1 := fun F1 H g w Q q => by
  refine wE_of (pe_callB (cr_sortedSet hc) hg hm (by decide +kernel) (pa_cons pe_w pa_nil he) (by decide) (by decide) he hpl) ?_
  refine ha F1 H g w _ fun a o F2 H2 fresh ⟨c, hcn, ho⟩ s2 => ?_
  subst ho
  refine ⟨a, _, c, rfl, (s2.ok.own _ List.mem_cons_self).1, by omega, fun ms b hp hmem _ hb => ?_⟩
  have em : ms = usI ns := usI_unique hp fun x => by rw [hmem x]; simp
  subst em
  have hz : ((usI ns).map V.int).length ≤ sizeLine := by
    rw [List.length_map]
    have h1 := (sortI_perm (ddI ns)).length_eq
    have h2 : (ddI ns).length ≤ ns.length := ddI_le _
    unfold usI
    rw [h1, ← szL]; omega
  refine q b _ _ _ ?_ ((Stp.drop s2).trans (Stp.alloc (Stp.drop s2).ok hb hz)) (ra_ints _)
  cases z : H b with
  | none => rfl
  | some u => exact absurd hb (s2.dom b (by rw [z]; simp))
end
end Z

end
section
namespace Z
open PySem PySem.Spec PyProof.Rows L2 RT
/-! ### list(reversed(xs)) -/
section
variable {prog : Program} {w : World} {A : Around} {E : Value → Shared → Prop} {s : Shared}
theorem mk_list_rev {R : Result → Shared → Prop} {it l : Addr} {its : Array Value} (hh : A.handled = none) (hit : s.heap.IsRevIter it l ((its.size : Int) - 1)) (hl : s.heap.IsList l its) (hn : its.size ≤ sizeLine) (hne : l ≠ it) (S : Addr) (hS : s.heap.get? S = some { cls := .type "list", data := .seq #[] }) (nl : S ≠ l) (ni : S ≠ it)
    (k : ∀ h' tk acc c, (∀ b o, b ≠ S → b ≠ it → s.heap.get? b = some o → h'.get? b = some o) → h'.get? S = some { cls := .type "list", dict := none, data := .seq acc c, slots := #[] } → ItemsOf (fun i v => its[its.size - 1 - i]? = some v) acc its.size → R (.ok (.ret .none)) { s with heap := h', toks := tk }) :
    wpAny (model prog w) A.in1 (Builtin.«list.__init__» ⟨[.ref S, .ref it], []⟩) (fun f s' => match f with | .done f => R (.ok f) s' | .again c => c.quiet = true ∧ codeAny (model prog w) A c R s') (fun e s' => R (.error e) s') s := by
  have Wk := (Walks.listRev (prog := prog) (w := w) (A := A.in1) hh it l hne its).toS
  change wpAny _ _ (do let old ← Builtin.List.listItems (.ref S); Builtin.List.listUpdate (.ref S) (fun _ => #[]); letGo old.toList.reverse; Builtin.List.listExtendWith (.ref S) (.ref it) .none) _ _ s
  refine wpAny_bind ?_
  unfold Builtin.List.listItems
  refine wpAny_bind (wpAny_seqItems hS rfl (wpAny_pure ?_))
  change wpAny _ _ (updateSeq S (fun _ => #[]) >>= fun _ => letGo ([] : List Value) >>= fun _ => Builtin.List.listExtendWith (.ref S) (.ref it) .none) _ _ s
  refine wpAny_bind (wpAny_updateSeq hS rfl ?_)
  refine wpAny_bind (wpAny_letGo ?_)
  obtain ⟨h1, eh1⟩ : ∃ z, z = s.heap.update S (Obj.mapSeq (fun _ => (#[] : Array Value))) := ⟨_, rfl⟩
  have at1 := Heap.get?_update_self (Obj.mapSeq (fun _ => (#[] : Array Value))) hS rfl
  have keep1 : ∀ b o, b ≠ S → s.heap.get? b = some o → h1.get? b = some o := fun b o hb e => by rw [eh1]; exact (Heap.get?_update_other _ _ (Ne.symm hb)).trans e
  rw [← eh1] at at1 ⊢
  have it1 : h1.IsRevIter it l ((its.size : Int) - 1) := hit.at fun o e => keep1 _ _ (Ne.symm ni) e
  have l1 : h1.IsList l its := by obtain ⟨o, ho, q⟩ := hl; exact ⟨o, keep1 _ _ (Ne.symm nl) ho, q⟩
  have ty : ({ s with heap := h1 } : Shared).TypeIs (.ref it) "list_reverseiterator" := Heap.IsRevIter.typeIs (s := { s with heap := h1 }) it1
  have same : Builtin.List.listSameRef (.ref S) (.ref it) = false := by simp [Builtin.List.listSameRef, ni]
  unfold Builtin.List.listExtendWith
  refine wpAny_bind (wpAny_typeOf ty ?_)
  rw [if_neg (by rw [same]; decide)]
  refine wpAny_bind (wpAny_pyIter_revIter (s := { s with heap := h1 }) it1 ?_)
  refine wpAny_bind (wpAny_holding ?_)
  unfold Builtin.List.listLengthHint
  refine wpAny_bind (wpAny_specialOf ty nolen_lri ?_)
  change wpAny _ _ (specialOf (Value.ref it) (Str.ofString "__length_hint__") >>= _) _ _ _
  refine wpAny_bind (wpAny_specialOf ty hint_lri ?_)
  generalize hz : ("list_reverseiterator.__length_hint__" : String) = nm
  wp_delta
  rw [show splitId nm = some ("list_reverseiterator", "__length_hint__") from by rw [← hz]; decide +kernel]
  subst hz
  refine wpAny_bind (wpAny_isInstance (b := true) ty (by rw [isSubtype_type]; kernel_rfl) (wpAny_pure ?_))
  have e0 : ((its.size : Nat) : Int) - 1 - ((0 : Nat) : Int) = (its.size : Int) - 1 := by omega
  have sf : S ∉ [it, l] := by
    simp only [List.mem_cons, List.not_mem_nil, or_false, not_or]
    exact ⟨ni, nl⟩
  have loop : ∀ (h2 : Heap) (c1 tk : Nat), (∀ b o, b ≠ S → s.heap.get? b = some o → h2.get? b = some o) → h2.get? S = some { cls := .type "list", data := .seq #[] c1 } →
      codeAny (model prog w) A (.builtin "list.extend.loop" ⟨[.ref S, .ref it, .none], []⟩) R { s with heap := h2, toks := tk } := fun h2 c1 tk kp at2 => by
    have it2 : h2.IsRevIter it l ((its.size : Int) - 1) := hit.at fun o e => kp _ _ (Ne.symm ni) e
    have l2 : h2.IsList l its := by obtain ⟨o, ho, q⟩ := hl; exact ⟨o, kp _ _ (Ne.symm nl) ho, q⟩
    refine codeAny_extend_loopS Wk hn S sf .none its.size 0 _ #[] c1 rfl (Nat.zero_le _) ⟨Nat.zero_le _, by rw [e0]; exact it2, l2⟩ at2 (ItemsOf.nil _) fun s' acc c hm at3 hacc => ?_
    rw [Moved.eq_with hm]
    refine k s'.heap s'.toks acc c (fun b o hb hbi e => hm.heap b o (fun z => ?_) (kp b o hb e)) at3 hacc
    rcases List.mem_cons.mp z with z | z
    · exact hb z
    · exact hbi (List.mem_singleton.mp z)
  refine wpAny_ite_split (fun _ => ?_) (fun _ => wpAny_pure ⟨plainId_quiet F.plain_extend_loop _, loop _ _ _ keep1 at1⟩)
  refine wpAny_bind (wpAny_rule (wpAny_bind ?_))
  change wpAny _ _ (updateSeq S (·.push .none) >>= fun _ => updateSeq S (·.pop)) _ _ _
  refine wpAny_bind (wpAny_updateSeq at1 rfl ?_)
  have at2 := Heap.get?_update_self (Obj.mapSeq (·.push Value.none)) at1 rfl
  refine wpAny_updateSeq (hz := by seq_fits) at2 rfl ?_
  have at3 := Heap.get?_update_self (Obj.mapSeq (·.pop)) at2 rfl
  exact wpAny_pure ⟨plainId_quiet F.plain_extend_loop _, loop _ _ _ (fun b o hb e => (Heap.get?_update_other _ _ (Ne.symm hb)).trans ((Heap.get?_update_other _ _ (Ne.symm hb)).trans (keep1 b o hb e))) at3⟩
theorem call_list_rev {it l : Addr} {its : Array Value} {Q : Value → Shared → Prop} (hh : A.handled = none) (hit : s.heap.IsRevIter it l ((its.size : Int) - 1)) (hl : s.heap.IsList l its) (hn : its.size ≤ sizeLine) (hne : l ≠ it)
    (k : ∀ h' tk acc c, (∀ b o, b ≠ it → s.heap.get? b = some o → h'.get? b = some o) → h'.get? s.heap.objs.size = some { cls := .type "list", dict := none, data := .seq acc c, slots := #[] } → ItemsOf (fun i v => its[its.size - 1 - i]? = some v) acc its.size → Q (.ref s.heap.objs.size) { s with heap := h', toks := tk }) :
    wpAny (model prog w) A (call (.type "list") [.ref it]) Q E s := by
  obtain ⟨oi, ei, _⟩ := id hit
  obtain ⟨ol, el, _⟩ := id hl
  refine callType_codes (Q₁ := fun obj s₁ => obj = .ref s.heap.objs.size ∧ s₁ = { s with heap := s.heap.push { cls := .type "list", data := .seq #[] } }) F.called_list (F.typeCall_list_1 _) F.entry_list_init (code_list_new _ ⟨rfl, rfl⟩) fun obj s₁ h => ?_
  obtain ⟨rfl, rfl⟩ := h
  have at0 : (s.heap.push { cls := .type "list", data := .seq #[] }).get? s.heap.objs.size = some { cls := .type "list", data := .seq #[] } := Heap.get?_push_size _ rfl
  refine ⟨⟨_, at0, rfl⟩, F.args_list_init_2 _ _, mk_list_rev (A := A.in1) hh (hit.at fun o e => Heap.get?_push_of_some _ e) (hl.push _) hn hne _ at0 (Nat.ne_of_gt (Heap.lt_size el)) (Nat.ne_of_gt (Heap.lt_size ei)) fun h' tk acc c kp at1 hacc => ⟨rfl, k h' tk acc c (fun b o hb e => kp b o (Nat.ne_of_lt (Heap.lt_size e)) hb (Heap.get?_push_of_some _ e)) at1 hacc⟩⟩
end
section
variable {X : Cx} {e : Expr} {te : TE} {p p2 pos pos2 : Pos} {σ : L2.St} {F H : Hp} {O O1 : Own} {ds : List PyData}
def tLstRev (K : PySem.W.Frag) (te : TE) : TE := fun σ H Q => te σ H fun v H1 => ∃ (a : Addr) (xs : List V), v = .ref a ∧ SqL K H1 a xs ∧ ∀ q, H1 q = none → Q (.ref q) (upd H1 q (.lst xs.reverse))
theorem pe_lstRev (hc : X.calm = true) (hg : Gl X "list") (hm : X.mg "list" = none) (hg2 : Gl X "reversed") (hm2 : X.mg "reversed" = none) (he : PE X e te) (hs : starEach [e] X.env = (false, eval e X.env) :: starEach [] X.env := by exact se_pl rfl)
    (hs2 : starEach [.Call (.Name "reversed" p2) [e] [] pos2] X.env = (false, eval (.Call (.Name "reversed" p2) [e] [] pos2) X.env) :: starEach [] X.env := by rfl) : PE X (.Call (.Name "list" p) [.Call (.Name "reversed" p2) [e] [] pos2] [] pos) (tLstRev X.K te) := by
  refine ⟨fun pins s σ H Q I h => Call_ (ld_blt I hg hm boot_list (PyProof.Rows.callWith_type1 (args_cons (Call_ (ld_blt I hg2 hm2 PyProof.Rows.boot_reversed (PyProof.Rows.callWith_type1 (args_cons (thn (he.run pins s σ H _ I h) fun u s1 ⟨v, H1, I1, r1, a, xs, ev, hq, q⟩ => args_nil ?_) hs) hs rfl))) hs2) hs2 rfl))⟩
  subst ev
  obtain rfl : u = Value.ref a := r1
  obtain ⟨its, rv, pl, hz⟩ := I1.list hq
  have hl := pl.isList
  obtain ⟨ol, el, _⟩ := id hl
  refine call_reversed_list hl (args_nil ?_)
  obtain ⟨s2, es2⟩ : ∃ z : Shared, z = { s1 with heap := s1.heap.push (revObj a ((its.toArray.size : Int) - 1)) } := ⟨_, rfl⟩
  rw [← es2]
  have I2 : Inv X pins σ H1 s2 := by rw [es2]; exact I1.kept (t' := s1.toks) fun b o e => Heap.get?_push_of_some _ e
  obtain ⟨f0, f1, f2, f3, f4, f5⟩ := I1.fpOk (H' := H1) (b := s1.heap.objs.size) (Nat.le_refl _) (I1.hok.fresh (Nat.le_refl _))
  have lt : s1.heap.objs.size < s2.heap.objs.size := by rw [es2]; show _ < (s1.heap.push _).objs.size; rw [Heap.size_push]; exact Nat.lt_succ_self _
  have hn : its.toArray.size ≤ sizeLine := by rw [List.size_toArray, ← rv.length]; exact hz
  have rit : s2.heap.IsRevIter s1.heap.objs.size a ((its.toArray.size : Int) - 1) := by rw [es2]; exact ⟨_, Heap.get?_push_size _ rfl, rfl, rfl⟩
  have l2 : s2.heap.IsList a its.toArray := by rw [es2]; exact hl.push _
  refine call_list_rev (s := s2) (I1.ok.hd hc) rit l2 hn (Nat.ne_of_lt (Heap.lt_size el)) fun h' tk acc c kp at1 hacc => ?_
  refine ⟨.ref s2.heap.objs.size, upd H1 s2.heap.objs.size (.lst xs.reverse), I2.turnedNew (t' := tk) (ch := [s1.heap.objs.size]) (fun b o hb e => kp b o (fun z => hb (by rw [z]; exact List.mem_singleton.mpr rfl)) e) (fun b hb => ?_) (Nat.le_refl _) (show ObjOk X.prog X.w _ _ _ (.lst xs.reverse) from ⟨by rw [List.length_reverse]; exact hz, acc.toList, c, vals_rev rv hacc, by rw [Array.toArray_toList]; exact at1⟩), rfl, q _ (I2.hok.fresh (Nat.le_refl _))⟩
  rw [List.mem_singleton.mp hb]
  exact ⟨f0, f1, f2, f3, f4, f5⟩
theorem zn_lstRev (hc : X.calm = true) (hm : X.mg "list" = none) (hm2 : X.mg "reversed" = none) (ha : ZE X e σ F O (.list ds) O1) (hg : Gl X "list" := by rfl) (hg2 : Gl X "reversed" := by rfl) (hs : starEach [e] X.env = (false, eval e X.env) :: starEach [] X.env := by exact se_pl rfl)
    (hs2 : starEach [.Call (.Name "reversed" p2) [e] [] pos2] X.env = (false, eval (.Call (.Name "reversed" p2) [e] [] pos2) X.env) :: starEach [] X.env := by rfl) : ZN X (.Call (.Name "list" p) [.Call (.Name "reversed" p2) [e] [] pos2] [] pos) σ F O ds.reverse O1 := fun F1 H g w Q q =>
  wE_of (pe_lstRev hc hg hm hg2 hm2 pe_w hs hs2) (ha F1 H g w _ fun v F2 H2 s1 r1 => by
    obtain ⟨l, xs, rfl, e1, a1⟩ := r1.lst_inv
    refine ⟨l, xs, rfl, .inl (.inl (s1.ok.sub _ _ e1)), fun a ha => ?_⟩
    have hz : xs.reverse.length ≤ sizeLine := by rw [List.length_reverse]; exact s1.ok.sz _ _ e1
    refine q a _ _ _ ?_ (s1.trans (Stp.alloc s1.ok ha hz)) a1.rev
    cases z : H a with
    | none => rfl
    | some u => exact absurd ha (s1.dom a (by rw [z]; simp)))
end
/-! ### lending what is mine, alone -/
def FlatD (d : PyData) : Prop := ∀ (K : PySem.W.Frag) (F F' : Hp) (v : V), R K F v d → R K F' v d
theorem flatI {i : Int} : FlatD (eI i) := fun K F F' v r => by rw [r.int_inv]; exact .int _
theorem flatB {i : Bool} : FlatD (eB i) := fun K F F' v r => by rw [r.bl_inv]; exact .bl _
theorem flatS {i : Str} : FlatD (eS i) := fun K F F' v r => by rw [r.str_inv]; exact .str _
def hid (F : Hp) (p : Addr) : Hp := fun b => if b = p then none else F b
section
variable {F F' H H' : Hp} {O O' O1 : Own} {p : Addr} {o : HO} {k k1 : Nat}
theorem own_perm : ∀ {O : Own} {k : Nat}, O[k]? = some (p, o) → O.Perm ((p, o) :: O.eraseIdx k)
  | [], k, h => by simp at h
  | q :: O, 0, h => by cases h; exact List.Perm.refl _
  | q :: O, k + 1, h => ((own_perm (O := O) (k := k) h).cons q).trans (List.Perm.swap _ _ _)
theorem own_permK {O : Own} {k : Nat} (h : O[k]? = some (p, o)) : (keys O).Perm (p :: keys (O.eraseIdx k)) := (own_perm h).map _
theorem hid_ne {b : Addr} (h : b ≠ p) : hid F p b = F b := by unfold hid; rw [if_neg h]
theorem hid_some {b : Addr} {u : HO} (h : hid F p b = some u) : b ≠ p ∧ F b = some u := by
  unfold hid at h
  split at h
  · cases h
  · exact ⟨by assumption, h⟩
theorem WOk.lend (w : WOk F O H) (h : O[k]? = some (p, o)) : WOk (upd F p o) (O.eraseIdx k) H := by
  have hp := own_perm h
  have at_ := w.at_ h
  have nk : (p :: keys (O.eraseIdx k)).Nodup := (own_permK h).nodup_iff.mp w.nd
  refine ⟨fun b u e => ?_, fun q hq => ?_, (List.nodup_cons.mp nk).2, fun a xs e => ?_, fun q hq => w.szo q (hp.mem_iff.mpr (List.mem_cons_of_mem _ hq))⟩
  · by_cases hb : b = p
    · subst hb; rw [upd_same] at e; cases e; exact at_.1
    · rw [upd_ne hb] at e; exact w.sub b u e
  · have z := w.own q (hp.mem_iff.mpr (List.mem_cons_of_mem _ hq))
    have ne : q.1 ≠ p := fun e => (List.nodup_cons.mp nk).1 (by rw [← e]; exact List.mem_map.mpr ⟨q, hq, rfl⟩)
    exact ⟨z.1, by rw [upd_ne ne]; exact z.2⟩
  · by_cases hb : a = p
    · subst hb; rw [upd_same] at e; cases e; exact w.szo _ (hp.mem_iff.mpr List.mem_cons_self) _ rfl
    · rw [upd_ne hb] at e; exact w.sz a xs e
theorem Stp.lend (w : WOk F O H) (h : O[k]? = some (p, o)) (x : Stp (upd F p o) (O.eraseIdx k) H F' (O1.eraseIdx k1) H') (h1 : O1[k1]? = some (p, o)) : Stp F O H (hid F' p) O1 H' := by
  have hp := own_perm h
  have hp1 := own_perm h1
  have at_ := w.at_ h
  have fp : F' p = some o := x.gr p o upd_same
  have mem : ∀ b, b ∈ keys O ↔ b = p ∨ b ∈ keys (O.eraseIdx k) := fun b => by
    rw [(own_permK h).mem_iff, List.mem_cons]
  have mem1 : ∀ b, b ∈ keys O1 ↔ b = p ∨ b ∈ keys (O1.eraseIdx k1) := fun b => by
    rw [(own_permK h1).mem_iff, List.mem_cons]
  have no : p ∉ keys (O1.eraseIdx k1) := fun z => by
    obtain ⟨q, hq, e⟩ := List.mem_map.mp z
    have := (x.ok.own q hq).2
    rw [e, fp] at this; cases this
  refine ⟨⟨fun b u e => x.ok.sub b u (hid_some e).2, fun q hq => ?_, ?_, fun a xs e => x.ok.sz a xs (hid_some e).2, fun q hq xs e => ?_⟩, fun b u e => ?_, fun b u e n => ?_, fun b u e => ?_, fun b hb => ?_, x.dom⟩
  · rcases List.mem_cons.mp (hp1.mem_iff.mp hq) with rfl | hq
    · exact ⟨x.ok.sub _ _ fp, by unfold hid; rw [if_pos rfl]⟩
    · have z := x.ok.own q hq
      exact ⟨z.1, by unfold hid; split <;> first | rfl | exact z.2⟩
  · exact (own_permK h1).nodup_iff.mpr (List.nodup_cons.mpr ⟨no, x.ok.nd⟩)
  · rcases List.mem_cons.mp (hp1.mem_iff.mp hq) with rfl | hq
    · exact w.szo _ (hp.mem_iff.mpr List.mem_cons_self) xs e
    · exact x.ok.szo q hq xs e
  · have ne : b ≠ p := fun z => by rw [z, at_.2] at e; cases e
    rw [hid_ne ne]
    exact x.gr b u (by rw [upd_ne ne]; exact e)
  · exact x.keep b u e fun z => n ((mem b).mpr (.inr z))
  · obtain ⟨ne, e⟩ := hid_some e
    rcases x.fr b u e with z | z
    · rw [upd_ne ne] at z; exact .inl z
    · exact .inr z
  · rcases (mem1 b).mp hb with rfl | hb
    · exact .inl ((mem _).mpr (.inl rfl))
    · rcases x.ky b hb with z | z
      · exact .inl ((mem b).mpr (.inr z))
      · exact .inr z
theorem Gr.lend {F1 : Hp} (g : Gr F F1) : Gr (L2.upd F p o) (L2.upd F1 p o) := fun b u e => by
  by_cases hb : b = p
  · subst hb; rw [upd_same] at e ⊢; exact e
  · rw [upd_ne hb] at e ⊢; exact g b u e
end
/-- what is mine at place k is data within e -/
theorem ze_lend {X : Cx} {e : Expr} {σ : L2.St} {F : Hp} {O O' O1 O1' : Own} {d : PyData} {p : Addr} {o : HO} (k k1 : Nat) (h : O[k]? = some (p, o)) (hO : O.eraseIdx k = O') (z : ZE X e σ (upd F p o) O' d O1') (hd : FlatD d) (h1 : O1[k1]? = some (p, o)) (hO1 : O1.eraseIdx k1 = O1') : ZE X e σ F O d O1 := fun F1 H g w Q q => by
  subst hO hO1
  exact z (upd F1 p o) H g.lend (w.lend h) Q fun v F2 H2 s r => q v _ H2 (Stp.lend w h s h1) (hd _ _ _ _ r)
theorem zt_lend {X : Cx} {e : Expr} {σ : L2.St} {F : Hp} {O O' O1 O1' : Own} {b : Bool} {p : Addr} {o : HO} (k k1 : Nat) (h : O[k]? = some (p, o)) (hO : O.eraseIdx k = O') (z : ZT X e σ (upd F p o) O' b O1') (h1 : O1[k1]? = some (p, o)) (hO1 : O1.eraseIdx k1 = O1') : ZT X e σ F O b O1 := fun F1 H g w Q q => by
  subst hO hO1
  exact z (upd F1 p o) H g.lend (w.lend h) Q fun F2 H2 s => q _ H2 (Stp.lend w h s h1)
/-- a value that may be None and is none -/
theorem ze_some {X : Cx} {e : Expr} {σ : L2.St} {F : Hp} {O O1 : Own} {α : Type} [Inhabited α] {enc : α → PyData} {x : Option α} (h : ZE X e σ F O (eO enc x) O1) (hs : x.isSome = true) : ZE X e σ F O (enc (x.getD default)) O1 := by
  cases x with
  | none => cases hs
  | some a => exact h
theorem some_nn {enc : Int → PyData} {x : Option Int} (he : ∀ i, isNon (enc i) = false) (h : (!isNon (eO enc x)) = true) : x.isSome = true := by
  cases x with
  | none => exact (Bool.false_ne_true h).elim
  | some a => rfl
theorem len_filter_map {α β : Type} (pr : α → Bool) (f : α → β) (xs : List α) : ((xs.filter pr).map f).length ≤ xs.length := by
  rw [List.length_map]; exact List.length_filter_le _ _
theorem isNon_eO {α : Type} {enc : α → PyData} (he : ∀ a, isNon (enc a) = false) (x : Option α) : isNon (eO enc x) = x.isNone := by
  cases x with
  | none => rfl
  | some a => exact he a
/-- not x, as a value -/
theorem ze_notTr {X : Cx} {a : Expr} {σ : L2.St} {F : Hp} {O O1 : Own} {d : PyData} {k : Bool} {pos : Pos} (h : ZE X a σ F O d O1) (ht : ∀ F2 H2 v, Gr F F2 → WOk F2 O1 H2 → R X.K F2 v d → TruV X.K v H2 k) : ZE X (.UnaryOp .Not a pos) σ F O (.bool (!k)) O1 := fun F1 H g w Q q =>
  wE_of (pe_notT pe_w) (h F1 H g w _ fun v F2 H2 s1 r1 => ⟨k, ht F2 H2 v (g.trans s1.gr) s1.ok r1, q _ _ _ s1 (.bl _)⟩)
theorem ze_notL {X : Cx} {a : Expr} {σ : L2.St} {F : Hp} {O O1 : Own} {ds : List PyData} {pos : Pos} (h : ZE X a σ F O (.list ds) O1) : ZE X (.UnaryOp .Not a pos) σ F O (.bool (!!ds.isEmpty)) O1 :=
  ze_notTr h fun F2 H2 v _ w r => by
    obtain ⟨l, xs, rfl, e1, a1⟩ := r.lst_inv
    exact .inl ⟨xs, .inl (.inl (w.sub _ _ e1)), by rw [ra_empty a1]⟩
theorem ze_notLt {X : Cx} {a : Expr} {σ : L2.St} {F : Hp} {O O1 : Own} {α : Type} {enc : α → PyData} {xs : List α} {pos : Pos} (h : ZE X a σ F O (eL enc xs) O1) : ZE X (.UnaryOp .Not a pos) σ F O (eB xs.isEmpty) O1 :=
  ze_to (ze_notL h) (by rw [Bool.not_not]; cases xs <;> rfl) rfl
end Z

end
section
namespace Z
open PySem PySem.Spec PyProof.Rows L2
/-! ### sizes of data -/
theorem szI (i : Int) : dsz (eI i) = 1 := by simp [eI, dsz]
theorem szB (i : Bool) : dsz (eB i) = 1 := by simp [eB, dsz]
theorem szS (i : Str) : dsz (eS i) = 1 := by simp [eS, dsz]
theorem szLn {α : Type} {e : α → PyData} (xs : List α) : dsz (eL e xs) = 1 + dszL (xs.map e) := dsz_list _
theorem szLI (xs : List Int) : dszL (xs.map eI) = xs.length := by
  induction xs with
  | nil => rfl
  | cons x xs ih => rw [List.map_cons, List.length_cons]; simp only [dszL]; rw [ih, szI]; omega
theorem szLS (xs : List Str) : dszL (xs.map eS) = xs.length := by
  induction xs with
  | nil => rfl
  | cons x xs ih => rw [List.map_cons, List.length_cons]; simp only [dszL]; rw [ih, szS]; omega
theorem szLB (xs : List Bool) : dszL (xs.map eB) = xs.length := by
  induction xs with
  | nil => rfl
  | cons x xs ih => rw [List.map_cons, List.length_cons]; simp only [dszL]; rw [ih, szB]; omega
theorem szOI (x : Option Int) : dsz (eO eI x) = 1 := by cases x with | none => simp [eO, dsz] | some a => exact szI a
theorem szOS (x : Option Str) : dsz (eO eS x) = 1 := by cases x with | none => simp [eO, dsz] | some a => exact szS a
theorem szT2 {α β : Type} {e1 : α → PyData} {e2 : β → PyData} (p : α × β) : dsz (eT2 e1 e2 p) = 1 + (dsz (e1 p.1) + dsz (e2 p.2)) := by
  show dsz (.tuple [e1 p.1, e2 p.2]) = _
  rw [dsz_tuple]; simp [dszL]
theorem szD (xs : List PyData) : dszL (xs.map fun d => d) = dszL xs := by rw [List.map_id']
theorem szC (x : PyData) (xs : List PyData) : dszL (x :: xs) = dsz x + dszL xs := rfl
theorem szN : dszL [] = 0 := rfl
theorem szM {α β : Type} {e : β → PyData} (f : α → β) (xs : List α) (c : Nat) (h : ∀ x ∈ xs, dsz (e (f x)) ≤ c) : dszL ((xs.map f).map e) ≤ c * xs.length := by
  rw [List.map_map]; exact dszL_map_le (e := e ∘ f) h
end Z

end
section
namespace Z
open PySem PySem.Spec PyProof.Rows L2
/-! ### dicts as lists of pairs -/
section
variable {κ α : Type} [DecidableEq κ]
def getM (m : List (κ × α)) (k : κ) : Option α := (m.find? fun p => decide (p.1 = k)).map (·.2)
def putM (m : List (κ × α)) (k : κ) (a : α) : List (κ × α) := if (getM m k).isSome = true then m.map (fun p => if p.1 = k then (p.1, a) else p) else m ++ [(k, a)]
theorem getM_nil {k : κ} : getM ([] : List (κ × α)) k = none := rfl
theorem getM_cons {p : κ × α} {m : List (κ × α)} {k : κ} : getM (p :: m) k = if p.1 = k then some p.2 else getM m k := by
  unfold getM
  rw [List.find?_cons]
  by_cases h : p.1 = k
  · rw [if_pos h, decide_eq_true h]; rfl
  · rw [if_neg h, decide_eq_false h]
theorem getM_map {m : List (κ × α)} {k j : κ} {a : α} : getM (m.map fun p => if p.1 = k then (p.1, a) else p) j = if j = k then (getM m j).map fun _ => a else getM m j := by
  induction m with
  | nil => simp [getM_nil]
  | cons p m ih =>
    rw [List.map_cons, getM_cons, getM_cons, ih]
    by_cases h : p.1 = k
    · rw [if_pos h]
      by_cases h2 : p.1 = j
      · have e : j = k := h2.symm.trans h
        simp [h2, e]
      · have e : ¬ j = k := fun z => h2 (h.trans z.symm)
        simp [h2, e]
    · rw [if_neg h]
      by_cases h2 : p.1 = j
      · have e : ¬ j = k := fun z => h (h2.trans z)
        simp [h2, e]
      · simp [h2]
theorem getM_snoc {m : List (κ × α)} {k j : κ} {a : α} (h : getM m k = none) : getM (m ++ [(k, a)]) j = if j = k then some a else getM m j := by
  induction m with
  | nil =>
    rw [List.nil_append, getM_cons]
    by_cases h2 : k = j
    · simp [h2]
    · have e : ¬ j = k := fun z => h2 z.symm
      simp [h2, e]
  | cons p m ih =>
    rw [getM_cons] at h
    split at h
    · cases h
    · rename_i hp
      rw [List.cons_append, getM_cons, getM_cons, ih h]
      by_cases h2 : p.1 = j
      · have e : ¬ j = k := fun z => hp (h2.trans z)
        simp [h2, e]
      · simp [h2]
theorem getM_put {m : List (κ × α)} {k j : κ} {a : α} : getM (putM m k a) j = if j = k then some a else getM m j := by
  unfold putM
  split
  · rename_i h
    rw [getM_map]
    by_cases e : j = k
    · rw [if_pos e, if_pos e, e]
      cases z : getM m k with
      | none => rw [z] at h; cases h
      | some x => rfl
    · rw [if_neg e, if_neg e]
  · rename_i h
    refine getM_snoc ?_
    cases z : getM m k with
    | none => rfl
    | some x => rw [z] at h; exact absurd rfl h
theorem putM_length {m : List (κ × α)} {k : κ} {a : α} : (putM m k a).length ≤ m.length + 1 := by
  unfold putM
  split
  · rw [List.length_map]; omega
  · rw [List.length_append]; exact Nat.le_refl _
end
def kI : Int → Key := .inl
def kS : Str → Key := .inr
class KInj {κ : Type} (kk : κ → Key) : Prop where
  inj : ∀ a b, kk a = kk b → a = b
instance : KInj kI := ⟨fun a b h => by cases h; rfl⟩
instance : KInj kS := ⟨fun a b h => by cases h; rfl⟩
theorem kD_inj {a b : Key} (h : kD a = kD b) : a = b := by
  cases a <;> cases b <;> simp [kD] at h <;> rw [h]
theorem mapKD_inj : ∀ {xs ys : List Key}, xs.map kD = ys.map kD → xs = ys
  | [], [], _ => rfl
  | [], _ :: _, h => by cases h
  | _ :: _, [], h => by cases h
  | x :: xs, y :: ys, h => by
    rw [List.map_cons, List.map_cons] at h
    rw [kD_inj (List.cons.inj h).1, mapKD_inj (List.cons.inj h).2]
/-- a dict as data -/
def eM {κ α : Type} (kk : κ → Key) (enc : α → PyData) (m : List (κ × α)) : PyData := .dict (m.map fun p => (kD (kk p.1), enc p.2))
structure RM {κ α : Type} (K : PySem.W.Frag) (F : Hp) (kk : κ → Key) (enc : α → PyData) (kvs : List (Key × V)) (m : List (κ × α)) : Prop where
  keys : kvs.map (·.1) = m.map fun p => kk p.1
  vals : RA K F (kvs.map (·.2)) (m.map fun p => enc p.2)
section
variable {κ α : Type} {kk : κ → Key} {enc : α → PyData} {K : PySem.W.Frag} {F F' : Hp} {kvs : List (Key × V)} {m : List (κ × α)}
theorem RM.mono (r : RM K F kk enc kvs m) (g : Gr F F') : RM K F' kk enc kvs m := ⟨r.keys, r.vals.mono g⟩
theorem RM.nil : RM K F kk enc [] ([] : List (κ × α)) := ⟨rfl, .nil⟩
theorem RM.len (r : RM K F kk enc kvs m) : kvs.length = m.length := by have := congrArg List.length r.keys; simpa using this
theorem RM.cons_inv {kv : Key × V} {p : κ × α} (r : RM K F kk enc (kv :: kvs) (p :: m)) : kv.1 = kk p.1 ∧ R K F kv.2 (enc p.2) ∧ RM K F kk enc kvs m := by
  obtain ⟨h1, h2⟩ := r
  rw [List.map_cons, List.map_cons] at h1 h2
  obtain ⟨v, ws, e, r1, r2⟩ := h2.cons_inv
  cases e
  exact ⟨(List.cons.inj h1).1, r1, (List.cons.inj h1).2, r2⟩
theorem RM.data {a : Addr} (r : RM K F kk enc kvs m) (e : F a = some (.dK kvs)) : R K F (.ref a) (eM kk enc m) := by
  refine .dct e ?_ fun i kv q h1 h2 => ?_
  · rw [List.map_map]
    have := congrArg (List.map kD) r.keys
    rw [List.map_map, List.map_map] at this
    exact this.symm
  · rw [List.getElem?_map] at h2
    cases hm : m[i]? with
    | none => rw [hm] at h2; cases h2
    | some p =>
      rw [hm] at h2; cases h2
      exact r.vals.at_ i kv.2 (enc p.2) (by rw [List.getElem?_map, h1]; rfl) (by rw [List.getElem?_map, hm]; rfl)
theorem RM.of_data {v : V} (h : R K F v (eM kk enc m)) : ∃ a kvs, v = .ref a ∧ F a = some (.dK kvs) ∧ RM K F kk enc kvs m := by
  obtain ⟨a, kvs, e1, e2, h1, h2⟩ := h.dct_inv
  refine ⟨a, kvs, e1, e2, ?_, ?_, fun i v d q1 q2 => ?_⟩
  · rw [List.map_map] at h1
    have h3 : (kvs.map (·.1)).map kD = (m.map fun p => kk p.1).map kD := by rw [List.map_map, List.map_map]; exact h1.symm
    exact mapKD_inj h3
  · have := congrArg List.length h1
    simp at this
    rw [List.length_map, List.length_map]; exact this.symm
  · rw [List.getElem?_map] at q1 q2
    cases hk : kvs[i]? with
    | none => rw [hk] at q1; cases q1
    | some kv =>
      cases hm : m[i]? with
      | none => rw [hm] at q2; cases q2
      | some p =>
        rw [hk] at q1; rw [hm] at q2
        cases q1; cases q2
        exact h2 i kv (kD (kk p.1), enc p.2) hk (by rw [List.getElem?_map, hm]; rfl)
variable [DecidableEq κ] [KInj kk]
theorem RM.get_some {k : κ} {a : α} : ∀ {kvs : List (Key × V)} {m : List (κ × α)}, RM K F kk enc kvs m → getM m k = some a → ∃ v, valV kvs (kk k) = some v ∧ R K F v (enc a)
  | _, [], _, h => by cases h
  | [], p :: m, r, _ => by have := r.len; simp at this
  | kv :: kvs, p :: m, r, h => by
    obtain ⟨h1, h2, h3⟩ := r.cons_inv
    rw [getM_cons] at h
    by_cases e : p.1 = k
    · rw [if_pos e] at h; cases h
      exact ⟨kv.2, valV_pos (by rw [h1, e]), h2⟩
    · rw [if_neg e] at h
      obtain ⟨v, e1, r1⟩ := RM.get_some h3 h
      exact ⟨v, by rw [valV_neg (fun z => e (KInj.inj (kk := kk) _ _ (h1.symm.trans z)))]; exact e1, r1⟩
theorem RM.get_none {k : κ} : ∀ {kvs : List (Key × V)} {m : List (κ × α)}, RM K F kk enc kvs m → getM m k = none → valV kvs (kk k) = none
  | [], [], _, h => rfl
  | _ :: _, [], r, _ => by have := r.len; simp at this
  | [], p :: m, r, _ => by have := r.len; simp at this
  | kv :: kvs, p :: m, r, h => by
    obtain ⟨h1, h2, h3⟩ := r.cons_inv
    rw [getM_cons] at h
    by_cases e : p.1 = k
    · rw [if_pos e] at h; cases h
    · rw [if_neg e] at h
      rw [valV_neg (fun z => e (KInj.inj (kk := kk) _ _ (h1.symm.trans z)))]
      exact RM.get_none h3 h
theorem RM.get_is {k : κ} (r : RM K F kk enc kvs m) : (valV kvs (kk k)).isSome = (getM m k).isSome := by
  cases h : getM m k with
  | none => rw [r.get_none h]; rfl
  | some a => obtain ⟨v, e, _⟩ := r.get_some h; rw [e]; rfl
theorem RM.app {kv : Key × V} {p : κ × α} (r : RM K F kk enc kvs m) (h1 : kv.1 = kk p.1) (h2 : R K F kv.2 (enc p.2)) : RM K F kk enc (kvs ++ [kv]) (m ++ [p]) :=
  ⟨by rw [List.map_append, List.map_append, r.keys]; simp [h1], by rw [List.map_append, List.map_append]; exact r.vals.snoc h2⟩
theorem RM.rep {k : κ} {v : V} {a : α} (hv : R K F v (enc a)) : ∀ {kvs : List (Key × V)} {m : List (κ × α)}, RM K F kk enc kvs m → RM K F kk enc (kvs.map fun x => if x.1 = kk k then (x.1, v) else x) (m.map fun p => if p.1 = k then (p.1, a) else p)
  | [], [], _ => .nil
  | _ :: _, [], r => by have := r.len; simp at this
  | [], p :: m, r => by have := r.len; simp at this
  | kv :: kvs, p :: m, r => by
    obtain ⟨h1, h2, h3⟩ := r.cons_inv
    have ih := RM.rep (k := k) hv h3
    have key : (if kv.1 = kk k then (kv.1, v) else kv).1 = kk (if p.1 = k then (p.1, a) else p).1 := by
      by_cases e : p.1 = k
      · rw [if_pos e, if_pos (by rw [h1, e])]; exact h1
      · rw [if_neg e, if_neg (fun z => e (KInj.inj (kk := kk) _ _ (h1.symm.trans z)))]; exact h1
    have val : R K F (if kv.1 = kk k then (kv.1, v) else kv).2 (enc (if p.1 = k then (p.1, a) else p).2) := by
      by_cases e : p.1 = k
      · rw [if_pos e, if_pos (by rw [h1, e])]; exact hv
      · rw [if_neg e, if_neg (fun z => e (KInj.inj (kk := kk) _ _ (h1.symm.trans z)))]; exact h2
    rw [List.map_cons, List.map_cons]
    exact ⟨by rw [List.map_cons, List.map_cons, ih.keys, key], by rw [List.map_cons, List.map_cons]; exact RA.cons val ih.vals⟩
theorem RM.put {k : κ} {v : V} {a : α} (r : RM K F kk enc kvs m) (hv : R K F v (enc a)) : RM K F kk enc (putK kvs (kk k) v) (putM m k a) := by
  have e := valV_any (kk k) kvs
  rw [r.get_is] at e
  unfold putK putM
  cases h : (getM m k).isSome with
  | true => rw [h] at e; rw [if_pos e, if_pos rfl]; exact RM.rep hv r
  | false => rw [h] at e; rw [if_neg (by rw [e]; decide), if_neg (by decide)]; exact r.app rfl hv
end
/-! ### reading a dict that is data -/
section
variable {X : Cx} {e a b c i : Expr} {es : List Expr} {σ : L2.St} {F H : Hp} {O O1 O2 O3 : Own} {d da db : PyData} {pos p apos cpos : Pos} {n : Nat}
variable {κ α : Type} [DecidableEq κ] {kk : κ → Key} [KInj kk] {enc : α → PyData} {m : List (κ × α)} {k : κ} {v0 : α}
theorem kD_V {K : PySem.W.Frag} {F : Hp} {v : V} {k : Key} (h : R K F v (kD k)) : v = kV k := by
  cases k with
  | inl i => exact h.int_inv
  | inr x => exact h.str_inv
theorem ze_dsub (hr : Room n X.A) (ha : ZE X e σ F O (eM kk enc m) O1) (hb : ZE X i σ F O1 (kD (kk k)) O2) (hv : (getM m k).isSome = true) [Inhabited α] (hs : NoSl i := by intro _ _; rfl) : ZE X (.Subscript e i pos) σ F O (enc ((getM m k).getD default)) O2 := fun F1 H g w Q q => by
  refine wE_of (pe_dget (by have := hr.un; omega) pe_w pe_w hs) (ha F1 H g w _ fun v F2 H2 s1 r1 => hb F2 H2 (g.trans s1.gr) s1.ok _ fun u F3 H3 s2 r2 => ?_)
  obtain ⟨a, kvs, rfl, e1, rm⟩ := RM.of_data (r1.mono s2.gr)
  cases h : getM m k with
  | none => rw [h] at hv; cases hv
  | some x =>
    obtain ⟨y, e2, r3⟩ := rm.get_some h
    refine ⟨a, y, rfl, ?_, q y F3 H3 (s1.trans s2) (by rw [h]; exact r3)⟩
    rw [kD_V r2, ← e2]
    exact DGet.k (s2.ok.sub _ _ e1)
def rInD (neg : Bool) : R2 := fun x y H Q => ∃ a o, y = .ref a ∧ DGet H a x o ∧ Q (.bl (if neg then !o.isSome else o.isSome)) H
theorem op_inD (hu : X.A.units + 1 < cLine) : OpR X (compareOp .In) (rInD false) := by
  intro pins s σ H x y v u Q I rx ry h
  obtain ⟨a, o, rfl, g, q⟩ := h
  obtain rfl : u = Value.ref a := ry
  exact d_in hu I g rx fun s' I' => ⟨.bl o.isSome, H, I', rfl, q⟩
theorem op_ninD (hu : X.A.units + 1 < cLine) : OpR X (compareOp .NotIn) (rInD true) := by
  intro pins s σ H x y v u Q I rx ry h
  obtain ⟨a, o, rfl, g, q⟩ := h
  obtain rfl : u = Value.ref a := ry
  exact d_notIn hu I g rx fun s' I' => ⟨.bl (!o.isSome), H, I', rfl, q⟩
theorem cm_inM (hr : Room n X.A) : CmpR X .In F O (kD (kk k)) (eM kk enc m) (getM m k).isSome :=
  ⟨_, op_inD (by have := hr.un; omega), fun F2 H2 x y _ w r1 r2 Q q => by
    obtain ⟨a, kvs, rfl, e1, rm⟩ := RM.of_data r2
    refine ⟨a, valV kvs (kk k), rfl, by rw [kD_V r1]; exact DGet.k (w.sub _ _ e1), ?_⟩
    rw [rm.get_is]; exact q⟩
theorem cm_ninM (hr : Room n X.A) : CmpR X .NotIn F O (kD (kk k)) (eM kk enc m) (!(getM m k).isSome) :=
  ⟨_, op_ninD (by have := hr.un; omega), fun F2 H2 x y _ w r1 r2 Q q => by
    obtain ⟨a, kvs, rfl, e1, rm⟩ := RM.of_data r2
    refine ⟨a, valV kvs (kk k), rfl, by rw [kD_V r1]; exact DGet.k (w.sub _ _ e1), ?_⟩
    rw [rm.get_is]; exact q⟩
theorem ze_dget2 (hr : Room n X.A) (ha : ZE X e σ F O (eM kk enc m) O1) (hb : ZE X b σ F O1 (kD (kk k)) O2) (hc : ZE X c σ F O2 (enc v0) O3) (hbase : attributeBase e "get" X.env (eval e X.env) = eval e X.env := by rfl)
    (hfew : ((backTo cpos (starEach [b, c] X.env)).all (fun x => !x.1) && (backToKw cpos (keywordEach [] X.env)).all (fun x => x.1.isSome) && decide (([b, c] : List Expr).length + ([] : List Keyword).length + (if ([] : List Keyword).isEmpty then 0 else 1) < 30)) = true := by rfl)
    (hline : (apos.endLine == cpos.line) = true := by rfl) (htr : backTo cpos (starEach [b, c] X.env) = [(false, eval b X.env), (false, eval c X.env)] := by rfl) :
    ZE X (.Call (.Attribute e "get" apos) [b, c] [] cpos) σ F O (enc ((getM m k).getD v0)) O3 := fun F1 H g w Q q => by
  refine wE_of (pe_dget2 (by have := hr.un; omega) pe_w pe_w pe_w ⟨hbase, hfew, hline, htr⟩) (ha F1 H g w _ fun v F2 H2 s1 r1 => ?_)
  obtain ⟨a, kvs, rfl, e1, rm⟩ := RM.of_data r1
  refine ⟨a, rfl, .inl ⟨kvs, .inl (s1.ok.sub _ _ e1)⟩, hb F2 H2 (g.trans s1.gr) s1.ok _ fun u F3 H3 s2 r2 => hc F3 H3 (g.trans (s1.gr.trans s2.gr)) s2.ok _ fun x F4 H4 s3 r3 => ?_⟩
  refine ⟨valV kvs (kk k), by rw [kD_V r2]; exact DGet.k (s3.ok.sub _ _ (s3.gr _ _ (s2.gr _ _ e1))), ?_⟩
  have s := s1.trans (s2.trans s3)
  cases h : getM m k with
  | none => rw [rm.get_none h]; exact q x F4 H4 s (by rw [h]; exact r3)
  | some y =>
    obtain ⟨z, e2, r4⟩ := rm.get_some h
    rw [e2]; exact q z F4 H4 s (by rw [h]; exact r4.mono (s2.gr.trans s3.gr))
theorem ra_keys {kvs : List (Key × V)} {m : List (κ × α)} {K : PySem.W.Frag} {F : Hp} (r : RM K F kk enc kvs m) : RA K F (kvs.map fun kv => kV kv.1) (m.map fun p => kD (kk p.1)) := by
  have e : (kvs.map fun kv => kV kv.1) = (m.map fun p => kV (kk p.1)) := by
    have := congrArg (List.map kV) r.keys
    rw [List.map_map, List.map_map] at this
    exact this
  rw [e]
  refine ⟨by simp, fun i v d h1 h2 => ?_⟩
  rw [List.getElem?_map] at h1 h2
  cases hm : m[i]? with
  | none => rw [hm] at h1; cases h1
  | some p =>
    rw [hm] at h1 h2; cases h1; cases h2
    show R K F (kV (kk p.1)) (kD (kk p.1))
    cases kk p.1 with
    | inl i => exact .int i
    | inr x => exact .str x
theorem none_back {H H2 : Hp} {F F2 : Hp} {O O2 : Own} {b : Addr} (s : Stp F O H F2 O2 H2) (h : H2 b = none) : H b = none := by
  cases z : H b with
  | none => rfl
  | some u => exact absurd h (s.dom b (by rw [z]; simp))
/-- list(d) -/
theorem zn_listM (hc : X.calm = true) (hm : X.mg "list" = none) (ha : ZE X e σ F O (eM kk enc m) O1) (hz : m.length ≤ 16777216) (hg : Gl X "list" := by rfl) (he : starEach [e] X.env = (false, eval e X.env) :: starEach [] X.env := by exact se_pl rfl) (hpl : (backTo pos (starEach [] X.env)).any (·.1) = false := by exact se_any rfl) :
    ZN X (.Call (.Name "list" p) [e] [] pos) σ F O (m.map fun q => kD (kk q.1)) O1 := fun F1 H g w Q q => by
  refine wE_of (pe_callTy (call_listD hc) hg hm (by decide +kernel) (pa_cons pe_w pa_nil he) (by decide) (by decide) he hpl) (ha F1 H g w _ fun v F2 H2 s1 r1 => ?_)
  obtain ⟨a, kvs, rfl, e1, rm⟩ := RM.of_data r1
  refine ⟨a, kvs, rfl, .inl (s1.ok.sub _ _ e1), fun b hb => ?_⟩
  have hl : (kvs.map fun kv => kV kv.1).length ≤ sizeLine := by rw [List.length_map, rm.len, ← szL]; exact hz
  exact q b _ _ _ (none_back s1 hb) (s1.trans (Stp.alloc s1.ok hb hl)) (ra_keys rm)
/-- list(d.keys()) -/
def tListKeys (te : TE) : TE := fun σ H Q => te σ H fun x H1 => ∃ (d : Addr) (kvs : List (Key × V)), x = .ref d ∧ H1 d = some (.dK kvs) ∧ ∀ p, H1 p = none → Q (.ref p) (upd H1 p (.lst (kvs.map fun kv => kV kv.1)))
theorem pe_listKeys {te : TE} (hc : X.calm = true) (he : PE X e te) (hg : Gl X "list") (hm : X.mg "list" = none) (hbase : attributeBase e "keys" X.env (eval e X.env) = eval e X.env := by rfl) (hline : (apos.endLine == cpos.line) = true := by rfl)
    (hs : starEach [.Call (.Attribute e "keys" apos) [] [] cpos] X.env = (false, eval (.Call (.Attribute e "keys" apos) [] [] cpos) X.env) :: starEach [] X.env := by rfl) :
    PE X (.Call (.Name "list" p) [.Call (.Attribute e "keys" apos) [] [] cpos] [] pos) (tListKeys te) := by
  refine ⟨fun pins s σ H Q I hq => ?_⟩
  refine wpAny_Call_Name_kw (ld_blt I hg hm boot_list (PyProof.Rows.callWith_type1 ?_ hs rfl))
  rw [hs]
  change wpAny _ _ (spliced ((false, eval (.Call (.Attribute e "keys" apos) [] [] cpos) X.env) :: backTo pos (starEach [] X.env))) _ _ s
  refine Calls.spliced_cons (wpAny_Call_method (T := "dict") (id := "dict.keys") hbase rfl hline F.plainAttrs_dict F.slot_dict_keys F.type_dict_keys (thn (he.run pins s σ H _ I hq) fun u s1 ⟨x, H1, I1, rx, d, kvs, ex, hd, q⟩ => ?_))
  subst ex
  obtain rfl : u = Value.ref d := rx
  obtain ⟨hz, lo, vs, kv, hdo⟩ := I1.hok d _ hd
  obtain ⟨ep, hat⟩ := hdo.dictAt
  have lk : kvs.length = vs.length := Paired.length kv
  obtain ⟨s2, es2⟩ : ∃ z : Shared, z = { s1 with heap := s1.heap.push { cls := .type "dict_keys", data := .fields #[.ref d] } } := ⟨_, rfl⟩
  have I2 : Inv X pins σ H1 s2 := by rw [es2]; exact I1.kept (t' := s1.toks) fun b ob q => Heap.get?_push_of_some _ q
  refine ⟨hdo.typeIs, hdo.mapOf.noDict, ?_⟩
  change wpAny _ _ (callWith cpos (.builtin "dict.keys") [.ref d] [] []) _ X.xe s1
  refine method_meetsIn F.slot_dict_keys F.entry_dict_keys rfl (PySem.evalArgs_none ⟨rfl, hdo.typeIs, F.args_dict_keys_1 _, _, PySem.W.kdl_meets_keys (mixKind X.prog X.w) d lo, ⟨vs, hdo⟩, Calls.spliced_nil ?_⟩)
  have ek : (kvs.map fun kv => kV kv.1) = vs.map fun p => kV p.1 := by
    have e1 := congrArg (List.map kV) (KV.keys kv)
    rw [List.map_map, List.map_map] at e1
    exact e1
  change wpAny _ _ (call (.type "list") [.ref s1.heap.objs.size]) _ _ { s1 with heap := s1.heap.push { cls := .type "dict_keys", data := .fields #[.ref d] } }
  rw [← es2]
  refine PySem.W.kdl_call (PySem.W.kdl_keys (r := s1.heap.objs.size) (d := d) (knd := mixKind X.prog X.w) (kvs := vs) (ep := ep)) (I1.ok.hd hc) ⟨by rw [es2]; exact ⟨_, Heap.get?_push_size _ rfl, rfl, rfl⟩, by rw [es2]; exact hat.push _⟩ (by rw [← lk]; exact hz) fun h' tk acc c hk hD hacc => ?_
  have hv : Vals (vs.map fun p => kV p.1) acc.toList := keys_at (by rw [Array.length_toList]; exact hacc.1) fun j v e => hacc.2 j v (by rw [← Array.getElem?_toList]; exact e)
  refine ⟨.ref s2.heap.objs.size, upd H1 s2.heap.objs.size (.lst (kvs.map fun kv => kV kv.1)), I2.laid (t' := tk) hk (Nat.le_refl _)
    (show ObjOk X.prog X.w _ _ _ (.lst (kvs.map fun kv => kV kv.1)) from ⟨by rw [List.length_map]; exact hz, acc.toList, c, by rw [ek]; exact hv, by rw [Array.toArray_toList]; exact hD⟩), rfl, q _ (I2.hok.fresh (Nat.le_refl _))⟩
theorem zn_keysM (hc : X.calm = true) (hm : X.mg "list" = none) (ha : ZE X e σ F O (eM kk enc m) O1) (hz : m.length ≤ 16777216) (hg : Gl X "list" := by rfl) (hbase : attributeBase e "keys" X.env (eval e X.env) = eval e X.env := by rfl) (hline : (apos.endLine == cpos.line) = true := by rfl)
    (hs : starEach [.Call (.Attribute e "keys" apos) [] [] cpos] X.env = (false, eval (.Call (.Attribute e "keys" apos) [] [] cpos) X.env) :: starEach [] X.env := by rfl) :
    ZN X (.Call (.Name "list" p) [.Call (.Attribute e "keys" apos) [] [] cpos] [] pos) σ F O (m.map fun q => kD (kk q.1)) O1 := fun F1 H g w Q q => by
  refine wE_of (pe_listKeys hc pe_w hg hm hbase hline hs) (ha F1 H g w _ fun v F2 H2 s1 r1 => ?_)
  obtain ⟨a, kvs, rfl, e1, rm⟩ := RM.of_data r1
  refine ⟨a, kvs, rfl, s1.ok.sub _ _ e1, fun b hb => ?_⟩
  have hl : (kvs.map fun kv => kV kv.1).length ≤ sizeLine := by rw [List.length_map, rm.len, ← szL]; exact hz
  exact q b _ _ _ (none_back s1 hb) (s1.trans (Stp.alloc s1.ok hb hl)) (ra_keys rm)
/-- the tuples of list(d.items()) stay -/
def layT (ts : List Addr) (H' F : Hp) : Hp := fun b => if b ∈ ts then H' b else F b
theorem stp_items {kvs : List (Key × V)} {ts : List Addr} {H' : Hp} {p : Addr} (w : WOk F O H) (hk : ∀ b o, H b = some o → H' b = some o) (hp : H p = none) (ht : ∀ t ∈ ts, H t = none) (hn : p ∉ ts) (hl : H' p = some (.lst (ts.map V.ref)))
    (pr : Paired (fun (t : Addr) (q : Key × V) => H' t = some (.tup [kV q.1, q.2])) ts kvs) (hz : kvs.length ≤ sizeLine) : Stp F O H (layT ts H' F) ((p, .lst (ts.map V.ref)) :: O) H' := by
  have lt : ts.length = kvs.length := Paired.length pr
  have gr : Gr F (layT ts H' F) := fun b u e => by
    unfold layT
    rw [if_neg (fun z => by have h0 := ht b z; rw [w.sub b u e] at h0; cases h0)]
    exact e
  have isT : ∀ t ∈ ts, ∃ vs, H' t = some (.tup vs) := fun t h => by
    obtain ⟨j, q, _, _, e⟩ := LiI.paired_ix pr h
    exact ⟨_, e⟩
  refine ⟨⟨fun b u e => ?_, fun q hq => ?_, ?_, fun a xs e => ?_, fun q hq xs e => ?_⟩, gr, fun b u e _ => hk b u e, fun b u e => ?_, fun b hb => ?_, fun b hb => ?_⟩
  · unfold layT at e
    split at e
    · exact e
    · exact hk b u (w.sub b u e)
  · rcases List.mem_cons.mp hq with rfl | hq
    · exact ⟨hl, by unfold layT; rw [if_neg hn]; exact w.new hp⟩
    · have z := w.own q hq
      exact ⟨hk _ _ z.1, by unfold layT; rw [if_neg (fun h => by have := ht _ h; rw [z.1] at this; cases this)]; exact z.2⟩
  · show (p :: keys O).Nodup
    exact List.nodup_cons.mpr ⟨w.newK hp, w.nd⟩
  · unfold layT at e
    split at e
    · rename_i h
      obtain ⟨vs, e2⟩ := isT a h
      rw [e2] at e; cases e
    · exact w.sz a xs e
  · rcases List.mem_cons.mp hq with rfl | hq
    · cases e
      rw [List.length_map, lt]; exact hz
    · exact w.szo q hq xs e
  · unfold layT at e
    split at e
    · rename_i h; exact .inr (ht b h)
    · exact .inl e
  · rcases List.mem_cons.mp hb with rfl | hb
    · exact .inr hp
    · exact .inl hb
  · cases z : H b with
    | none => exact absurd z hb
    | some u => rw [hk b u z]; simp
theorem ra_items {kvs : List (Key × V)} {m : List (κ × α)} {K : PySem.W.Frag} {H' : Hp} {ts : List Addr} (r : RM K F kk enc kvs m) (g : Gr F (layT ts H' F)) (pr : Paired (fun (t : Addr) (q : Key × V) => H' t = some (.tup [kV q.1, q.2])) ts kvs) :
    RA K (layT ts H' F) (ts.map V.ref) (m.map fun q => .tuple [kD (kk q.1), enc q.2]) := by
  have lt : ts.length = kvs.length := Paired.length pr
  refine ⟨by rw [List.length_map, List.length_map, lt, r.len], fun i v d h1 h2 => ?_⟩
  rw [List.getElem?_map] at h1 h2
  cases et : ts[i]? with
  | none => rw [et] at h1; cases h1
  | some t =>
    cases em : m[i]? with
    | none => rw [em] at h2; cases h2
    | some q =>
      rw [et] at h1; rw [em] at h2; cases h1; cases h2
      obtain ⟨kv, ek, e⟩ := LiI.paired_get pr et
      have k1 : kv.1 = kk q.1 := by
        have h3 : (kvs.map (·.1))[i]? = some kv.1 := by rw [List.getElem?_map, ek]; rfl
        rw [r.keys, List.getElem?_map, em] at h3
        exact (Option.some.inj h3).symm
      have v1 : R K F kv.2 (enc q.2) := r.vals.at_ i kv.2 (enc q.2) (by rw [List.getElem?_map, ek]; rfl) (by rw [List.getElem?_map, em]; rfl)
      refine RA.tup (vs := [kV kv.1, kv.2]) (.cons ?_ (.cons (v1.mono g) .nil)) (by unfold layT; rw [if_pos (List.mem_of_getElem? et)]; exact e)
      rw [k1]
      show R K _ (kV (kk q.1)) (kD (kk q.1))
      cases kk q.1 with
      | inl i => exact .int i
      | inr x => exact .str x
/-- list(x.items()), x a dict of mine -/
theorem zn_itemsO (l j : Nat) {x : Str} {px : Pos} {q : Addr} {kvs : List (Key × V)} (hc : X.calm = true) (hm : X.mg "list" = none) (hσ : σ[l]? = some (some (.ref q))) (hO : O[j]? = some (q, .dK kvs)) (hr : RM X.K F kk enc kvs m) (hz : m.length ≤ 16777216) (hN : X.N[l]? = some x := by rfl)
    (hv : Vis X.env.scope x := by first | exact Or.inl rfl | exact Or.inr (Or.inl rfl) | exact Or.inr (Or.inr rfl)) (hd : (x == ("__debug__" : Str)) = false := by decide) (hcd : (x == ("__classdict__" : Str)) = false := by decide)
    (hg : Gl X "list" := by rfl) (hbase : attributeBase (.Name x px) "items" X.env (eval (.Name x px) X.env) = eval (.Name x px) X.env := by rfl) (hline : (apos.endLine == cpos.line) = true := by rfl)
    (hs : starEach [.Call (.Attribute (.Name x px) "items" apos) [] [] cpos] X.env = (false, eval (.Call (.Attribute (.Name x px) "items" apos) [] [] cpos) X.env) :: starEach [] X.env := by rfl) :
    ZN X (.Call (.Name "list" p) [.Call (.Attribute (.Name x px) "items" apos) [] [] cpos] [] pos) σ F O (m.map fun q => .tuple [kD (kk q.1), enc q.2]) O := fun F1 H g w Q qq => by
  refine wE_of (LiI.pe_listItems hc (pe_var hN hv hd hcd) hg hm boot_list hbase hline hs) ⟨_, hσ, q, kvs, rfl, (w.at_ hO).1, fun H' b ts h1 h2 h3 h4 h5 h6 => ?_⟩
  have s := stp_items w h1 h2 h3 h4 h5 h6 (by rw [hr.len, ← szL]; exact hz)
  exact qq b _ _ _ h2 s (ra_items (hr.mono g) s.gr h6)
/-! ### dicts that are mine -/
def ZMp (X : Cx) (e : Expr) (σ : L2.St) (F : Hp) (O : Own) {κ α : Type} (kk : κ → Key) (enc : α → PyData) (m : List (κ × α)) (O' : Own) : Prop :=
  ∀ F1 H, Gr F F1 → WOk F1 O H → ∀ Q : VK, (∀ p kvs F2 H2, H p = none → Stp F1 O H F2 ((p, .dK kvs) :: O') H2 → RM X.K F2 kk enc kvs m → Q (.ref p) H2) → wE X e σ H Q
theorem zm_new : ZMp X (.Dict [] [] pos) σ F O kk enc ([] : List (κ × α)) O := fun F1 H g w Q q =>
  wE_of pe_dnewK fun b hb => q b [] F1 _ hb (Stp.alloc w hb trivial) .nil
theorem ZE.frame {q : Addr × HO} (h : ZE X e σ F O d O1) : ZE X e σ F (q :: O) d (q :: O1) := fun F1 H g w Q k => h F1 H g w.tail Q fun v F2 H2 s r => k v F2 H2 (Stp.cons w s) r
theorem zm_one {v : α} (ha : ZE X a σ F O (kD (kk k)) O1) (hb : ZE X b σ F O1 (enc v) O2) : ZMp X (.Dict [some a] [b] pos) σ F O kk enc [(k, v)] O2 := fun F1 H g w Q q => by
  refine wE_of (pe_disp (pps_cons pe_w pe_w pps_nil) rfl rfl (by simp) (by show 1 ≤ 15; decide)) fun c hc => ?_
  have s0 := Stp.alloc (o := .dK []) w hc trivial
  refine ha.frame F1 _ g s0.ok _ fun x F2 H2 s1 r1 => hb.frame F2 H2 (g.trans s1.gr) s1.ok _ fun y F3 H3 s2 r2 => ?_
  have s := s0.trans (s1.trans s2)
  refine ⟨(s2.ok.at_ (k := 0) rfl).1, [(kk k, y)], by rw [kD_V r1]; rfl, by show 1 ≤ 15; decide, ?_⟩
  have s3 := s.trans (Stp.write (o' := .dK [(kk k, y)]) s2.ok (k := 0) rfl trivial)
  exact q c [(kk k, y)] F3 _ hc s3 ⟨rfl, .cons r2 .nil⟩
theorem ZMp.ze (h : ZMp X e σ F O kk enc m O1) : ZE X e σ F O (eM kk enc m) O1 := fun F1 H g w Q q => h F1 H g w Q fun b kvs F2 H2 hb st r =>
  q _ _ _ (st.freeze hb) ((r.mono (Gr.upd (st.ok.own (b, .dK kvs) List.mem_cons_self).2)).data upd_same)
variable {x : Str} {px : Pos} {rest : List Stmt} {D : Ends}
theorem zs_setM (w : WOk F O H) (he : ZMp X e σ F O kk enc m O1) (hN : X.N.Nodup) (hi : X.N[n]? = some x) (hx : Loc X.env.scope x) (kk' : ∀ p kvs F1 H1, H p = none → Stp F O H F1 ((p, .dK kvs) :: O1) H1 → RM X.K F1 kk enc kvs m → ZS X rest (σ.set n (some (.ref p))) H1 D)
    (hs : swapsWith e (some (.Name x px)) pos.line X.env = pure false := by rfl) (hf : X.fn x = true ∨ X.env.scope.names.lookup x = some .local := by first | exact .inl rfl | exact .inr rfl | assumption) : ZS X (.Assign [.Name x px] e pos :: rest) σ H D :=
  wSs_of (pss_cons (ps_set hN hi hx pe_w hs hf) pss_w) (he F H Gr.refl w _ fun p vs F1 H1 hp s1 r1 => kk' p vs F1 H1 hp s1 r1)
/-- x[i] = e, x a dict of mine -/
theorem zs_putM {N : Nat} (w : WOk F O H) (l j : Nat) {ip : Pos} {q : Addr} {kvs : List (Key × V)} {v : α} (hr : Room N X.A) (hσ : σ[l]? = some (some (.ref q))) (he : ZE X e σ F O (enc v) O1) (hi : ZE X i σ F O1 (kD (kk k)) O2) (hO : O2[j]? = some (q, .dK kvs)) (rm : RM X.K F kk enc kvs m) (hz : m.length < 16777216)
    (kk' : ∀ kvs' F1 H1, Stp F O H F1 (O2.set j (q, .dK kvs')) H1 → RM X.K F1 kk enc kvs' (putM m k v) → ZS X rest σ H1 D)
    (hN : X.N[l]? = some x := by rfl) (hv : Vis X.env.scope x := by first | exact Or.inl rfl | exact Or.inr (Or.inl rfl) | exact Or.inr (Or.inr rfl)) (hd : (x == ("__debug__" : Str)) = false := by decide) (hcd : (x == ("__classdict__" : Str)) = false := by decide)
    (hs : swapsWith e (some (.Subscript (.Name x px) i ip)) pos.line X.env = pure false := by rfl) : ZS X (.Assign [.Subscript (.Name x px) i ip] e pos :: rest) σ H D := by
  refine wSs_of (pss_cons (ps_dput (by have := hr.un; omega) (pe_var hN hv hd hcd) pe_w pe_w hs) pss_w) (he F H Gr.refl w _ fun y F1 H1 s1 r1 => ⟨_, hσ, hi F1 H1 s1.gr s1.ok _ fun z F2 H2 s2 r2 => ?_⟩)
  have s := s1.trans s2
  have at2 := (s2.ok.at_ hO).1
  have hl : kvs.length < sizeLine := by rw [rm.len, ← szL]; exact hz
  refine ⟨q, _, rfl, by rw [kD_V r2]; exact DPut.k at2 hl, ?_⟩
  exact kk' _ F2 _ (s.trans (Stp.write s2.ok hO trivial)) ((rm.mono s.gr).put (r1.mono s2.gr))
end
end Z

end
section
namespace Z
open PySem PySem.Spec PyProof.Rows L2
/-! ### == of data whose kind is known -/
class EqE {α : Type} (enc : α → PyData) (dep : outParam Nat) : Prop where
  eq : ∀ a b, (PyData.eqv (enc a) (enc b) = true) ↔ a = b
  lay : ∀ a, PyData.canLay0 (enc a) = true
  le : ∀ a, PyData.depth (enc a) ≤ dep
  nd : ∀ a, noD (enc a) = true
instance : EqE eI 0 := ⟨fun a b => by show (a == b) = true ↔ _; exact beq_iff_eq, fun _ => rfl, fun _ => Nat.le_refl _, fun _ => rfl⟩
instance : EqE eB 0 := ⟨fun a b => by show (a == b) = true ↔ _; exact beq_iff_eq, fun _ => rfl, fun _ => Nat.le_refl _, fun _ => rfl⟩
instance : EqE (eO eI) 0 := ⟨fun a b => by
    cases a <;> cases b <;> simp [eO, eI, PyData.eqv], fun a => by cases a <;> rfl, fun a => by cases a <;> exact Nat.le_refl _, fun a => by cases a <;> rfl⟩
section
variable {α β : Type} {e1 : α → PyData} {e2 : β → PyData} {n m : Nat}
theorem eqvAll_iff [EqE e1 n] : ∀ xs ys : List α, PyData.eqvAll (xs.map e1) (ys.map e1) = true ↔ xs = ys
  | [], [] => by simp [PyData.eqvAll]
  | [], _ :: _ => by simp [PyData.eqvAll]
  | _ :: _, [] => by simp [PyData.eqvAll]
  | x :: xs, y :: ys => by
    rw [List.map_cons, List.map_cons]
    simp only [PyData.eqvAll, Bool.and_eq_true]
    rw [EqE.eq (enc := e1), eqvAll_iff xs ys, List.cons.injEq]
theorem layAll [EqE e1 n] : ∀ xs : List α, PyData.canLayAll0 (xs.map e1) = true
  | [] => rfl
  | x :: xs => by rw [List.map_cons]; simp only [PyData.canLayAll0, EqE.lay (enc := e1), layAll xs, Bool.and_self]
theorem depAll [EqE e1 n] : ∀ xs : List α, PyData.depthAll (xs.map e1) ≤ n
  | [] => Nat.zero_le _
  | x :: xs => by
    rw [List.map_cons]; simp only [PyData.depthAll]
    have := EqE.le (enc := e1) x
    have h2 := depAll xs
    exact Nat.max_le.mpr ⟨this, h2⟩
theorem ndAll [EqE e1 n] : ∀ xs : List α, noDL (xs.map e1) = true
  | [] => rfl
  | x :: xs => by rw [List.map_cons]; simp only [noDL, EqE.nd (enc := e1), ndAll xs, Bool.and_self]
instance [EqE e1 n] : EqE (eL e1) (n + 1) := ⟨fun a b => by show PyData.eqv (.list _) (.list _) = true ↔ _; simp only [PyData.eqv]; exact eqvAll_iff a b, fun a => by show PyData.canLay0 (.list _) = true; simp only [PyData.canLay0]; exact layAll a,
  fun a => by show PyData.depth (.list _) ≤ _; simp only [PyData.depth]; have := depAll (e1 := e1) a; omega, fun a => by show noD (.list _) = true; simp only [noD]; exact ndAll a⟩
instance [EqE e1 n] : EqE (eTL e1) (n + 1) := ⟨fun a b => by show PyData.eqv (.tuple _) (.tuple _) = true ↔ _; simp only [PyData.eqv]; exact eqvAll_iff a b, fun a => by show PyData.canLay0 (.tuple _) = true; simp only [PyData.canLay0]; exact layAll a,
  fun a => by show PyData.depth (.tuple _) ≤ _; simp only [PyData.depth]; have := depAll (e1 := e1) a; omega, fun a => by show noD (.tuple _) = true; simp only [noD]; exact ndAll a⟩
instance [EqE e1 n] [EqE e2 m] : EqE (eT2 e1 e2) (max n m + 1) := ⟨fun a b => by
    show PyData.eqv (.tuple [e1 a.1, e2 a.2]) (.tuple [e1 b.1, e2 b.2]) = true ↔ _
    simp only [PyData.eqv, PyData.eqvAll, Bool.and_eq_true, Bool.and_true]
    rw [EqE.eq (enc := e1), EqE.eq (enc := e2), Prod.ext_iff],
  fun a => by show PyData.canLay0 (.tuple [e1 a.1, e2 a.2]) = true; simp only [PyData.canLay0, PyData.canLayAll0, EqE.lay (enc := e1), EqE.lay (enc := e2), Bool.and_self],
  fun a => by
    show PyData.depth (.tuple [e1 a.1, e2 a.2]) ≤ _
    simp only [PyData.depth, PyData.depthAll]
    have := EqE.le (enc := e1) a.1; have := EqE.le (enc := e2) a.2
    omega,
  fun a => by show noD (.tuple [e1 a.1, e2 a.2]) = true; simp only [noD, noDL, EqE.nd (enc := e1), EqE.nd (enc := e2), Bool.and_self]⟩
end
section
variable {X : Cx} {F : Hp} {O : Own} {α : Type} [DecidableEq α] {enc : α → PyData} {n N : Nat} [EqE enc n] {a b : α}
include n in
theorem eqE_dec : PyData.eqv (enc a) (enc b) = decide (a = b) := by
  cases h : PyData.eqv (enc a) (enc b) with
  | true => rw [decide_eq_true ((EqE.eq (enc := enc) a b).mp h)]
  | false => rw [decide_eq_false fun z => by rw [(EqE.eq (enc := enc) a b).mpr z] at h; cases h]
omit [DecidableEq α] in
theorem eqE_shaped (hn : n ≤ 64) : SeqAt.shaped (enc a) = true := by
  unfold SeqAt.shaped
  rw [EqE.lay (enc := enc), decide_eq_true (Nat.le_trans (EqE.le (enc := enc) a) hn)]; rfl
theorem cm_eqE (hr : Room N X.A) (hn : n ≤ 64 := by decide) : CmpR X .Eq F O (enc a) (enc b) (decide (a = b)) := by
  have h := cm_eqD (F := F) (O := O) (X := X) (da := enc a) (db := enc b) (by have := hr.un; omega) (eqE_shaped hn) (eqE_shaped hn) (EqE.nd (enc := enc) a) (EqE.nd (enc := enc) b)
  rw [eqE_dec] at h; exact h
theorem cm_neE (hr : Room N X.A) (hn : n ≤ 64 := by decide) : CmpR X .NotEq F O (enc a) (enc b) (!decide (a = b)) := by
  have h := cm_neD (F := F) (O := O) (X := X) (da := enc a) (db := enc b) (by have := hr.un; omega) (eqE_shaped hn) (eqE_shaped hn) (EqE.nd (enc := enc) a) (EqE.nd (enc := enc) b)
  rw [eqE_dec] at h; exact h
end
theorem ze_globI {X : Cx} {σ : L2.St} {F : Hp} {O : Own} {x : Str} {i : Int} {pos : Pos} (h : ∃ t, X.mg x = some (.int i t)) (hg : Gl X x := by rfl) (hd : (x == ("__debug__" : Str)) = false := by decide) : ZE X (.Name x pos) σ F O (eI i) O := by
  obtain ⟨t, h⟩ := h
  exact ze_glob (v := .int i) h ⟨t, rfl⟩ (.int i) hg hd
theorem ze_tup2 {X : Cx} {ea eb : Expr} {σ : L2.St} {F : Hp} {O O1 O2 : Own} {α β : Type} {e1 : α → PyData} {e2 : β → PyData} {a : α} {b : β} {k : Nat} {pos : Pos} (ha : ZE X ea σ F O (e1 a) O1) (hb : ZE X eb σ F O1 (e2 b) O2)
    (he : starEach [ea, eb] X.env = (false, eval ea X.env) :: starEach [eb] X.env := by exact se_pl rfl) (he2 : starEach [eb] X.env = (false, eval eb X.env) :: starEach [] X.env := by exact se_pl rfl) : ZE X (.Tuple [ea, eb] k pos) σ F O (eT2 e1 e2 (a, b)) O2 :=
  ze_tup (za_cons ha (za_cons hb za_nil he2) he)
/-! ### while, as a fold with fuel -/
def loopW {β : Type} (c : β → Bool) (f : β → β) : Nat → β → β
  | 0, b => b
  | n + 1, b => cond (c b) (loopW c f n (f b)) b
theorem loopW_f {β : Type} {c : β → Bool} {f : β → β} {b : β} (h : c b = false) : ∀ n, loopW c f n b = b
  | 0 => rfl
  | n + 1 => by unfold loopW; rw [h]; rfl
theorem loopW_t {β : Type} {c : β → Bool} {f : β → β} {b : β} {n : Nat} (h : c b = true) : loopW c f (n + 1) b = loopW c f n (f b) := by
  conv => lhs; unfold loopW
  rw [h]; rfl
section
variable {X : Cx} {c : Expr} {body rest : List Stmt} {pos : Pos} {σ : L2.St} {F H : Hp} {O O1 : Own} {D : Ends} {β : Type}
theorem zs_whileF (w : WOk F O H) (f : β → β) (cb : β → Bool) (ms : β → Nat) (b0 : β) (hp : PassesOwn (model X.prog X.w) X.A X.env X.xe) (Rel : β → L2.St → Hp → Own → Prop) (h0 : Rel b0 σ F O)
    (hb : ∀ b σ' F' O' H', Stp F O H F' O' H' → Rel b σ' F' O' → ZT X c σ' F' O' (cb b) O' ∧
      (cb b = true → ∀ F2 H2, Stp F' O' H' F2 O' H2 → ZS X body σ' H2 (turnEnds D F' O' H' (fun σ3 F3 O3 => Rel (f b) σ3 F3 O3 ∧ ms (f b) < ms b) fun _ _ => False)))
    (hd : ∀ b σ' F' O' H', Stp F O H F' O' H' → Rel b σ' F' O' → cb b = false → loopW cb f (ms b0) b0 = b → ZT X c σ' F' O' false O' → ∀ F2 H2, Stp F' O' H' F2 O' H2 → ZS X rest σ' H2 D) : ZS X (.While c body [] pos :: rest) σ H D := by
  refine zs_while w hp (fun m σ' F' O' => ∃ b, Rel b σ' F' O' ∧ ms b ≤ m ∧ loopW cb f (ms b0) b0 = loopW cb f m b) (ms b0) ⟨b0, h0, Nat.le_refl _, rfl⟩ fun m σ' F' O' H' st ⟨b, rel, hm, e⟩ => ?_
  obtain ⟨zt, hk⟩ := hb b σ' F' O' H' st rel
  refine ⟨cb b, O', zt, fun F2 H2 s2 => ⟨fun ht => ?_, fun hf => ?_⟩⟩
  · have fin : ∀ σ4 H4, (∃ F3 O3, Stp F' O' H' F3 O3 H4 ∧ Rel (f b) σ4 F3 O3 ∧ ms (f b) < ms b) → ∃ F3 O3, Stp F' O' H' F3 O3 H4 ∧ ∃ m', m' < m ∧ ∃ b, Rel b σ4 F3 O3 ∧ ms b ≤ m' ∧ loopW cb f (ms b0) b0 = loopW cb f m' b := fun σ4 H4 ⟨F3, O3, s3, r3, lt⟩ => by
      obtain ⟨m', rfl⟩ : ∃ m', m = m' + 1 := ⟨m - 1, by omega⟩
      exact ⟨F3, O3, s3, m', Nat.lt_succ_self _, f b, r3, by omega, by rw [e, loopW_t ht]⟩
    exact wSs_mono (hk ht F2 H2 s2) fin (fun _ _ q => q) (fun _ _ q => q.elim) fin
  · exact hd b σ' F' O' H' st rel hf (by rw [e, loopW_f hf]) (by rw [← hf]; exact zt) F2 H2 s2
end
/-! ### a small part of what stays -/
def unH (A B : Hp) : Hp := fun b => match A b with | some o => some o | none => B b
section
variable {F Fs Fs' F' H H' H0 F0 : Hp} {O O' O0 : Own} {p : Addr} {o : HO}
theorem unH_l {A B : Hp} {b : Addr} {u : HO} (h : A b = some u) : unH A B b = some u := by unfold unH; rw [h]
theorem unH_r {A B : Hp} {b : Addr} (h : A b = none) : unH A B b = B b := by unfold unH; rw [h]
theorem unH_some {A B : Hp} {b : Addr} {u : HO} (h : unH A B b = some u) : A b = some u ∨ (A b = none ∧ B b = some u) := by
  unfold unH at h
  cases z : A b with
  | none => rw [z] at h; exact .inr ⟨rfl, h⟩
  | some v => rw [z] at h; exact .inl h
theorem Gr.unl {A B : Hp} : Gr A (unH A B) := fun b u e => unH_l e
theorem WOk.small (w : WOk F O H) (g : Gr Fs F) : WOk Fs O H := ⟨fun b u e => w.sub b u (g b u e), fun q hq => ⟨(w.own q hq).1, by
    cases z : Fs q.1 with
    | none => rfl
    | some u => have := g _ _ z; rw [(w.own q hq).2] at this; cases this⟩, w.nd, fun a xs e => w.sz a xs (g _ _ e), w.szo⟩
/-- what stayed, and what a small part of it has become -/
theorem Stp.un (w : WOk F O H) (g : Gr Fs F) (x : Stp Fs O H Fs' O' H') : Stp F O H (unH Fs' F) O' H' ∧ Gr F (unH Fs' F) := by
  have kp : ∀ b u, F b = some u → H' b = some u := fun b u e => x.keep b u (w.sub b u e) fun hb => by
    obtain ⟨q, hq, rfl⟩ := List.mem_map.mp hb
    have := (w.own q hq).2
    rw [e] at this; cases this
  have gr : Gr F (unH Fs' F) := fun b u e => by
    cases z : Fs' b with
    | none => rw [unH_r z]; exact e
    | some v =>
      rw [unH_l z]
      have h1 := x.ok.sub b v z
      rw [kp b u e] at h1; exact h1.symm
  refine ⟨⟨⟨fun b u e => ?_, fun q hq => ?_, x.ok.nd, fun a xs e => ?_, x.ok.szo⟩, gr, x.keep, fun b u e => ?_, x.ky, x.dom⟩, gr⟩
  · rcases unH_some e with e | ⟨_, e⟩
    · exact x.ok.sub b u e
    · exact kp b u e
  · have z := x.ok.own q hq
    refine ⟨z.1, ?_⟩
    rw [unH_r z.2]
    cases e : F q.1 with
    | none => rfl
    | some u =>
      rcases x.ky q.1 (List.mem_map.mpr ⟨q, hq, rfl⟩) with h | h
      · obtain ⟨q2, hq2, e2⟩ := List.mem_map.mp h
        have := (w.own q2 hq2).2
        rw [e2, e] at this; cases this
      · rw [w.sub _ _ e] at h; cases h
  · rcases unH_some e with e | ⟨_, e⟩
    · exact x.ok.sz a xs e
    · exact w.sz a xs e
  · rcases unH_some e with e | ⟨_, e⟩
    · rcases x.fr b u e with z | z
      · exact .inl (g _ _ z)
      · exact .inr z
    · exact .inl e
/-- a write into a thing that is newer than the start -/
theorem Stp.scrib (w0 : WOk F0 O0 H0) (x : Stp F0 O0 H0 F O H) (hb : H0 p = none) (hn : p ∉ keys O) : Stp F0 O0 H0 (hid F p) O (upd H p o) := by
  have ne : ∀ b u, H0 b = some u → b ≠ p := fun b u e z => by rw [z, hb] at e; cases e
  refine ⟨⟨fun b u e => ?_, fun q hq => ?_, x.ok.nd, fun a xs e => x.ok.sz a xs (hid_some e).2, x.ok.szo⟩, fun b u e => ?_, fun b u e k => ?_, fun b u e => x.fr b u (hid_some e).2, x.ky, fun b hb2 => ?_⟩
  · obtain ⟨h1, h2⟩ := hid_some e
    rw [upd_ne h1]; exact x.ok.sub b u h2
  · have z := x.ok.own q hq
    have h1 : q.1 ≠ p := fun e => hn (by rw [← e]; exact List.mem_map.mpr ⟨q, hq, rfl⟩)
    exact ⟨by rw [upd_ne h1]; exact z.1, by rw [hid_ne h1]; exact z.2⟩
  · rw [hid_ne (ne b u (w0.sub b u e))]; exact x.gr b u e
  · rw [upd_ne (ne b u e)]; exact x.keep b u e k
  · cases e : H0 b with
    | none => exact absurd e hb2
    | some u => rw [upd_ne (ne b u e)]; exact x.dom b hb2
end
end Z

end
section
namespace Z
open PySem PySem.Spec PyProof.Rows L2
/-! ### answers that are new all through -/
/-- data in, data out that lies in new things alone -/
def spDD (K : PySem.W.Frag) (A : List PyData → PyData → Prop) : Sp := fun vs H Q _ => ∃ (F : Hp) (ds : List PyData) (r : PyData), WOk F [] H ∧ RA K F vs ds ∧ A ds r ∧
  ∀ v F' H' Fn, Stp F [] H F' [] H' → Gr Fn F' → (∀ b u, Fn b = some u → H b = none) → R K Fn v r → Q v H'
theorem ra_flatI {K : PySem.W.Frag} {F F' : Hp} {us : List V} {xs : List Int} (h : RA K F us (xs.map eI)) : RA K F' us (xs.map eI) := by
  rw [ints_ra h]; exact ra_ints _
theorem ra_flat0 {K : PySem.W.Frag} {F F' : Hp} {us : List V} {α : Type} {enc : α → PyData} {xs : List α} (h : RA K F us (xs.map enc)) (e : xs = []) : RA K F' us (xs.map enc) := by
  subst e
  rw [h.nil_inv]; exact .nil
theorem Gr.hidR {F F' : Hp} {p : Addr} (g : Gr F F') (h : F p = none) : Gr F (hid F' p) := fun b u e => by
  rw [hid_ne (fun z => by rw [z, h] at e; cases e)]; exact g b u e
theorem Gr.none {F : Hp} : Gr (fun _ => none) F := fun _ _ h => nomatch h
theorem sub_none {F F' H : Hp} {O : Own} {b : Addr} (w : WOk F' O H) (g : Gr F F') (h : H b = none) : F b = none := by
  cases e : F b with
  | none => rfl
  | some u => rw [w.sub b u (g b u e)] at h; cases h
def onlyH (ps : List Addr) (F : Hp) : Hp := fun b => if b ∈ ps then F b else none
theorem Gr.only {ps : List Addr} {F : Hp} : Gr (onlyH ps F) F := fun b u e => by
  unfold onlyH at e
  split at e
  · exact e
  · cases e
theorem only_at {ps : List Addr} {F : Hp} {p : Addr} {u : HO} (h : p ∈ ps) (e : F p = some u) : onlyH ps F p = some u := by unfold onlyH; rw [if_pos h]; exact e
theorem only_new {ps : List Addr} {F H : Hp} (h : ∀ p ∈ ps, H p = none) : ∀ b u, onlyH ps F b = some u → H b = none := fun b u e => by
  unfold onlyH at e
  split at e
  · exact h b (by assumption)
  · cases e
theorem only_I {K : PySem.W.Frag} {ps : List Addr} {F : Hp} {p : Addr} {xs : List Int} (h : p ∈ ps) (r : R K F (.ref p) (eL eI xs)) : R K (onlyH ps F) (.ref p) (eL eI xs) := by
  obtain ⟨a, vs, e1, e2, ra⟩ := R.lst_inv (show R K F (.ref p) (.list (xs.map eI)) from r)
  cases e1
  exact (ra_flatI ra).lst (only_at h e2)
theorem new_un {F F1 Fs F2 H H1 H2 : Hp} {O1 O2 : Own} {p : Addr} {o : HO} (st0 : Stp F [] H F1 O1 H1) (hF : ∀ b u, Fs b = some u → H b = none) (x : Stp Fs O1 H1 F2 O2 H2) (hp : H p = none) : ∀ b u, upd F2 p o b = some u → H b = none := fun b u e => by
  by_cases h : b = p
  · rw [h]; exact hp
  · rw [upd_ne h] at e
    rcases x.fr b u e with z | z
    · exact hF b u z
    · exact none_back st0 z
theorem not_key {F H : Hp} {O : Own} {q : Addr} {u : HO} (w : WOk F O H) (h : F q = some u) : q ∉ keys O := fun z => by
  obtain ⟨y, hy, e⟩ := List.mem_map.mp z
  have := (w.own y hy).2
  rw [e, h] at this; cases this
theorem upd_lst {H : Hp} {q b : Addr} {us vs : List V} (h : H b = some (.lst us)) : ∃ ws, upd H q (.lst vs) b = some (.lst ws) ∧ ws.length ≤ us.length + vs.length := by
  by_cases e : b = q
  · subst e; exact ⟨vs, upd_same, Nat.le_add_left _ _⟩
  · exact ⟨us, by rw [upd_ne e]; exact h, Nat.le_add_right _ _⟩
section
variable {X : Cx} {e : Expr} {es : List Expr} {σ : L2.St} {F H : Hp} {O O1 : Own} {d : PyData} {ds : List PyData} {pos p : Pos} {n m : Nat} {x y : Str} {px apos cpos : Pos} {ps : List Str} {rest : List Stmt} {D : Ends}
theorem zs_setDD (w : WOk F O H) {A : List PyData → PyData → Prop} (G : Fn X.prog X.w X.K X.mg X.base n x ps (spDD X.K A)) (hr : Room n X.A) (ha : ZA X (e :: es) σ F O ds O1) (hA : A ds d) (hN : X.N.Nodup) (hi : X.N[m]? = some y) (hx : Loc X.env.scope y)
    (kk : ∀ v F1 H1 Fn, Stp F O H F1 O1 H1 → Gr Fn F1 → (∀ b u, Fn b = some u → H b = none) → R X.K Fn v d → ZS X rest (σ.set m (some v)) H1 D)
    (hg : Gl X x := by rfl) (hdb : (x == ("__debug__" : Str)) = false := by decide) (he : starEach (e :: es) X.env = (false, eval e X.env) :: starEach es X.env := by exact se_pl rfl) (hpl : (backTo cpos (starEach es X.env)).any (·.1) = false := by exact se_any rfl)
    (hs : swapsWith (.Call (.Name x p) (e :: es) [] cpos) (some (.Name y px)) pos.line X.env = pure false := by rfl) (hf : X.fn y = true ∨ X.env.scope.names.lookup y = some .local := by first | exact .inl rfl | exact .inr rfl | assumption) :
    ZS X (.Assign [.Name y px] (.Call (.Name x p) (e :: es) [] cpos) pos :: rest) σ H D := by
  obtain ⟨f, fd, G, hm, hk, hb⟩ := G.ex
  refine wSs_of (pss_cons (ps_set hN hi hx (pe_call G hr hg hm hk hb .nil (E := E0) pass0 pa_w hdb he hpl) hs hf) pss_w) ?_
  refine ha F H Gr.refl w _ fun vs F2 H2 s1 r1 => ?_
  rw [List.append_nil]
  exact ⟨F2, ds, d, s1.ok.less, r1, hA, fun v F' H' Fn s2 g2 new r2 => kk v _ _ Fn (s1.trans (Stp.more s1.ok s2)) g2 (fun b u h => none_back s1 (new b u h)) r2⟩
/-- x.append(e), x a list that is neither mine nor what stays -/
theorem zs_appendB (w : WOk F O H) {q : Addr} {vs : List V} (hσ : σ[n]? = some (some (.ref q))) (he : ZE X e σ F O d O) (hq : H q = some (.lst vs)) (hn : q ∉ keys O) (hz : vs.length < sizeLine) (kk : ∀ v F1 H1, Stp F O H F1 O H1 → ZS X rest σ (upd H1 q (.lst (vs ++ [v]))) D)
    (hN : X.N[n]? = some x := by rfl) (hv : Vis X.env.scope x := by first | exact Or.inl rfl | exact Or.inr (Or.inl rfl) | exact Or.inr (Or.inr rfl)) (hd : (x == ("__debug__" : Str)) = false := by decide) (hcd : (x == ("__classdict__" : Str)) = false := by decide)
    (hs : swapsWith (.Call (.Attribute (.Name x px) "append" apos) [e] [] cpos) none pos.line X.env = pure false := by rfl)
    (hbase : attributeBase (.Name x px) "append" X.env (eval (.Name x px) X.env) = eval (.Name x px) X.env := by rfl)
    (hfew : ((backTo cpos (starEach [e] X.env)).all (fun x => !x.1) && (backToKw cpos (keywordEach [] X.env)).all (fun x => x.1.isSome) && decide (([e] : List Expr).length + ([] : List Keyword).length + (if ([] : List Keyword).isEmpty then 0 else 1) < 30)) = true := by rfl)
    (hline : (apos.endLine == cpos.line) = true := by rfl) (hse : starEach [e] X.env = (false, eval e X.env) :: starEach [] X.env := by exact se_pl rfl) (hplain : (backTo cpos (starEach [] X.env)).any (·.1) = false := by exact se_any rfl) :
    ZS X (.Expr (.Call (.Attribute (.Name x px) "append" apos) [e] [] cpos) pos :: rest) σ H D := by
  refine wSs_of (pss_cons (ps_expr (pe_bm PySem.F.plainAttrs_list PySem.F.slot_list_append PySem.F.type_list_append mt_append (pe_var hN hv hd hcd) (pa_cons pe_w pa_nil hse) hbase hfew hline hse hplain) hs) pss_w) ?_
  refine ⟨_, hσ, .inl ⟨rfl, _, .inl (.inl hq)⟩, he F H Gr.refl w _ fun v F1 H1 s1 r1 => ?_⟩
  exact ⟨q, vs, v, rfl, rfl, s1.keep q _ hq hn, hz, kk v _ _ s1⟩
end
theorem starEach_tup {elts es : List Expr} {k : Nat} {pos : Pos} {env : Env} : starEach (.Tuple elts k pos :: es) env = (false, eval (.Tuple elts k pos) env) :: starEach es env := by rfl
theorem za_consT {X : Cx} {elts es : List Expr} {k : Nat} {pos : Pos} {σ : L2.St} {F : Hp} {O O1 O2 : Own} {d : PyData} {ds : List PyData} (ha : ZE X (.Tuple elts k pos) σ F O d O1) (hb : ZA X es σ F O1 ds O2) : ZA X (.Tuple elts k pos :: es) σ F O (d :: ds) O2 := za_cons ha hb starEach_tup
end Z

end
section
namespace Z
open PySem PySem.Spec PyProof.Rows L2
/-! ### constant expressions, read at one blow -/
def cdL (f : Expr → Option PyData) : List Expr → Option (List PyData)
  | [] => some []
  | e :: es => match f e, cdL f es with
    | some d, some ds => some (d :: ds)
    | _, _ => none
def cdC : Const → Option PyData
  | .none => some .none
  | .bool b => some (.bool b)
  | .int i => some (.int i)
  | .str x => some (.str x)
  | _ => none
def cdN : Nat → Expr → Option PyData
  | 0, _ => none
  | _ + 1, .Constant c _ _ => cdC c
  | _ + 1, .UnaryOp .USub (.Constant (.int i) _ _) _ => some (.int (-i))
  | n + 1, .Tuple es _ _ => if es.length ≤ 1000 then (cdL (cdN n) es).map .tuple else none
  | n + 1, .List es _ => if es.length ≤ 1000 then (cdL (cdN n) es).map .list else none
  | _ + 1, _ => none
theorem cdL_len {f : Expr → Option PyData} : ∀ {es : List Expr} {ds : List PyData}, cdL f es = some ds → ds.length = es.length
  | [], ds, h => by cases h; rfl
  | e :: es, ds, h => by
    unfold cdL at h
    cases h1 : f e with
    | none => rw [h1] at h; cases h
    | some d =>
      cases h2 : cdL f es with
      | none => rw [h1, h2] at h; cases h
      | some ds' => rw [h1, h2] at h; cases h; exact congrArg Nat.succ (cdL_len h2)
section
variable {X : Cx} {σ : L2.St} {F : Hp} {O : Own}
theorem cdN_pl : ∀ {n : Nat} {e : Expr} {d : PyData}, cdN n e = some d → plE e = true
  | 0, e, d, h => by cases h
  | n + 1, e, d, h => by
    cases e <;> first | rfl | (cases h)
theorem za_cdL {f : Expr → Option PyData} (hf : ∀ e d, f e = some d → ZE X e σ F O d O ∧ plE e = true) : ∀ {es : List Expr} {ds : List PyData}, cdL f es = some ds → ZA X es σ F O ds O
  | [], ds, h => by cases h; exact za_nil
  | e :: es, ds, h => by
    unfold cdL at h
    cases h1 : f e with
    | none => rw [h1] at h; cases h
    | some d =>
      cases h2 : cdL f es with
      | none => rw [h1, h2] at h; cases h
      | some ds' =>
        rw [h1, h2] at h; cases h
        exact za_cons (hf e d h1).1 (za_cdL hf h2) (se_pl (hf e d h1).2)
theorem ze_cd : ∀ (n : Nat) {e : Expr} {d : PyData}, cdN n e = some d → ZE X e σ F O d O
  | 0, e, d, h => by cases h
  | n + 1, .Constant c kk p, d, h => by
    cases c with
    | none => cases h; exact ze_non
    | bool b => cases h; exact ze_bl
    | int i => cases h; exact ze_int
    | str x => cases h; exact ze_str
    | float b => cases h
    | complex a b => cases h
    | bytes b => cases h
    | ellipsis => cases h
  | n + 1, .UnaryOp .USub (.Constant (.int i) k1 p1) p, d, h => by cases h; exact ze_neg ze_int
  | n + 1, .Tuple es kk p, d, h => by
    unfold cdN at h
    split at h
    · rename_i hl
      cases h2 : cdL (cdN n) es with
      | none => rw [h2] at h; cases h
      | some ds =>
        rw [h2] at h; cases h
        exact ze_tup (za_cdL (fun e d q => ⟨ze_cd n q, cdN_pl q⟩) h2) (by rw [cdL_len h2, sizeLine_eq]; omega)
    · cases h
  | n + 1, .List es p, d, h => by
    unfold cdN at h
    split at h
    · rename_i hl
      cases h2 : cdL (cdN n) es with
      | none => rw [h2] at h; cases h
      | some ds =>
        rw [h2] at h; cases h
        exact (zn_lst (za_cdL (fun e d q => ⟨ze_cd n q, cdN_pl q⟩) h2) (by rw [cdL_len h2, sizeLine_eq]; omega)).ze
    · cases h
theorem za_cd (n : Nat) {es : List Expr} {ds : List PyData} (h : cdL (cdN n) es = some ds) : ZA X es σ F O ds O := za_cdL (fun e d q => ⟨ze_cd n q, cdN_pl q⟩) h
end
end Z

end
section
namespace ZL
open PySem PySem.Spec PyProof.Rows L2 Z
def topS (i : Nat) : Stmt := PySem.Challenge.pw_flushends_k23_exchanges_cut_into_primiti.main.body.getD i (.Pass ⟨0, 0, 0, 0⟩)
structure Top (K : PySem.W.Frag) (mg : Str → Option Value) : Prop where
  f_mix : ∃ f fd, FunD K "_law_mix" "_law_mix" (defArgs (topS 12)) (defBody (topS 12)) (defScope (topS 12)) [] [] f fd ∧ mg "_law_mix" = some (.ref f)
  f_mkStore : ∃ f fd, FunD K "_law_store" "_law_store" (defArgs (topS 13)) (defBody (topS 13)) (defScope (topS 13)) [] [] f fd ∧ mg "_law_store" = some (.ref f)
  f_take : ∃ f fd, FunD K "_law_take" "_law_take" (defArgs (topS 14)) (defBody (topS 14)) (defScope (topS 14)) [] [] f fd ∧ mg "_law_take" = some (.ref f)
  f_odds : ∃ f fd, FunD K "_law_odds" "_law_odds" (defArgs (topS 15)) (defBody (topS 15)) (defScope (topS 15)) [] [] f fd ∧ mg "_law_odds" = some (.ref f)
  f_number : ∃ f fd, FunD K "_law_number" "_law_number" (defArgs (topS 16)) (defBody (topS 16)) (defScope (topS 16)) [] [] f fd ∧ mg "_law_number" = some (.ref f)
  f_same : ∃ f fd, FunD K "_law_same" "_law_same" (defArgs (topS 22)) (defBody (topS 22)) (defScope (topS 22)) [] [] f fd ∧ mg "_law_same" = some (.ref f)
  f_pick : ∃ f fd, FunD K "_law_pick" "_law_pick" (defArgs (topS 17)) (defBody (topS 17)) (defScope (topS 17)) [] [] f fd ∧ mg "_law_pick" = some (.ref f)
  f_shuffleL : ∃ f fd, FunD K "_law_shuffle" "_law_shuffle" (defArgs (topS 18)) (defBody (topS 18)) (defScope (topS 18)) [] [] f fd ∧ mg "_law_shuffle" = some (.ref f)
  f_remainingP : ∃ f fd, FunD K "remaining" "remaining" (defArgs (topS 1)) (defBody (topS 1)) (defScope (topS 1)) [] [] f fd ∧ mg "remaining" = some (.ref f)
  f_lessP : ∃ f fd, FunD K "less" "less" (defArgs (topS 2)) (defBody (topS 2)) (defScope (topS 2)) [] [] f fd ∧ mg "less" = some (.ref f)
  f_is_noteP : ∃ f fd, FunD K "is_note" "is_note" (defArgs (topS 5)) (defBody (topS 5)) (defScope (topS 5)) [] [] f fd ∧ mg "is_note" = some (.ref f)
  f_sub_sumsP : ∃ f fd, FunD K "sub_sums" "sub_sums" (defArgs (topS 6)) (defBody (topS 6)) (defScope (topS 6)) [] [] f fd ∧ mg "sub_sums" = some (.ref f)
  f_least_commonP : ∃ f fd, FunD K "least_common" "least_common" (defArgs (topS 7)) (defBody (topS 7)) (defScope (topS 7)) [] [] f fd ∧ mg "least_common" = some (.ref f)
  f_has_no_partsP : ∃ f fd, FunD K "has_no_parts" "has_no_parts" (defArgs (topS 8)) (defBody (topS 8)) (defScope (topS 8)) [] [] f fd ∧ mg "has_no_parts" = some (.ref f)
  f_is_primitiveP : ∃ f fd, FunD K "is_primitive" "is_primitive" (defArgs (topS 9)) (defBody (topS 9)) (defScope (topS 9)) [] [] f fd ∧ mg "is_primitive" = some (.ref f)
  f_cut_exchangeP : ∃ f fd, FunD K "cut_exchange" "cut_exchange" (defArgs (topS 10)) (defBody (topS 10)) (defScope (topS 10)) [] [] f fd ∧ mg "cut_exchange" = some (.ref f)
  f_splitL : ∃ f fd, FunD K "_law_split" "_law_split" (defArgs (topS 19)) (defBody (topS 19)) (defScope (topS 19)) [] [] f fd ∧ mg "_law_split" = some (.ref f)
  f_exchangeL : ∃ f fd, FunD K "_law_exchange" "_law_exchange" (defArgs (topS 20)) (defBody (topS 20)) (defScope (topS 20)) [] [] f fd ∧ mg "_law_exchange" = some (.ref f)
  f_is_numberL : ∃ f fd, FunD K "_law_is_number" "_law_is_number" (defArgs (topS 21)) (defBody (topS 21)) (defScope (topS 21)) [] [] f fd ∧ mg "_law_is_number" = some (.ref f)
  f_sums_ofL : ∃ f fd, FunD K "_law_sums_of" "_law_sums_of" (defArgs (topS 24)) (defBody (topS 24)) (defScope (topS 24)) [] [] f fd ∧ mg "_law_sums_of" = some (.ref f)
  f_primitiveL : ∃ f fd, FunD K "_law_primitive" "_law_primitive" (defArgs (topS 23)) (defBody (topS 23)) (defScope (topS 23)) [] [] f fd ∧ mg "_law_primitive" = some (.ref f)
  f_caseL : ∃ f fd, FunD K "_law_case" "_law_case" (defArgs (topS 25)) (defBody (topS 25)) (defScope (topS 25)) [] [] f fd ∧ mg "_law_case" = some (.ref f)
  f_cut_rightL : ∃ f fd, FunD K "_law_cut_right" "_law_cut_right" (defArgs (topS 26)) (defBody (topS 26)) (defScope (topS 26)) [] [] f fd ∧ mg "_law_cut_right" = some (.ref f)
  f_judgedL : ∃ f fd, FunD K "_law_judged" "_law_judged" (defArgs (topS 27)) (defBody (topS 27)) (defScope (topS 27)) [] [] f fd ∧ mg "_law_judged" = some (.ref f)
  f_case_holdsL : ∃ f fd, FunD K "_law_case_holds" "_law_case_holds" (defArgs (topS 28)) (defBody (topS 28)) (defScope (topS 28)) [] [] f fd ∧ mg "_law_case_holds" = some (.ref f)
  f_law : ∃ f fd, FunD K "law" "law" (defArgs (topS 29)) (defBody (topS 29)) (defScope (topS 29)) [] [] f fd ∧ mg "law" = some (.ref f)
  b_abs : mg "abs" = none
  b_all : mg "all" = none
  b_any : mg "any" = none
  b_bool : mg "bool" = none
  b_int : mg "int" = none
  b_isinstance : mg "isinstance" = none
  b_len : mg "len" = none
  b_list : mg "list" = none
  b_max : mg "max" = none
  b_range : mg "range" = none
  b_sorted : mg "sorted" = none
  b_str : mg "str" = none
  b_sum : mg "sum" = none
  b_tuple : mg "tuple" = none
  c_GREATEST_ASK : ∃ t, mg "GREATEST_ASK" = some (.int 1000000 t)

/-! _law_mix -/
abbrev s_mix : Stmt := topS 12
theorem sc_mix : FnScope ["seed", "step", "low", "high", "one", "two"] ["seed", "step"] (defScope s_mix) := ⟨rfl, rfl, rfl, by decide +kernel, rfl, by decide +kernel, by decide +kernel⟩
def mix_6 (one_2 : Int) (two_2 : Int) : Int :=
  ((one_2 * (2147483579 : Int)) + two_2)
def mix_5 (low : Int) (one_2 : Int) (two : Int) : Int :=
  mix_6 one_2 ((((two * two) + ((39373 : Int) * one_2)) + low) % (2147483579 : Int))
def mix_4 (low : Int) (high : Int) (one : Int) (two : Int) : Int :=
  mix_5 low ((((one * one) + ((16807 : Int) * two)) + high) % (2147483399 : Int)) two
def mix_3 (low : Int) (high : Int) (one : Int) : Int :=
  mix_4 low high one ((((high * high) + ((48271 : Int) * one)) + low) % (2147483629 : Int))
def mix_2 (low : Int) (high : Int) : Int :=
  mix_3 low high (((low * low) + ((40692 : Int) * high)) % (2147483647 : Int))
def mix_1 (seed : Int) (step : Int) (low : Int) : Int :=
  mix_2 low ((((seed / (2147483647 : Int)) % (2147483629 : Int)) + ((step % (1000003 : Int)) * (69621 : Int))) + (5 : Int))
def mix (seed : Int) (step : Int) : Int :=
  mix_1 seed step (((seed % (2147483647 : Int)) + ((step % (1000003 : Int)) * (48271 : Int))) + (11 : Int))
def A_mix : List PyData → PyData → Prop := fun ds r => ∃ (seed : Int) (step : Int), ds = [eI seed, eI step] ∧ r = eI (mix seed step)
set_option maxHeartbeats 4000000 in
theorem ok_mix {P : Program} {w : World} {K : PySem.W.Frag} {mg : Str → Option Value} {base : Heap} (T : Top K mg) : Fn P w K mg base 1 "_law_mix" ["seed", "step"] (spD K A_mix) := by
  obtain ⟨f, fd, F, gm⟩ := T.f_mix
  have sc := sc_mix
  refine ⟨f, fd, F.ok sc (fun vs H Q E h => ?_) (fun cdv A outer s0 H vs Q E hr h => ⟨_, PSs.nox pss_w, ?_⟩), gm, F.kp, F.bindsN (fun _ _ _ _ _ _ us hl => match us, hl with | [_, _], _ => rfl)⟩
  · obtain ⟨F, ds, r, w, ra, ⟨seed, step, rfl, rfl⟩, q⟩ := h
    exact ra.len
  · obtain ⟨F, ds, r, w, ra, ⟨seed, step, rfl, rfl⟩, q⟩ := h
    obtain ⟨v_seed, ws, rfl, r_seed, ra⟩ := ra.cons_inv
    obtain ⟨v_step, ws, rfl, r_step, ra⟩ := ra.cons_inv
    obtain rfl := ra.nil_inv
    have st := Stp.refl w
    have hf : mix seed step = mix seed step := rfl
    show ZS _ _ [some v_seed, some v_step, none, none, none, none] H _
    refine zs_set (n := 2) st.ok (ze_add (ze_add (ze_mod (ze_intI T.b_int (ze_var 0 rfl r_seed)) ze_int (by decide)) (ze_mulR (ze_mod (ze_intI T.b_int (ze_var 1 rfl r_step)) ze_int (by decide)) ze_int (by decide))) ze_int) sc.nd rfl (by first | exact Or.inl rfl | exact Or.inr rfl) fun v_low F_2 H_2 s_2 r_low => ?_
    obtain ⟨low, hx_low⟩ : ∃ z : Int, z = (((seed % (2147483647 : Int)) + ((step % (1000003 : Int)) * (48271 : Int))) + (11 : Int)) := ⟨_, rfl⟩
    have s_2 : Stp F [] H F_2 [] H_2 := by exact s_2
    have r_low : R K F_2 v_low (eI low) := by subst hx_low; exact r_low
    have st := st.trans s_2
    have r_seed := r_seed.mono s_2.gr
    have r_step := r_step.mono s_2.gr
    show ZS _ _ [some v_seed, some v_step, some v_low, none, none, none] H_2 _
    have hf : mix seed step = mix_1 seed step low := by subst hx_low; exact hf
    refine zs_set (n := 3) st.ok (ze_add (ze_add (ze_mod (ze_fdivW (ze_intI T.b_int (ze_var 0 rfl r_seed)) ze_int (by decide) (by decide)) ze_int (by decide)) (ze_mulR (ze_mod (ze_intI T.b_int (ze_var 1 rfl r_step)) ze_int (by decide)) ze_int (by decide))) ze_int) sc.nd rfl (by first | exact Or.inl rfl | exact Or.inr rfl) fun v_high F_3 H_3 s_3 r_high => ?_
    obtain ⟨high, hx_high⟩ : ∃ z : Int, z = ((((seed / (2147483647 : Int)) % (2147483629 : Int)) + ((step % (1000003 : Int)) * (69621 : Int))) + (5 : Int)) := ⟨_, rfl⟩
    have s_3 : Stp F_2 [] H_2 F_3 [] H_3 := by exact s_3
    have r_high : R K F_3 v_high (eI high) := by subst hx_high; exact r_high
    have st := st.trans s_3
    have r_seed := r_seed.mono s_3.gr
    have r_step := r_step.mono s_3.gr
    have r_low := r_low.mono s_3.gr
    show ZS _ _ [some v_seed, some v_step, some v_low, some v_high, none, none] H_3 _
    have hf : mix seed step = mix_2 low high := by subst hx_high; exact hf
    refine zs_set (n := 4) st.ok (ze_mod (ze_intI T.b_int (ze_add (ze_mulL (ze_var 2 rfl r_low) (ze_var 2 rfl r_low) (by /-1-/ first | (first | omega | (simp only [List.length_append, List.length_cons, List.length_nil, List.length_map, rangeI_length]; omega)) | (first | omega | decide))) (ze_mulL ze_int (ze_var 3 rfl r_high) (by decide)))) ze_int (by decide)) sc.nd rfl (by first | exact Or.inl rfl | exact Or.inr rfl) fun v_one F_4 H_4 s_4 r_one => ?_
    obtain ⟨one, hx_one⟩ : ∃ z : Int, z = (((low * low) + ((40692 : Int) * high)) % (2147483647 : Int)) := ⟨_, rfl⟩
    have s_4 : Stp F_3 [] H_3 F_4 [] H_4 := by exact s_4
    have r_one : R K F_4 v_one (eI one) := by subst hx_one; exact r_one
    have st := st.trans s_4
    have r_seed := r_seed.mono s_4.gr
    have r_step := r_step.mono s_4.gr
    have r_low := r_low.mono s_4.gr
    have r_high := r_high.mono s_4.gr
    show ZS _ _ [some v_seed, some v_step, some v_low, some v_high, some v_one, none] H_4 _
    have hf : mix seed step = mix_3 low high one := by subst hx_one; exact hf
    refine zs_set (n := 5) st.ok (ze_mod (ze_intI T.b_int (ze_add (ze_add (ze_mulL (ze_var 3 rfl r_high) (ze_var 3 rfl r_high) (by /-2-/ first | (first | omega | (simp only [List.length_append, List.length_cons, List.length_nil, List.length_map, rangeI_length]; omega)) | (first | omega | decide))) (ze_mulL ze_int (ze_var 4 rfl r_one) (by decide))) (ze_var 2 rfl r_low))) ze_int (by decide)) sc.nd rfl (by first | exact Or.inl rfl | exact Or.inr rfl) fun v_two F_5 H_5 s_5 r_two => ?_
    obtain ⟨two, hx_two⟩ : ∃ z : Int, z = ((((high * high) + ((48271 : Int) * one)) + low) % (2147483629 : Int)) := ⟨_, rfl⟩
    have s_5 : Stp F_4 [] H_4 F_5 [] H_5 := by exact s_5
    have r_two : R K F_5 v_two (eI two) := by subst hx_two; exact r_two
    have st := st.trans s_5
    have r_seed := r_seed.mono s_5.gr
    have r_step := r_step.mono s_5.gr
    have r_low := r_low.mono s_5.gr
    have r_high := r_high.mono s_5.gr
    have r_one := r_one.mono s_5.gr
    show ZS _ _ [some v_seed, some v_step, some v_low, some v_high, some v_one, some v_two] H_5 _
    have hf : mix seed step = mix_4 low high one two := by subst hx_two; exact hf
    refine zs_set (n := 4) st.ok (ze_mod (ze_intI T.b_int (ze_add (ze_add (ze_mulL (ze_var 4 rfl r_one) (ze_var 4 rfl r_one) (by /-3-/ first | (first | omega | (simp only [List.length_append, List.length_cons, List.length_nil, List.length_map, rangeI_length]; omega)) | (first | omega | decide))) (ze_mulL ze_int (ze_var 5 rfl r_two) (by decide))) (ze_var 3 rfl r_high))) ze_int (by decide)) sc.nd rfl (by first | exact Or.inl rfl | exact Or.inr rfl) fun v_one_2 F_6 H_6 s_6 r_one_2 => ?_
    obtain ⟨one_2, hx_one_2⟩ : ∃ z : Int, z = ((((one * one) + ((16807 : Int) * two)) + high) % (2147483399 : Int)) := ⟨_, rfl⟩
    have s_6 : Stp F_5 [] H_5 F_6 [] H_6 := by exact s_6
    have r_one_2 : R K F_6 v_one_2 (eI one_2) := by subst hx_one_2; exact r_one_2
    have st := st.trans s_6
    have r_seed := r_seed.mono s_6.gr
    have r_step := r_step.mono s_6.gr
    have r_low := r_low.mono s_6.gr
    have r_high := r_high.mono s_6.gr
    have r_two := r_two.mono s_6.gr
    show ZS _ _ [some v_seed, some v_step, some v_low, some v_high, some v_one_2, some v_two] H_6 _
    have hf : mix seed step = mix_5 low one_2 two := by subst hx_one_2; exact hf
    refine zs_set (n := 5) st.ok (ze_mod (ze_intI T.b_int (ze_add (ze_add (ze_mulL (ze_var 5 rfl r_two) (ze_var 5 rfl r_two) (by /-4-/ first | (first | omega | (simp only [List.length_append, List.length_cons, List.length_nil, List.length_map, rangeI_length]; omega)) | (first | omega | decide))) (ze_mulL ze_int (ze_var 4 rfl r_one_2) (by decide))) (ze_var 2 rfl r_low))) ze_int (by decide)) sc.nd rfl (by first | exact Or.inl rfl | exact Or.inr rfl) fun v_two_2 F_7 H_7 s_7 r_two_2 => ?_
    obtain ⟨two_2, hx_two_2⟩ : ∃ z : Int, z = ((((two * two) + ((39373 : Int) * one_2)) + low) % (2147483579 : Int)) := ⟨_, rfl⟩
    have s_7 : Stp F_6 [] H_6 F_7 [] H_7 := by exact s_7
    have r_two_2 : R K F_7 v_two_2 (eI two_2) := by subst hx_two_2; exact r_two_2
    have st := st.trans s_7
    have r_seed := r_seed.mono s_7.gr
    have r_step := r_step.mono s_7.gr
    have r_low := r_low.mono s_7.gr
    have r_high := r_high.mono s_7.gr
    have r_one_2 := r_one_2.mono s_7.gr
    show ZS _ _ [some v_seed, some v_step, some v_low, some v_high, some v_one_2, some v_two_2] H_7 _
    have hf : mix seed step = mix_6 one_2 two_2 := by subst hx_two_2; exact hf
    refine zs_ret st.ok (ze_add (ze_mulR (ze_var 4 rfl r_one_2) ze_int (by decide)) (ze_var 5 rfl r_two_2)) fun v F_8 H_8 s_8 r_2 => ?_
    exact q v F_8 H_8 (st.trans s_8) (by rw [hf]; exact r_2)

/-! _law_store -/
abbrev s_mkStore : Stmt := topS 13
theorem sc_mkStore : FnScope ["script", "cells", "seed", "cell"] ["script"] (defScope s_mkStore) := ⟨rfl, rfl, rfl, by decide +kernel, rfl, by decide +kernel, by decide +kernel⟩
set_option maxHeartbeats 4000000 in
theorem ok_mkStore {P : Program} {w : World} {K : PySem.W.Frag} {mg : Str → Option Value} {base : Heap} (T : Top K mg) : Fn P w K mg base 1 "_law_store" ["script"] (spMk K) := by
  obtain ⟨f, fd, F, gm⟩ := T.f_mkStore
  have sc := sc_mkStore
  refine ⟨f, fd, F.ok sc (fun vs H Q E h => ?_) (fun cdv A outer s0 H vs Q E hr h => ⟨_, PSs.nox pss_w, ?_⟩), gm, F.kp, F.bindsN (fun _ _ _ _ _ _ us hl => match us, hl with | [_], _ => rfl)⟩
  · obtain ⟨F, a, ns, rfl, w, hS, hn, q⟩ := h
    rfl
  · obtain ⟨F, a, ns, rfl, w, hS, hn, q⟩ := h
    have st := Stp.refl w
    show ZS _ _ [some (.ref a), none, none, none] H _
    refine zs_setLcM (i0 := 1) (n := 3) (w := st.ok) (f0 := fun x : Int => x) (encR := eI) rfl sc.nd (zi_sqL (n := 0) rfl hS (ra_ints ns) (by rw [List.length_map, ← szL]; omega)) (fun _ _ _ _ _ x v _ hx g r => ze_intI T.b_int (ze_var 3 rfl r)) (blkOk_by (N := ["script", "cells", "seed", "cell"]) (sc := defScope s_mkStore) (by decide +kernel)) (fun _ _ _ _ _ => pg_name (i := 3) sc.nd rfl (Or.inl rfl)) rfl rfl (sw_true rfl rfl rfl (by decide +kernel)) fun p us F1 H1 hp s1 r1 => ?_
    have hn1 := st.newAt hp
    have r1 : RA K F1 us (ns.map eI) := by rw [List.map_id'] at r1; exact r1
    have g1 : Gr F1 (upd F1 p (.lst us)) := Gr.upd (s1.ok.at_ (k := 0) rfl).2
    have st : Stp _ _ _ (upd F1 p (.lst us)) [] H1 := Stp.freezeAt 0 (st.trans s1) rfl hn1
    have r_cells : R K (upd F1 p (.lst us)) (.ref p) (eL eI ns) := (r1.mono g1).lst upd_same
    show ZS _ _ [some (.ref a), some (.ref p), none, none] H1 _
    refine zs_set (n := 2) st.ok (ze_add ze_int (ze_lenLt T.b_len (ze_var 1 rfl r_cells))) sc.nd rfl (Or.inl rfl) fun v_seed F3 H3 s3 r_seed => ?_
    have st := st.trans s3
    have r_cells := r_cells.mono s3.gr
    show ZS _ _ [some (.ref a), some (.ref p), some v_seed, none] H3 _
    refine zs_forF (f := fun b a : Int => (b * 1000003 + a % 2305843009213693951 + 1) % 2305843009213693951) (b0 := 17 + (ns.length : Int)) st.ok PassesOwn.never rfl (zi_list (ze_var 1 rfl r_cells)) (fun i b σ F O => ∃ (z : Option V) (v : V), σ = [some (.ref a), some (.ref p), some v, z] ∧ O = [] ∧ R K F v (eI b)) (fun F1 H1 s1 => ⟨none, v_seed, rfl, rfl, r_seed.mono s1.gr⟩) (fun i b a' v σ1 Fa Fb O1 H4 ha hbe hz rel g stt r => ?_) (fun σ1 F4 O1 H4 stt rel => ?_)
    · obtain ⟨z, v_seed, rfl, rfl, r_seed⟩ := rel
      refine zg_name (n := 3) sc.nd rfl (Or.inl rfl) ?_
      show ZS _ _ [some (.ref a), some (.ref p), some v_seed, some v] H4 _
      refine zs_set (n := 2) stt.ok (ze_mod (ze_intI T.b_int (ze_add (ze_add (ze_mulR (ze_var 2 rfl (r_seed.mono g)) ze_int (by decide)) (ze_mod (ze_var 3 rfl r) ze_int (by decide))) ze_int)) ze_int (by decide)) sc.nd rfl (Or.inl rfl) fun v5 F5 H5 s5 r5 => ?_
      refine zs_nil ?_
      exact ⟨F5, [], s5, some v, v5, rfl, rfl, r5⟩
    · obtain ⟨z, v_seed, rfl, rfl, r_seed⟩ := rel
      have st := st.trans stt
      have r_cells := r_cells.mono stt.gr
      refine zs_retN st.ok (zn_lst (za_cons (ze_var 1 rfl r_cells) (za_cons ze_int (za_cons ze_int (za_cons ze_int (za_cons (ze_var 2 rfl r_seed) za_nil)))))) fun p2 us2 F6 H6 hp2 s6 r6 => ?_
      obtain ⟨c, us2, rfl, rc, r6⟩ := r6.cons_inv
      obtain ⟨i1, us2, rfl, q1, r6⟩ := r6.cons_inv
      obtain ⟨i2, us2, rfl, q2, r6⟩ := r6.cons_inv
      obtain ⟨i3, us2, rfl, q3, r6⟩ := r6.cons_inv
      obtain ⟨i4, us2, rfl, q4, r6⟩ := r6.cons_inv
      obtain rfl := r6.nil_inv
      obtain rfl := q1.int_inv
      obtain rfl := q2.int_inv
      obtain rfl := q3.int_inv
      obtain rfl := q4.int_inv
      exact q p2 c F6 H6 (st.newAt hp2) (st.trans s6) rc


/-! _law_take -/
abbrev s_take : Stmt := topS 14
theorem sc_take : FnScope ["store", "many", "step", "digit", "cell"] ["store", "many"] (defScope s_take) := ⟨rfl, rfl, rfl, by decide +kernel, rfl, by decide +kernel, by decide +kernel⟩
def big18 : Int := (10 : Int) ^ (18 : Int).toNat
def take (cs : List Int) (s : Sto) (many : Int) : Int × Sto :=
  cond (decide (many < 2)) (0, { s with step := s.step + 1 })
    (cond (decide (many ≤ (s.dig : Int))) ((s.dig : Int) % many, { s with step := s.step + 1, dig := ((s.dig : Int) / many).toNat })
      (cond (decide ((cs.length : Int) ≤ (s.ix : Int))) (mix s.seed s.step % many, { s with step := s.step + 1, dig := 0 })
        (cond (decide (((ixL cs s.ix).natAbs : Int) < big18)) (mix (ixL cs s.ix) s.step % many, { s with step := s.step + 1, dig := 0, ix := s.ix + 1 })
          (((ixL cs s.ix).natAbs : Int) % many, { s with step := s.step + 1, dig := (((ixL cs s.ix).natAbs : Int) / many).toNat, ix := s.ix + 1 }))))
theorem take_range (cs : List Int) (s : Sto) (many : Int) : 0 ≤ (take cs s many).1 ∧ ((take cs s many).1 < many ∨ (take cs s many).1 = 0) := by
  unfold take
  by_cases h : many < 2
  · rw [cond_t (decide_eq_true h)]; exact ⟨Int.le_refl _, .inr rfl⟩
  · have hm : 0 < many := by omega
    rw [cond_f (decide_eq_false h)]
    have g : ∀ x : Int, 0 ≤ x % many ∧ (x % many < many ∨ x % many = 0) := fun x => ⟨Int.emod_nonneg _ (by omega), .inl (Int.emod_lt_of_pos _ hm)⟩
    cases (decide (many ≤ (s.dig : Int))) with
    | true => exact g _
    | false =>
      cases (decide ((cs.length : Int) ≤ (s.ix : Int))) with
      | true => exact g _
      | false =>
        cases (decide (((ixL cs s.ix).natAbs : Int) < big18)) with
        | true => exact g _
        | false => exact g _
theorem take_lt {cs : List Int} {s : Sto} {many : Int} (h : 1 ≤ many) : 0 ≤ (take cs s many).1 ∧ (take cs s many).1 < many := by
  have := take_range cs s many
  omega
def A_take : List Int → Sto → List PyData → PyData → Sto → Prop := fun cs s ds r s' => ∃ (many : Int), ds = [eI many] ∧ (many < 2 ^ 64) ∧ r = eI (take cs s many).1 ∧ s' = (take cs s many).2
set_option maxHeartbeats 4000000 in
theorem ok_take {P : Program} {w : World} {K : PySem.W.Frag} {mg : Str → Option Value} {base : Heap} (T : Top K mg) : Fn P w K mg base 2 "_law_take" ["store", "many"] (spS K A_take) := by
  obtain ⟨f, fd, F, gm⟩ := T.f_take
  have sc := sc_take
  refine ⟨f, fd, F.ok sc (fun vs H Q E h => ?_) (fun cdv A outer s0 H vs Q E hr h => ⟨_, PSs.nox pss_w, ?_⟩), gm, F.kp, F.bindsN (fun _ _ _ _ _ _ us hl => match us, hl with | [_, _], _ => rfl)⟩
  · obtain ⟨F, a, c, cs, s, ws, ds, r, s', rfl, w, rc, ra, ⟨many, rfl, hpre, rfl, rfl⟩, q⟩ := h
    have h := ra.len
    show ws.length + 1 = 2
    rw [h]; rfl
  · obtain ⟨F, a, c, cs, s, ws, ds, r, s', rfl, w, rc, ra, ⟨many, rfl, hpre, rfl, rfl⟩, q⟩ := h
    obtain ⟨v_many, ws, rfl, r_many, ra⟩ := ra.cons_inv
    obtain rfl := ra.nil_inv
    have st := Stp.refl w
    show ZS _ _ [some (.ref a), some v_many, none, none, none] H _
    -- step = store[3]
    refine zs_set (n := 2) st.ok (ze_ixO 0 0 rfl ze_int rfl (sto_ra rc) atI_3) sc.nd rfl (Or.inl rfl) fun v_step F1 H1 s1 r_step => ?_
    have st := st.trans s1
    have rc := rc.mono s1.gr
    have r_many := r_many.mono s1.gr
    show ZS _ _ [some (.ref a), some v_many, some v_step, none, none] H1 _
    -- store[3] = step + 1
    refine zs_setItem (q := 3) st.ok 0 0 rfl (ze_add (ze_var 2 rfl r_step) ze_int) ze_int rfl rfl fun v F2 H2 s2 r2 => ?_
    obtain rfl := r2.int_inv
    have s2 : Stp _ _ _ F2 [stoO a c { s with step := s.step + 1 }] H2 := s2
    have st := st.trans s2
    have rc := rc.mono s2.gr
    have r_many := r_many.mono s2.gr
    have r_step := r_step.mono s2.gr
    -- if many < 2
    refine zs_if st.ok (zt_cm cm_lt (ze_var 1 rfl r_many) ze_int) (fun hb F3 H3 s3 => ?_) (fun hb F3 H3 s3 => ?_)
    · have hf : take cs s many = (0, { s with step := s.step + 1 }) := cond_t hb
      have st := st.trans s3
      refine zs_ret st.ok ze_int fun v F4 H4 s4 r4 => ?_
      exact q v F4 H4 (by rw [hf]; exact st.trans s4) (by rw [hf]; exact r4)
    have hf := cond_f (α := Int × Sto) hb (a := (0, { s with step := s.step + 1 })) (b := (cond (decide (many ≤ (s.dig : Int))) ((s.dig : Int) % many, { s with step := s.step + 1, dig := ((s.dig : Int) / many).toNat })
      (cond (decide ((cs.length : Int) ≤ (s.ix : Int))) (mix s.seed s.step % many, { s with step := s.step + 1, dig := 0 })
        (cond (decide (((ixL cs s.ix).natAbs : Int) < big18)) (mix (ixL cs s.ix) s.step % many, { s with step := s.step + 1, dig := 0, ix := s.ix + 1 })
          (((ixL cs s.ix).natAbs : Int) % many, { s with step := s.step + 1, dig := (((ixL cs s.ix).natAbs : Int) / many).toNat, ix := s.ix + 1 })))))
    have hf : take cs s many = _ := hf
    have hm : 2 ≤ many := by have : ¬ (many < 2) := of_decide_eq_false hb; omega
    have st := st.trans s3
    have rc := rc.mono s3.gr
    have r_many := r_many.mono s3.gr
    have r_step := r_step.mono s3.gr
    refine zs_nil ?_
    show ZS _ _ [some (.ref a), some v_many, some v_step, none, none] H3 _
    -- if store[2] >= many
    refine zs_if st.ok (zt_cm cm_ge (ze_ixO 0 0 rfl ze_int rfl (sto_ra rc) atI_2) (ze_var 1 rfl r_many)) (fun hb2 F4 H4 s4 => ?_) (fun hb2 F4 H4 s4 => ?_)
    · have hf := hf.trans (cond_t hb2)
      have st := st.trans s4
      have rc := rc.mono s4.gr
      have r_many := r_many.mono s4.gr
      refine zs_set (n := 3) st.ok (ze_mod (ze_intI T.b_int (ze_ixO 0 0 rfl ze_int rfl (sto_ra rc) atI_2)) (ze_var 1 rfl r_many) (by omega)) sc.nd rfl (Or.inl rfl) fun v_digit F5 H5 s5 r_digit => ?_
      have st := st.trans s5
      have rc := rc.mono s5.gr
      have r_many := r_many.mono s5.gr
      show ZS _ _ [some (.ref a), some v_many, some v_step, some v_digit, none] H5 _
      refine zs_setItem (q := 2) st.ok 0 0 rfl (ze_fdivW (ze_ixO 0 0 rfl ze_int rfl (sto_ra rc) atI_2) (ze_var 1 rfl r_many) (by omega) (by omega)) ze_int rfl rfl fun v F6 H6 s6 r6 => ?_
      have hd : ((s.dig : Int) / many) = ((((s.dig : Int) / many).toNat : Nat) : Int) := (Int.toNat_of_nonneg (Int.ediv_nonneg (by omega) (by omega))).symm
      have r6 : R K F6 v (eI ((((s.dig : Int) / many).toNat : Nat) : Int)) := by rw [← hd]; exact r6
      obtain rfl := r6.int_inv
      have s6 : Stp _ _ _ F6 [stoO a c { s with step := s.step + 1, dig := ((s.dig : Int) / many).toNat }] H6 := s6
      have st := st.trans s6
      refine zs_ret st.ok (ze_var 3 rfl (r_digit.mono s6.gr)) fun v F7 H7 s7 r7 => ?_
      exact q v F7 H7 (by rw [hf]; exact st.trans s7) (by rw [hf]; exact r7)
    have hf := hf.trans (cond_f hb2)
    have st := st.trans s4
    have rc := rc.mono s4.gr
    have r_many := r_many.mono s4.gr
    have r_step := r_step.mono s4.gr
    refine zs_nil ?_
    show ZS _ _ [some (.ref a), some v_many, some v_step, none, none] H4 _
    -- store[2] = 0
    refine zs_setItem (q := 2) st.ok 0 0 rfl ze_int ze_int rfl rfl fun v F5 H5 s5 r5 => ?_
    obtain rfl := r5.int_inv
    have s5 : Stp _ _ _ F5 [stoO a c { s with step := s.step + 1, dig := 0 }] H5 := s5
    have st := st.trans s5
    have rc := rc.mono s5.gr
    have r_many := r_many.mono s5.gr
    have r_step := r_step.mono s5.gr
    -- if store[1] >= len(store[0])
    refine zs_if st.ok (zt_cm cm_ge (ze_ixO 0 0 rfl ze_int rfl (sto_ra rc) atI_1) (ze_lenLt T.b_len (ze_ixO 0 0 rfl ze_int rfl (sto_ra rc) atI_0))) (fun hb3 F6 H6 s6 => ?_) (fun hb3 F6 H6 s6 => ?_)
    · have hf := hf.trans (cond_t hb3)
      have st := st.trans s6
      have rc := rc.mono s6.gr
      have r_many := r_many.mono s6.gr
      have r_step := r_step.mono s6.gr
      refine zs_ret st.ok (ze_mod (ze_intI T.b_int (ze_callD (ok_mix T) (hr.mono (by decide)) (za_cons (ze_ixO 0 0 rfl ze_int rfl (sto_ra rc) atI_4) (za_cons (ze_var 2 rfl r_step) za_nil)) ⟨_, _, rfl, rfl⟩)) (ze_var 1 rfl r_many) (by omega)) fun v F7 H7 s7 r7 => ?_
      exact q v F7 H7 (by rw [hf]; exact st.trans s7) (by rw [hf]; exact r7)
    have hf := hf.trans (cond_f hb3)
    have hix : -(cs.length : Int) ≤ (s.ix : Int) ∧ (s.ix : Int) < (cs.length : Int) := by have : ¬ ((cs.length : Int) ≤ (s.ix : Int)) := of_decide_eq_false hb3; omega
    have st := st.trans s6
    have rc := rc.mono s6.gr
    have r_many := r_many.mono s6.gr
    have r_step := r_step.mono s6.gr
    refine zs_nil ?_
    show ZS _ _ [some (.ref a), some v_many, some v_step, none, none] H6 _
    -- cell = store[0][store[1]]
    refine zs_set (n := 4) st.ok (ze_ixLt (enc := eI) (xs := cs) (ze_ixO 0 0 rfl ze_int rfl (sto_ra rc) atI_0) (ze_ixO 0 0 rfl ze_int rfl (sto_ra rc) atI_1) hix) sc.nd rfl (Or.inl rfl) fun v_cell F7 H7 s7 r_cell => ?_
    have st := st.trans s7
    have rc := rc.mono s7.gr
    have r_many := r_many.mono s7.gr
    have r_step := r_step.mono s7.gr
    show ZS _ _ [some (.ref a), some v_many, some v_step, none, some v_cell] H7 _
    -- store[1] = store[1] + 1
    refine zs_setItem (q := 1) st.ok 0 0 rfl (ze_add (ze_ixO 0 0 rfl ze_int rfl (sto_ra rc) atI_1) ze_int) ze_int rfl rfl fun v F8 H8 s8 r8 => ?_
    obtain rfl := r8.int_inv
    have s8 : Stp _ _ _ F8 [stoO a c { s with step := s.step + 1, dig := 0, ix := s.ix + 1 }] H8 := s8
    have st := st.trans s8
    have rc := rc.mono s8.gr
    have r_many := r_many.mono s8.gr
    have r_step := r_step.mono s8.gr
    have r_cell := r_cell.mono s8.gr
    refine zs_if st.ok (zt_cm cm_lt (ze_abs T.b_abs (ze_var 4 rfl r_cell)) (ze_pow ze_int ze_int ⟨by decide, by decide, by decide⟩)) (fun hb4 F9 H9 s9 => ?_) (fun hb4 F9 H9 s9 => ?_)
    · have hf := hf.trans (cond_t hb4)
      have st := st.trans s9
      have r_many := r_many.mono s9.gr
      have r_step := r_step.mono s9.gr
      have r_cell := r_cell.mono s9.gr
      refine zs_ret st.ok (ze_mod (ze_intI T.b_int (ze_callD (ok_mix T) (hr.mono (by decide)) (za_cons (ze_var 4 rfl r_cell) (za_cons (ze_var 2 rfl r_step) za_nil)) ⟨_, _, rfl, rfl⟩)) (ze_var 1 rfl r_many) (by omega)) fun v Fa Ha sa ra => ?_
      exact q v Fa Ha (by rw [hf]; exact st.trans sa) (by rw [hf]; exact ra)
    have hf := hf.trans (cond_f hb4)
    have st := st.trans s9
    have rc := rc.mono s9.gr
    have r_many := r_many.mono s9.gr
    have r_cell := r_cell.mono s9.gr
    refine zs_nil ?_
    show ZS _ _ [some (.ref a), some v_many, some v_step, none, some v_cell] H9 _
    refine zs_setItem (q := 2) st.ok 0 0 rfl (ze_fdivW (ze_abs T.b_abs (ze_var 4 rfl r_cell)) (ze_var 1 rfl r_many) (by omega) (by omega)) ze_int rfl rfl fun v Fa Ha sa ra => ?_
    have hd : (((ixL cs s.ix).natAbs : Int) / many) = (((((ixL cs s.ix).natAbs : Int) / many).toNat : Nat) : Int) := (Int.toNat_of_nonneg (Int.ediv_nonneg (by omega) (by omega))).symm
    have ra : R K Fa v (eI (((((ixL cs s.ix).natAbs : Int) / many).toNat : Nat) : Int)) := by rw [← hd]; exact ra
    obtain rfl := ra.int_inv
    have sa : Stp _ _ _ Fa [stoO a c { s with step := s.step + 1, dig := (((ixL cs s.ix).natAbs : Int) / many).toNat, ix := s.ix + 1 }] Ha := sa
    have st := st.trans sa
    refine zs_ret st.ok (ze_mod (ze_abs T.b_abs (ze_var 4 rfl (r_cell.mono sa.gr))) (ze_var 1 rfl (r_many.mono sa.gr)) (by omega)) fun v Fb Hb sb rb => ?_
    exact q v Fb Hb (by rw [hf]; exact st.trans sb) (by rw [hf]; exact rb)

/-! _law_odds -/
abbrev s_odds : Stmt := topS 15
theorem sc_odds : FnScope ["store", "many"] ["store", "many"] (defScope s_odds) := ⟨rfl, rfl, rfl, by decide +kernel, rfl, by decide +kernel, by decide +kernel⟩
def odds (cs : List Int) (s : Sto) (many : Int) : Bool × Sto :=
  (decide ((take cs s many).1 = (0 : Int)), (take cs s many).2)
def A_odds : List Int → Sto → List PyData → PyData → Sto → Prop := fun cs s ds r s' => ∃ (many : Int), ds = [eI many] ∧ (many < 2 ^ 64) ∧ r = eB (odds cs s many).1 ∧ s' = (odds cs s many).2
set_option maxHeartbeats 4000000 in
theorem ok_odds {P : Program} {w : World} {K : PySem.W.Frag} {mg : Str → Option Value} {base : Heap} (T : Top K mg) : Fn P w K mg base 3 "_law_odds" ["store", "many"] (spS K A_odds) := by
  obtain ⟨f, fd, F, gm⟩ := T.f_odds
  have sc := sc_odds
  refine ⟨f, fd, F.ok sc (fun vs H Q E h => ?_) (fun cdv A outer s0 H vs Q E hr h => ⟨_, PSs.nox pss_w, ?_⟩), gm, F.kp, F.bindsN (fun _ _ _ _ _ _ us hl => match us, hl with | [_, _], _ => rfl)⟩
  · obtain ⟨F, a_st, c_st, cs, s, ws, ds, r, s', rfl, w, rc, ra, ⟨many, rfl, hpre, rfl, rfl⟩, q⟩ := h
    have h := ra.len
    show ws.length + 1 = 2
    rw [h]; rfl
  · obtain ⟨F, a_st, c_st, cs, s, ws, ds, r, s', rfl, w, r_st, ra, ⟨many, rfl, hpre, rfl, rfl⟩, q⟩ := h
    obtain ⟨v_many, ws, rfl, r_many, ra⟩ := ra.cons_inv
    obtain rfl := ra.nil_inv
    have st := Stp.refl w
    have hf : odds cs s many = odds cs s many := rfl
    show ZS _ _ [some (.ref a_st), some v_many] H _
    refine zs_ret st.ok (ze_cm cm_eqI (ze_callS 0 0 (ok_take T) (hr.mono (by decide)) rfl r_st (za_cons (ze_var 1 rfl r_many) za_nil) rfl ⟨many, rfl, (by /-1-/ first | omega | (simp only [List.length_append, List.length_cons, List.length_nil, List.length_map, rangeI_length]; omega)), rfl, rfl⟩) ze_int) fun v F_2 H_2 s_2 r_2 => ?_
    exact q v F_2 H_2 (by rw [hf]; exact (st.trans s_2)) (by rw [hf]; exact r_2)
/-! _law_number -/
abbrev s_number : Stmt := topS 16
theorem sc_number : FnScope ["store", "low", "high"] ["store", "low", "high"] (defScope s_number) := ⟨rfl, rfl, rfl, by decide +kernel, rfl, by decide +kernel, by decide +kernel⟩
def number_1 (cs : List Int) (low : Int) (high : Int) (s_5 : Sto) : Int × Sto :=
  ((ixL ([low, high, (low + (1 : Int)), (high - (1 : Int))] : List Int) ((take cs s_5 (4 : Int)).1)), (take cs s_5 (4 : Int)).2)
def number_2 (cs : List Int) (low : Int) (high : Int) (s_7 : Sto) : Int × Sto :=
  ((low + (take cs s_7 ((high - low) + (1 : Int))).1), (take cs s_7 ((high - low) + (1 : Int))).2)
def number (cs : List Int) (s : Sto) (low : Int) (high : Int) : Int × Sto :=
  (cond (decide (high ≤ low)) (low, s) (cond ((odds cs s (3 : Int)).1) (number_1 cs low high ((odds cs s (3 : Int)).2)) (number_2 cs low high ((odds cs s (3 : Int)).2))))
def A_number : List Int → Sto → List PyData → PyData → Sto → Prop := fun cs s ds r s' => ∃ (low : Int) (high : Int), ds = [eI low, eI high] ∧ (high - low < 2 ^ 63) ∧ r = eI (number cs s low high).1 ∧ s' = (number cs s low high).2
set_option maxHeartbeats 4000000 in
theorem ok_number {P : Program} {w : World} {K : PySem.W.Frag} {mg : Str → Option Value} {base : Heap} (T : Top K mg) : Fn P w K mg base 4 "_law_number" ["store", "low", "high"] (spS K A_number) := by
  obtain ⟨f, fd, F, gm⟩ := T.f_number
  have sc := sc_number
  refine ⟨f, fd, F.ok sc (fun vs H Q E h => ?_) (fun cdv A outer s0 H vs Q E hr h => ⟨_, PSs.nox pss_w, ?_⟩), gm, F.kp, F.bindsN (fun _ _ _ _ _ _ us hl => match us, hl with | [_, _, _], _ => rfl)⟩
  · obtain ⟨F, a_st, c_st, cs, s, ws, ds, r, s', rfl, w, rc, ra, ⟨low, high, rfl, hpre, rfl, rfl⟩, q⟩ := h
    have h := ra.len
    show ws.length + 1 = 3
    rw [h]; rfl
  · obtain ⟨F, a_st, c_st, cs, s, ws, ds, r, s', rfl, w, r_st, ra, ⟨low, high, rfl, hpre, rfl, rfl⟩, q⟩ := h
    obtain ⟨v_low, ws, rfl, r_low, ra⟩ := ra.cons_inv
    obtain ⟨v_high, ws, rfl, r_high, ra⟩ := ra.cons_inv
    obtain rfl := ra.nil_inv
    have st := Stp.refl w
    have hf : number cs s low high = number cs s low high := rfl
    show ZS _ _ [some (.ref a_st), some v_low, some v_high] H _
    refine zs_if st.ok (zt_cm cm_le (ze_var 2 rfl r_high) (ze_var 1 rfl r_low)) (fun hb F_2 H_2 s_2 => ?_) (fun hb F_2 H_2 s_2 => ?_)
    · have s_2 : Stp F [stoO a_st c_st s] H F_2 [stoO a_st c_st s] H_2 := by exact s_2
      have st := st.trans s_2
      have r_low := r_low.mono s_2.gr
      have r_high := r_high.mono s_2.gr
      have r_st := r_st.mono s_2.gr
      have hf := hf.trans (cond_t hb)
      refine zs_ret st.ok (ze_var 1 rfl r_low) fun v F_3 H_3 s_3 r_2 => ?_
      exact q v F_3 H_3 (by rw [hf]; exact (st.trans s_3)) (by rw [hf]; exact r_2)
    · have s_2 : Stp F [stoO a_st c_st s] H F_2 [stoO a_st c_st s] H_2 := by exact s_2
      have st := st.trans s_2
      have r_low := r_low.mono s_2.gr
      have r_high := r_high.mono s_2.gr
      have r_st := r_st.mono s_2.gr
      have hf := hf.trans (cond_f hb)
      refine zs_nil ?_
      show ZS _ _ [some (.ref a_st), some v_low, some v_high] H_2 _
      refine zs_if st.ok (zt_val (ze_callS 0 0 (ok_odds T) (hr.mono (by decide)) rfl r_st (za_cons ze_int za_nil) rfl ⟨(3 : Int), rfl, (by /-1-/ first | omega | (simp only [List.length_append, List.length_cons, List.length_nil, List.length_map, rangeI_length]; omega)), rfl, rfl⟩)) (fun hb_2 F_4 H_4 s_4 => ?_) (fun hb_2 F_4 H_4 s_4 => ?_)
      · obtain ⟨s_5, hx_s_5⟩ : ∃ z : Sto, z = (odds cs s (3 : Int)).2 := ⟨_, rfl⟩
        have s_4 : Stp F_2 [stoO a_st c_st s] H_2 F_4 [stoO a_st c_st s_5] H_4 := by subst hx_s_5; exact s_4
        have st := st.trans s_4
        have r_low := r_low.mono s_4.gr
        have r_high := r_high.mono s_4.gr
        have r_st := r_st.mono s_4.gr
        have hf := hf.trans (cond_t hb_2)
        have hf : number cs s low high = number_1 cs low high s_5 := by subst hx_s_5; exact hf
        have htk := take_lt (cs := cs) (s := s_5) (many := 4) (by decide)
        refine zs_ret st.ok (ze_ixLt (enc := eI) (zn_ze (zn_lstt (enc := eI) (xs := ([low, high, (low + (1 : Int)), (high - (1 : Int))] : List Int)) (za_cons (ze_var 1 rfl r_low) (za_cons (ze_var 2 rfl r_high) (za_cons (ze_add (ze_var 1 rfl r_low) ze_int) (za_cons (ze_sub (ze_var 2 rfl r_high) ze_int) za_nil)))))) (ze_callS 0 0 (ok_take T) (hr.mono (by decide)) rfl r_st (za_cons ze_int za_nil) rfl ⟨(4 : Int), rfl, (by /-2-/ first | omega | (simp only [List.length_append, List.length_cons, List.length_nil, List.length_map, rangeI_length]; omega)), rfl, rfl⟩) (by /-3-/ first | omega | (simp only [List.length_append, List.length_cons, List.length_nil, List.length_map, rangeI_length]; omega))) fun v_2 F_5 H_5 s_6 r_3 => ?_
        exact q v_2 F_5 H_5 (by rw [hf]; exact (st.trans s_6)) (by rw [hf]; exact r_3)
      · obtain ⟨s_7, hx_s_7⟩ : ∃ z : Sto, z = (odds cs s (3 : Int)).2 := ⟨_, rfl⟩
        have s_4 : Stp F_2 [stoO a_st c_st s] H_2 F_4 [stoO a_st c_st s_7] H_4 := by subst hx_s_7; exact s_4
        have st := st.trans s_4
        have r_low := r_low.mono s_4.gr
        have r_high := r_high.mono s_4.gr
        have r_st := r_st.mono s_4.gr
        have hf := hf.trans (cond_f hb_2)
        have hf : number cs s low high = number_2 cs low high s_7 := by subst hx_s_7; exact hf
        refine zs_nil ?_
        show ZS _ _ [some (.ref a_st), some v_low, some v_high] H_4 _
        refine zs_ret st.ok (ze_add (ze_var 1 rfl r_low) (ze_callS 0 0 (ok_take T) (hr.mono (by decide)) rfl r_st (za_cons (ze_add (ze_sub (ze_var 2 rfl r_high) (ze_var 1 rfl r_low)) ze_int) za_nil) rfl ⟨((high - low) + (1 : Int)), rfl, (by /-4-/ first | omega | (simp only [List.length_append, List.length_cons, List.length_nil, List.length_map, rangeI_length]; omega)), rfl, rfl⟩)) fun v_3 F_6 H_6 s_8 r_4 => ?_
        exact q v_3 F_6 H_6 (by rw [hf]; exact (st.trans s_8)) (by rw [hf]; exact r_4)

theorem number_range (cs : List Int) (s : Sto) (low high : Int) (h : low ≤ high) : low ≤ (number cs s low high).1 ∧ (number cs s low high).1 ≤ high := by
  unfold number
  by_cases h1 : high ≤ low
  · rw [cond_t (decide_eq_true h1)]; exact ⟨Int.le_refl _, by omega⟩
  · rw [cond_f (decide_eq_false h1)]
    cases hb : (odds cs s 3).1 with
    | true =>
      have ht := take_lt (cs := cs) (s := (odds cs s 3).2) (many := 4) (by decide)
      have hm := ixL_mem (xs := [low, high, low + 1, high - 1]) (i := (take cs (odds cs s 3).2 4).1) (by simp only [List.length_cons, List.length_nil]; omega)
      show low ≤ (ixL [low, high, low + 1, high - 1] (take cs (odds cs s 3).2 4).1) ∧ (ixL [low, high, low + 1, high - 1] (take cs (odds cs s 3).2 4).1) ≤ high
      simp only [List.mem_cons, List.not_mem_nil, or_false] at hm
      omega
    | false =>
      have ht := take_lt (cs := cs) (s := (odds cs s 3).2) (many := high - low + 1) (by omega)
      show low ≤ low + (take cs (odds cs s 3).2 (high - low + 1)).1 ∧ low + (take cs (odds cs s 3).2 (high - low + 1)).1 ≤ high
      omega


/-! _law_same -/
abbrev s_same : Stmt := topS 22
theorem sc_same : FnScope ["told", "due", "pairs", "step", "one", "two", "k"] ["told", "due"] (defScope s_same) := ⟨rfl, rfl, rfl, by decide +kernel, rfl, by decide +kernel, by decide +kernel⟩
def A_same : List PyData → PyData → Prop := fun ds r => ∃ d, ds = [d, d] ∧ dsz d ≤ 199999 ∧ r = .bool true
theorem len_dszL : ∀ xs : List PyData, xs.length ≤ dszL xs
  | [] => Nat.le_refl _
  | x :: xs => by
    have h1 := dsz_pos x
    have h2 := len_dszL xs
    simp only [dszL, List.length_cons]; omega
theorem dszL_one (d : PyData) : dszL [d] = dsz d := by simp [dszL]
theorem range_at {n : Int} {i : Nat} {d : PyData} (h : ((rangeI 0 n).map PyData.int)[i]? = some d) : d = .int (i : Nat) ∧ i < n.toNat := by
  rw [List.getElem?_map] at h
  unfold rangeI at h
  rw [List.getElem?_map] at h
  cases z : (List.range (n - 0).toNat)[i]? with
  | none => rw [z] at h; cases h
  | some j =>
    rw [z] at h
    obtain ⟨hl, hj⟩ := List.getElem?_eq_some_iff.mp z
    rw [List.getElem_range] at hj
    subst hj
    have h : PyData.int (0 + (i : Nat)) = d := Option.some.inj h
    rw [← h, Int.zero_add]
    rw [List.length_range] at hl
    exact ⟨rfl, by omega⟩
theorem ra_snoc {K : PySem.W.Frag} {F : Hp} {vs : List V} {ds : List PyData} {d : PyData} (h : RA K F vs (ds ++ [d])) : ∃ us v, vs = us ++ [v] ∧ RA K F us ds ∧ R K F v d := by
  have hl := h.len
  rw [List.length_append] at hl
  rcases List.eq_nil_or_concat vs with rfl | ⟨us, v, e⟩
  · simp at hl
  · rw [List.concat_eq_append] at e
    subst e
    rw [List.length_append] at hl
    have hl2 : us.length = ds.length := by simpa using hl
    refine ⟨us, v, rfl, ⟨hl2, fun i w e a b => ?_⟩, ?_⟩
    · have hi := (List.getElem?_eq_some_iff.mp a).1
      exact h.at_ i w e (by rw [List.getElem?_append_left hi]; exact a) (by rw [List.getElem?_append_left (by omega)]; exact b)
    · refine h.at_ us.length v d ?_ ?_
      · rw [List.getElem?_append_right (Nat.le_refl _), Nat.sub_self]; rfl
      · rw [hl2, List.getElem?_append_right (Nat.le_refl _), Nat.sub_self]; rfl
set_option maxHeartbeats 16000000 in
theorem ok_same {P : Program} {w : World} {K : PySem.W.Frag} {mg : Str → Option Value} {base : Heap} (T : Top K mg) : Fn P w K mg base 1 "_law_same" ["told", "due"] (spD K A_same) := by
  obtain ⟨f, fd, F, gm⟩ := T.f_same
  have sc := sc_same
  refine ⟨f, fd, F.ok sc (fun vs H Q E h => ?_) (fun cdv A outer s0 H vs Q E hr h => ⟨_, PSs.nox pss_w, ?_⟩), gm, F.kp, F.bindsN (fun _ _ _ _ _ _ us hl => match us, hl with | [_, _], _ => rfl)⟩
  · obtain ⟨F, ds, r, w, ra, ⟨d, rfl, hd, rfl⟩, q⟩ := h
    exact ra.len
  · obtain ⟨F, ds, r, w, ra, ⟨d, rfl, hd, rfl⟩, q⟩ := h
    obtain ⟨v_told, ws, rfl, r_told, ra⟩ := ra.cons_inv
    obtain ⟨v_due, ws, rfl, r_due, ra⟩ := ra.cons_inv
    obtain rfl := ra.nil_inv
    have st := Stp.refl w
    show ZS _ _ [some v_told, some v_due, none, none, none, none, none] H _
    refine zs_setN (n := 2) st.ok (zn_lst (za_cons (ze_tup (za_cons (ze_var 0 rfl r_told) (za_cons (ze_var 1 rfl r_due) za_nil))) za_nil)) sc.nd rfl (Or.inl rfl) fun p us F1 H1 hp s1 ra => ?_
    have st := st.trans s1
    show ZS _ _ [some v_told, some v_due, some (.ref p), none, none, none, none] H1 _
    refine zs_for st.ok PassesOwn.never rfl (zi_range1 T.b_range ze_int (by decide)) (fun i σ F O => ∃ (z3 z4 z5 z6 : Option V) (us : List V) (L : List PyData), σ = [some v_told, some v_due, some (.ref p), z3, z4, z5, z6] ∧ O = [(p, .lst us)] ∧ RA K F us (L.map fun d => PyData.tuple [d, d]) ∧ dszL L + i ≤ 199999) (fun F1 H1 s1 => ⟨none, none, none, none, us, [d], rfl, rfl, ra.mono s1.gr, by rw [dszL_one]; exact hd⟩) (fun i di v_step σ1 Fa Fb O1 Hb hdi _ rel g stt r_step => ?_) (fun σ1 Fb O1 Hb stt rel => ?_)
    · obtain ⟨z3, z4, z5, z6, us, L, rfl, rfl, ra, hsum⟩ := rel
      have ra := ra.mono g
      have st := st.trans stt
      have sb := Stp.refl stt.ok
      refine zg_name (n := 3) sc.nd rfl (Or.inl rfl) ?_
      show ZS _ _ [some v_told, some v_due, some (.ref p), some v_step, z4, z5, z6] Hb _
      rcases List.eq_nil_or_concat L with rfl | ⟨L, d, e⟩
      · refine zs_ifT st.ok (zt_eq (zt_not (zt_trO 2 0 rfl rfl ra)) rfl) fun F5 H5 s5 => ?_
        have st := st.trans s5
        refine zs_ret st.ok ze_bl fun v F6 H6 s6 r6 => ?_
        exact q v F6 H6 ((st.trans s6).dropAt 0) r6
      · rw [List.concat_eq_append] at e
        subst e
        refine zs_ifF st.ok (zt_eq (zt_not (zt_trO 2 0 rfl rfl ra)) (by simp)) fun F5 H5 s5 => ?_
        have sb := sb.trans s5
        have ra := ra.mono s5.gr
        refine zs_nil ?_
        show ZS _ _ [some v_told, some v_due, some (.ref p), some v_step, z4, z5, z6] H5 _
        rw [List.map_append] at ra
        obtain ⟨us, v, rfl, rb, rv⟩ := ra_snoc ra
        refine zs_asg sb.ok (ze_popO 2 0 rfl rfl rv) fun v6 F6 H6 s6 r6 => ?_
        have s6 : Stp F5 [(p, .lst (us ++ [v]))] H5 F6 [(p, .lst us)] H6 := s6
        have sb := sb.trans s6
        have rb := rb.mono s6.gr
        refine zg_tup2 (n := 4) (m := 5) (F := F6) rfl sc.nd rfl (Or.inl rfl) rfl (Or.inl rfl) r6 sb.ok fun v_one v_two r_one r_two => ?_
        show ZS _ _ [some v_told, some v_due, some (.ref p), some v_step, some v_one, some v_two, z6] H6 _
        clear s6 r6 s5 rv
        cases d with
        | none =>
          refine zs_ifT sb.ok (zt_cm cm_is (ze_var 5 rfl r_two) ze_non) fun Fx Hx sx => ?_
          have sb := sb.trans sx
          have r_one := r_one.mono sx.gr
          have r_two := r_two.mono sx.gr
          have rb := rb.mono sx.gr
          refine zs_ifF sb.ok (zt_cm cm_isnot (ze_var 4 rfl r_one) ze_non) fun Fx Hx sx => ?_
          have sb := sb.trans sx
          have r_one := r_one.mono sx.gr
          have r_two := r_two.mono sx.gr
          have rb := rb.mono sx.gr
          repeat refine zs_nil ?_
          exact ⟨_, _, sb, some v_step, some v_one, some v_two, z6, us, L, rfl, rfl, rb, by rw [dszL_app, dszL_one] at hsum; simp only [dsz] at hsum; omega⟩
        | bool b =>
          refine zs_ifF sb.ok (zt_cm cm_is (ze_var 5 rfl r_two) ze_non) fun Fx Hx sx => ?_
          have sb := sb.trans sx
          have r_one := r_one.mono sx.gr
          have r_two := r_two.mono sx.gr
          have rb := rb.mono sx.gr
          refine zs_ifT sb.ok (zt_val (ze_isi (T := "bool") (k := true) T.b_isinstance T.b_bool (ze_var 5 rfl r_two) (show kitB "bool" "bool" = some true by decide +kernel))) fun Fx Hx sx => ?_
          have sb := sb.trans sx
          have r_one := r_one.mono sx.gr
          have r_two := r_two.mono sx.gr
          have rb := rb.mono sx.gr
          refine zs_ifF sb.ok (zt_eq (zt_w (zw_or (zt_not (zt_val (ze_isi (T := "bool") (k := true) T.b_isinstance T.b_bool (ze_var 4 rfl r_one) (show kitB "bool" "bool" = some true by decide +kernel)))) fun _ => zw_or1 (zt_cm cm_neB (ze_var 4 rfl r_one) (ze_var 5 rfl r_two)))) (by simp)) fun Fx Hx sx => ?_
          have sb := sb.trans sx
          have r_one := r_one.mono sx.gr
          have r_two := r_two.mono sx.gr
          have rb := rb.mono sx.gr
          repeat refine zs_nil ?_
          exact ⟨_, _, sb, some v_step, some v_one, some v_two, z6, us, L, rfl, rfl, rb, by rw [dszL_app, dszL_one] at hsum; simp only [dsz] at hsum; omega⟩
        | int i =>
          refine zs_ifF sb.ok (zt_cm cm_is (ze_var 5 rfl r_two) ze_non) fun Fx Hx sx => ?_
          have sb := sb.trans sx
          have r_one := r_one.mono sx.gr
          have r_two := r_two.mono sx.gr
          have rb := rb.mono sx.gr
          refine zs_ifF sb.ok (zt_val (ze_isi (T := "bool") (k := false) T.b_isinstance T.b_bool (ze_var 5 rfl r_two) (show kitB "int" "bool" = some false by decide +kernel))) fun Fx Hx sx => ?_
          have sb := sb.trans sx
          have r_one := r_one.mono sx.gr
          have r_two := r_two.mono sx.gr
          have rb := rb.mono sx.gr
          refine zs_ifT sb.ok (zt_val (ze_isi (T := "int") (k := true) T.b_isinstance T.b_int (ze_var 5 rfl r_two) (show kitB "int" "int" = some true by decide +kernel))) fun Fx Hx sx => ?_
          have sb := sb.trans sx
          have r_one := r_one.mono sx.gr
          have r_two := r_two.mono sx.gr
          have rb := rb.mono sx.gr
          refine zs_ifF sb.ok (zt_eq (zt_w (zw_or (zt_not (zt_val (ze_isi (T := "int") (k := true) T.b_isinstance T.b_int (ze_var 4 rfl r_one) (show kitB "int" "int" = some true by decide +kernel)))) fun _ => zw_or (zt_val (ze_isi (T := "bool") (k := false) T.b_isinstance T.b_bool (ze_var 4 rfl r_one) (show kitB "int" "bool" = some false by decide +kernel))) fun _ => zw_or1 (zt_cm cm_neI (ze_var 4 rfl r_one) (ze_var 5 rfl r_two)))) (by simp)) fun Fx Hx sx => ?_
          have sb := sb.trans sx
          have r_one := r_one.mono sx.gr
          have r_two := r_two.mono sx.gr
          have rb := rb.mono sx.gr
          repeat refine zs_nil ?_
          exact ⟨_, _, sb, some v_step, some v_one, some v_two, z6, us, L, rfl, rfl, rb, by rw [dszL_app, dszL_one] at hsum; simp only [dsz] at hsum; omega⟩
        | str x =>
          refine zs_ifF sb.ok (zt_cm cm_is (ze_var 5 rfl r_two) ze_non) fun Fx Hx sx => ?_
          have sb := sb.trans sx
          have r_one := r_one.mono sx.gr
          have r_two := r_two.mono sx.gr
          have rb := rb.mono sx.gr
          refine zs_ifF sb.ok (zt_val (ze_isi (T := "bool") (k := false) T.b_isinstance T.b_bool (ze_var 5 rfl r_two) (show kitB "str" "bool" = some false by decide +kernel))) fun Fx Hx sx => ?_
          have sb := sb.trans sx
          have r_one := r_one.mono sx.gr
          have r_two := r_two.mono sx.gr
          have rb := rb.mono sx.gr
          refine zs_ifF sb.ok (zt_val (ze_isi (T := "int") (k := false) T.b_isinstance T.b_int (ze_var 5 rfl r_two) (show kitB "str" "int" = some false by decide +kernel))) fun Fx Hx sx => ?_
          have sb := sb.trans sx
          have r_one := r_one.mono sx.gr
          have r_two := r_two.mono sx.gr
          have rb := rb.mono sx.gr
          refine zs_ifT sb.ok (zt_val (ze_isi (T := "str") (k := true) T.b_isinstance T.b_str (ze_var 5 rfl r_two) (show kitB "str" "str" = some true by decide +kernel))) fun Fx Hx sx => ?_
          have sb := sb.trans sx
          have r_one := r_one.mono sx.gr
          have r_two := r_two.mono sx.gr
          have rb := rb.mono sx.gr
          refine zs_ifF sb.ok (zt_eq (zt_w (zw_or (zt_not (zt_val (ze_isi (T := "str") (k := true) T.b_isinstance T.b_str (ze_var 4 rfl r_one) (show kitB "str" "str" = some true by decide +kernel)))) fun _ => zw_or1 (zt_cm cm_neS (ze_var 4 rfl r_one) (ze_var 5 rfl r_two)))) (by simp)) fun Fx Hx sx => ?_
          have sb := sb.trans sx
          have r_one := r_one.mono sx.gr
          have r_two := r_two.mono sx.gr
          have rb := rb.mono sx.gr
          repeat refine zs_nil ?_
          exact ⟨_, _, sb, some v_step, some v_one, some v_two, z6, us, L, rfl, rfl, rb, by rw [dszL_app, dszL_one] at hsum; simp only [dsz] at hsum; omega⟩
        | list xs =>
          refine zs_ifF sb.ok (zt_cm cm_is (ze_var 5 rfl r_two) ze_non) fun Fx Hx sx => ?_
          have sb := sb.trans sx
          have r_one := r_one.mono sx.gr
          have r_two := r_two.mono sx.gr
          have rb := rb.mono sx.gr
          refine zs_ifF sb.ok (zt_val (ze_isi (T := "bool") (k := false) T.b_isinstance T.b_bool (ze_var 5 rfl r_two) (show kitB "list" "bool" = some false by decide +kernel))) fun Fx Hx sx => ?_
          have sb := sb.trans sx
          have r_one := r_one.mono sx.gr
          have r_two := r_two.mono sx.gr
          have rb := rb.mono sx.gr
          refine zs_ifF sb.ok (zt_val (ze_isi (T := "int") (k := false) T.b_isinstance T.b_int (ze_var 5 rfl r_two) (show kitB "list" "int" = some false by decide +kernel))) fun Fx Hx sx => ?_
          have sb := sb.trans sx
          have r_one := r_one.mono sx.gr
          have r_two := r_two.mono sx.gr
          have rb := rb.mono sx.gr
          refine zs_ifF sb.ok (zt_val (ze_isi (T := "str") (k := false) T.b_isinstance T.b_str (ze_var 5 rfl r_two) (show kitB "list" "str" = some false by decide +kernel))) fun Fx Hx sx => ?_
          have sb := sb.trans sx
          have r_one := r_one.mono sx.gr
          have r_two := r_two.mono sx.gr
          have rb := rb.mono sx.gr
          refine zs_ifF sb.ok (zt_eq (zt_w (zw_and (zt_val (ze_isi (T := "list") (k := true) T.b_isinstance T.b_list (ze_var 5 rfl r_two) (show kitB "list" "list" = some true by decide +kernel))) fun _ => zw_and1 (zt_not (zt_val (ze_isi (T := "list") (k := true) T.b_isinstance T.b_list (ze_var 4 rfl r_one) (show kitB "list" "list" = some true by decide +kernel)))))) (by rfl)) fun Fx Hx sx => ?_
          have sb := sb.trans sx
          have r_one := r_one.mono sx.gr
          have r_two := r_two.mono sx.gr
          have rb := rb.mono sx.gr
          refine zs_nil ?_
          refine zs_ifF sb.ok (zt_eq (zt_w (zw_and (zt_val (ze_isi (T := "tuple") (k := false) T.b_isinstance T.b_tuple (ze_var 5 rfl r_two) (show kitB "list" "tuple" = some false by decide +kernel))) fun _ => zw_and1 (zt_not (zt_val (ze_isi (T := "tuple") (k := false) T.b_isinstance T.b_tuple (ze_var 4 rfl r_one) (show kitB "list" "tuple" = some false by decide +kernel)))))) (by rfl)) fun Fx Hx sx => ?_
          have sb := sb.trans sx
          have r_one := r_one.mono sx.gr
          have r_two := r_two.mono sx.gr
          have rb := rb.mono sx.gr
          refine zs_nil ?_
          refine zs_ifF sb.ok (zt_eq (zt_cm cm_neI (ze_lenL T.b_len (ze_var 4 rfl r_one)) (ze_lenL T.b_len (ze_var 5 rfl r_two))) (by simp)) fun Fx Hx sx => ?_
          have sb := sb.trans sx
          have r_one := r_one.mono sx.gr
          have r_two := r_two.mono sx.gr
          have rb := rb.mono sx.gr
          refine zs_nil ?_
          have hxl : xs.length ≤ 199999 := by rw [dszL_app, dszL_one, dsz_list] at hsum; have := len_dszL xs; omega
          refine zs_for sb.ok PassesOwn.never rfl (zi_range1 T.b_range (ze_lenL T.b_len (ze_var 5 rfl r_two)) (by omega)) (fun j σ F O => ∃ (z6 : Option V) (us : List V), σ = [some v_told, some v_due, some (.ref p), some v_step, some v_one, some v_two, z6] ∧ O = [(p, .lst us)] ∧ RA K F us ((L ++ xs.take j).map fun d => PyData.tuple [d, d])) (fun F1 H1 s1 => ⟨z6, us, rfl, rfl, by rw [List.take_zero, List.append_nil]; exact rb.mono s1.gr⟩) (fun j d x σ1 Fa Fb O1 Hb hd _ rel g stt r => ?_) (fun σ1 Fb O1 Hb stt rel => ?_)
          · obtain ⟨z6, us, rfl, rfl, rb⟩ := rel
            obtain ⟨e, hj⟩ := range_at hd
            subst e
            rw [Int.toNat_natCast] at hj
            have r_one := r_one.mono stt.gr
            have r_two := r_two.mono stt.gr
            have rb := rb.mono g
            have hl := rb.len
            rw [List.length_map, List.length_append, List.length_take] at hl
            have hlt := len_dszL (L ++ [PyData.list xs])
            rw [List.length_append] at hlt
            have hlt : us.length < sizeLine := by rw [← szL]; omega
            refine zg_name (n := 6) sc.nd rfl (Or.inl rfl) ?_
            show ZS _ _ [some v_told, some v_due, some (.ref p), some v_step, some v_one, some v_two, some x] Hb _
            refine zs_append stt.ok 2 0 rfl (ze_tup (za_cons (ze_ixL (ze_var 4 rfl r_one) (ze_var 6 rfl r) (atI_nat (List.getElem?_eq_getElem hj))) (za_cons (ze_ixL (ze_var 5 rfl r_two) (ze_var 6 rfl r) (atI_nat (List.getElem?_eq_getElem hj))) za_nil))) rfl hlt fun v F5 H5 s5 r5 => ?_
            refine zs_nil ?_
            refine ⟨F5, _, s5, some x, us ++ [v], rfl, rfl, ?_⟩
            rw [List.take_add_one, List.getElem?_eq_getElem hj, ← List.append_assoc, List.map_append]
            exact (rb.mono s5.gr).snoc r5
          · obtain ⟨z6, us, rfl, rfl, rb⟩ := rel
            have sb := sb.trans stt
            repeat refine zs_nil ?_
            rw [List.length_map, rangeI_length] at rb
            have e0 : (((xs.length : Nat) : Int) - 0).toNat = xs.length := by omega
            rw [e0, List.take_length] at rb
            exact ⟨_, _, sb, some v_step, some v_one, some v_two, z6, us, L ++ xs, rfl, rfl, rb, by rw [dszL_app, dszL_one, dsz_list] at hsum; rw [dszL_app]; omega⟩
        | tuple xs =>
          refine zs_ifF sb.ok (zt_cm cm_is (ze_var 5 rfl r_two) ze_non) fun Fx Hx sx => ?_
          have sb := sb.trans sx
          have r_one := r_one.mono sx.gr
          have r_two := r_two.mono sx.gr
          have rb := rb.mono sx.gr
          refine zs_ifF sb.ok (zt_val (ze_isi (T := "bool") (k := false) T.b_isinstance T.b_bool (ze_var 5 rfl r_two) (show kitB "tuple" "bool" = some false by decide +kernel))) fun Fx Hx sx => ?_
          have sb := sb.trans sx
          have r_one := r_one.mono sx.gr
          have r_two := r_two.mono sx.gr
          have rb := rb.mono sx.gr
          refine zs_ifF sb.ok (zt_val (ze_isi (T := "int") (k := false) T.b_isinstance T.b_int (ze_var 5 rfl r_two) (show kitB "tuple" "int" = some false by decide +kernel))) fun Fx Hx sx => ?_
          have sb := sb.trans sx
          have r_one := r_one.mono sx.gr
          have r_two := r_two.mono sx.gr
          have rb := rb.mono sx.gr
          refine zs_ifF sb.ok (zt_val (ze_isi (T := "str") (k := false) T.b_isinstance T.b_str (ze_var 5 rfl r_two) (show kitB "tuple" "str" = some false by decide +kernel))) fun Fx Hx sx => ?_
          have sb := sb.trans sx
          have r_one := r_one.mono sx.gr
          have r_two := r_two.mono sx.gr
          have rb := rb.mono sx.gr
          refine zs_ifF sb.ok (zt_eq (zt_w (zw_and (zt_val (ze_isi (T := "list") (k := false) T.b_isinstance T.b_list (ze_var 5 rfl r_two) (show kitB "tuple" "list" = some false by decide +kernel))) fun _ => zw_and1 (zt_not (zt_val (ze_isi (T := "list") (k := false) T.b_isinstance T.b_list (ze_var 4 rfl r_one) (show kitB "tuple" "list" = some false by decide +kernel)))))) (by rfl)) fun Fx Hx sx => ?_
          have sb := sb.trans sx
          have r_one := r_one.mono sx.gr
          have r_two := r_two.mono sx.gr
          have rb := rb.mono sx.gr
          refine zs_nil ?_
          refine zs_ifF sb.ok (zt_eq (zt_w (zw_and (zt_val (ze_isi (T := "tuple") (k := true) T.b_isinstance T.b_tuple (ze_var 5 rfl r_two) (show kitB "tuple" "tuple" = some true by decide +kernel))) fun _ => zw_and1 (zt_not (zt_val (ze_isi (T := "tuple") (k := true) T.b_isinstance T.b_tuple (ze_var 4 rfl r_one) (show kitB "tuple" "tuple" = some true by decide +kernel)))))) (by rfl)) fun Fx Hx sx => ?_
          have sb := sb.trans sx
          have r_one := r_one.mono sx.gr
          have r_two := r_two.mono sx.gr
          have rb := rb.mono sx.gr
          refine zs_nil ?_
          refine zs_ifF sb.ok (zt_eq (zt_cm cm_neI (ze_lenT T.b_len (ze_var 4 rfl r_one)) (ze_lenT T.b_len (ze_var 5 rfl r_two))) (by simp)) fun Fx Hx sx => ?_
          have sb := sb.trans sx
          have r_one := r_one.mono sx.gr
          have r_two := r_two.mono sx.gr
          have rb := rb.mono sx.gr
          refine zs_nil ?_
          have hxl : xs.length ≤ 199999 := by rw [dszL_app, dszL_one, dsz_tuple] at hsum; have := len_dszL xs; omega
          refine zs_for sb.ok PassesOwn.never rfl (zi_range1 T.b_range (ze_lenT T.b_len (ze_var 5 rfl r_two)) (by omega)) (fun j σ F O => ∃ (z6 : Option V) (us : List V), σ = [some v_told, some v_due, some (.ref p), some v_step, some v_one, some v_two, z6] ∧ O = [(p, .lst us)] ∧ RA K F us ((L ++ xs.take j).map fun d => PyData.tuple [d, d])) (fun F1 H1 s1 => ⟨z6, us, rfl, rfl, by rw [List.take_zero, List.append_nil]; exact rb.mono s1.gr⟩) (fun j d x σ1 Fa Fb O1 Hb hd _ rel g stt r => ?_) (fun σ1 Fb O1 Hb stt rel => ?_)
          · obtain ⟨z6, us, rfl, rfl, rb⟩ := rel
            obtain ⟨e, hj⟩ := range_at hd
            subst e
            rw [Int.toNat_natCast] at hj
            have r_one := r_one.mono stt.gr
            have r_two := r_two.mono stt.gr
            have rb := rb.mono g
            have hl := rb.len
            rw [List.length_map, List.length_append, List.length_take] at hl
            have hlt := len_dszL (L ++ [PyData.tuple xs])
            rw [List.length_append] at hlt
            have hlt : us.length < sizeLine := by rw [← szL]; omega
            refine zg_name (n := 6) sc.nd rfl (Or.inl rfl) ?_
            show ZS _ _ [some v_told, some v_due, some (.ref p), some v_step, some v_one, some v_two, some x] Hb _
            refine zs_append stt.ok 2 0 rfl (ze_tup (za_cons (ze_ixT (ze_var 4 rfl r_one) (ze_var 6 rfl r) (atI_nat (List.getElem?_eq_getElem hj))) (za_cons (ze_ixT (ze_var 5 rfl r_two) (ze_var 6 rfl r) (atI_nat (List.getElem?_eq_getElem hj))) za_nil))) rfl hlt fun v F5 H5 s5 r5 => ?_
            refine zs_nil ?_
            refine ⟨F5, _, s5, some x, us ++ [v], rfl, rfl, ?_⟩
            rw [List.take_add_one, List.getElem?_eq_getElem hj, ← List.append_assoc, List.map_append]
            exact (rb.mono s5.gr).snoc r5
          · obtain ⟨z6, us, rfl, rfl, rb⟩ := rel
            have sb := sb.trans stt
            repeat refine zs_nil ?_
            rw [List.length_map, rangeI_length] at rb
            have e0 : (((xs.length : Nat) : Int) - 0).toNat = xs.length := by omega
            rw [e0, List.take_length] at rb
            exact ⟨_, _, sb, some v_step, some v_one, some v_two, z6, us, L ++ xs, rfl, rfl, rb, by rw [dszL_app, dszL_one, dsz_tuple] at hsum; rw [dszL_app]; omega⟩
        | dict kvs => exfalso; rw [dszL_app, dszL_one] at hsum; simp only [dsz] at hsum; omega
    · obtain ⟨z3, z4, z5, z6, us, L, rfl, rfl, ra, hsum⟩ := rel
      exfalso
      rw [List.length_map, rangeI_length] at hsum
      omega


theorem A_same_of {a b : PyData} (h : b = a) (hs : dsz a ≤ 199999) : A_same [a, b] (.bool true) := ⟨a, by rw [h], hs, rfl⟩

/-! _law_pick -/
abbrev s_pick : Stmt := topS 17
theorem sc_pick : FnScope ["store", "things"] ["store", "things"] (defScope s_pick) := ⟨rfl, rfl, rfl, by decide +kernel, rfl, by decide +kernel, by decide +kernel⟩
def pick (cs : List Int) (s : Sto) (things : (List PyData)) : PyData × Sto :=
  ((ixL things ((take cs s (things.length : Int)).1)), (take cs s (things.length : Int)).2)
def A_pick : List Int → Sto → List PyData → PyData → Sto → Prop := fun cs s ds r s' => ∃ (things : (List PyData)), ds = [(eL (fun d : PyData => d)) things] ∧ (1 ≤ things.length ∧ things.length < 2 ^ 63) ∧ r = (fun d : PyData => d) (pick cs s things).1 ∧ s' = (pick cs s things).2
set_option maxHeartbeats 4000000 in
theorem ok_pick {P : Program} {w : World} {K : PySem.W.Frag} {mg : Str → Option Value} {base : Heap} (T : Top K mg) : Fn P w K mg base 3 "_law_pick" ["store", "things"] (spS K A_pick) := by
  obtain ⟨f, fd, F, gm⟩ := T.f_pick
  have sc := sc_pick
  refine ⟨f, fd, F.ok sc (fun vs H Q E h => ?_) (fun cdv A outer s0 H vs Q E hr h => ⟨_, PSs.nox pss_w, ?_⟩), gm, F.kp, F.bindsN (fun _ _ _ _ _ _ us hl => match us, hl with | [_, _], _ => rfl)⟩
  · obtain ⟨F, a_st, c_st, cs, s, ws, ds, r, s', rfl, w, rc, ra, ⟨things, rfl, hpre, rfl, rfl⟩, q⟩ := h
    have h := ra.len
    show ws.length + 1 = 2
    rw [h]; rfl
  · obtain ⟨F, a_st, c_st, cs, s, ws, ds, r, s', rfl, w, r_st, ra, ⟨things, rfl, hpre, rfl, rfl⟩, q⟩ := h
    obtain ⟨v_things, ws, rfl, r_things, ra⟩ := ra.cons_inv
    obtain rfl := ra.nil_inv
    have st := Stp.refl w
    have hf : pick cs s things = pick cs s things := rfl
    show ZS _ _ [some (.ref a_st), some v_things] H _
    refine zs_ret st.ok (ze_ixLt (enc := (fun d : PyData => d)) (ze_var 1 rfl r_things) (ze_callS 0 0 (ok_take T) (hr.mono (by decide)) rfl r_st (za_cons (ze_lenLt T.b_len (ze_var 1 rfl r_things)) za_nil) rfl ⟨(things.length : Int), rfl, (by /-1-/ first | omega | (simp only [List.length_append, List.length_cons, List.length_nil, List.length_map, rangeI_length]; omega)), rfl, rfl⟩) (by /-2-/ exact ⟨by have := (take_lt (cs := cs) (s := s) (many := (things.length : Int)) (by omega)).1; omega, (take_lt (by omega)).2⟩)) fun v F_2 H_2 s_2 r_2 => ?_
    exact q v F_2 H_2 (by rw [hf]; exact (st.trans s_2)) (by rw [hf]; exact r_2)

def pickT {α : Type} [Inhabited α] (cs : List Int) (s : Sto) (xs : List α) : α × Sto := (ixL xs (take cs s (xs.length : Int)).1, (take cs s (xs.length : Int)).2)
theorem pickT_mem {α : Type} [Inhabited α] {cs : List Int} {s : Sto} {xs : List α} (h : 1 ≤ xs.length) : (pickT cs s xs).1 ∈ xs :=
  ixL_mem ⟨by have := (take_lt (cs := cs) (s := s) (many := (xs.length : Int)) (by omega)).1; omega, (take_lt (by omega)).2⟩
theorem A_pick_of {α : Type} [Inhabited α] {cs : List Int} {s : Sto} {xs : List α} (enc : α → PyData) (h : 1 ≤ xs.length ∧ xs.length < 2 ^ 63) : A_pick cs s [eL enc xs] (enc (pickT cs s xs).1) (pickT cs s xs).2 := by
  have hr : -(xs.length : Int) ≤ (take cs s (xs.length : Int)).1 ∧ (take cs s (xs.length : Int)).1 < xs.length := ⟨by have := (take_lt (cs := cs) (s := s) (many := (xs.length : Int)) (by omega)).1; omega, (take_lt (by omega)).2⟩
  refine ⟨xs.map enc, by rw [eL, eL, List.map_id'], by rw [List.length_map]; exact h, ?_, ?_⟩
  · show enc (ixL xs _) = ixL (xs.map enc) (take cs s ((xs.map enc).length : Int)).1
    rw [List.length_map]
    unfold ixL
    rw [atI_map hr, atI_in hr]; rfl
  · show _ = (take cs s ((xs.map enc).length : Int)).2
    rw [List.length_map]; rfl

/-! _law_shuffle -/
abbrev s_shuffleL : Stmt := topS 18
theorem sc_shuffleL : FnScope ["store", "things", "row", "k", "last", "at", "thing"] ["store", "things"] (defScope s_shuffleL) := ⟨rfl, rfl, rfl, by decide +kernel, rfl, by decide +kernel, by decide +kernel⟩
def shuffleL_6 (row_4 : (List PyData)) (s_7 : Sto) : ((List PyData) × Sto) :=
  (row_4, s_7)
def shuffleL_5 (row_3 : (List PyData)) (last : Int) (thing : PyData) (s_7 : Sto) : ((List PyData) × Sto) :=
  shuffleL_6 (setL row_3 last thing) s_7
def shuffleL_4 (row_2 : (List PyData)) (last : Int) (at_ : Int) (thing : PyData) (s_7 : Sto) : ((List PyData) × Sto) :=
  shuffleL_5 (setL row_2 at_ (ixL row_2 last)) last thing s_7
def shuffleL_3 (row_2 : (List PyData)) (last : Int) (at_ : Int) (s_7 : Sto) : ((List PyData) × Sto) :=
  shuffleL_4 row_2 last at_ (ixL row_2 at_) s_7
def shuffleL_2 (cs : List Int) (row_2 : (List PyData)) (last : Int) (s_4 : Sto) : ((List PyData) × Sto) :=
  shuffleL_3 row_2 last ((take cs s_4 (last + (1 : Int))).1) ((take cs s_4 (last + (1 : Int))).2)
def shuffleL_L1b (cs : List Int) (things : (List PyData)) (row_2 : (List PyData)) (s_4 : Sto) (k : Int) : ((List PyData) × Sto) :=
  shuffleL_2 cs row_2 (((things.length : Int) - (1 : Int)) - k) s_4
def shuffleL_L1 (cs : List Int) (things : (List PyData)) (b : ((List PyData) × Sto)) (a : Int) : ((List PyData) × Sto) :=
  shuffleL_L1b cs things b.1 b.2 a
def shuffleL_7 (b : ((List PyData) × Sto)) : (List PyData) × Sto :=
  (b.1, b.2)
def shuffleL_1 (cs : List Int) (things : (List PyData)) (row : (List PyData)) (s : Sto) : (List PyData) × Sto :=
  shuffleL_7 (List.foldl (shuffleL_L1 cs things) (row, s) (rangeI 0 ((things.length : Int) - (1 : Int))))
def shuffleL (cs : List Int) (s : Sto) (things : (List PyData)) : (List PyData) × Sto :=
  shuffleL_1 cs things things s
def A_shuffleL : List Int → Sto → List PyData → PyData → Sto → Prop := fun cs s ds r s' => ∃ (things : (List PyData)), ds = [(eL (fun d : PyData => d)) things] ∧ (things.length < 2 ^ 23) ∧ r = (eL (fun d : PyData => d)) (shuffleL cs s things).1 ∧ s' = (shuffleL cs s things).2
set_option maxHeartbeats 4000000 in
theorem ok_shuffleL {P : Program} {w : World} {K : PySem.W.Frag} {mg : Str → Option Value} {base : Heap} (T : Top K mg) : Fn P w K mg base 3 "_law_shuffle" ["store", "things"] (spS K A_shuffleL) := by
  obtain ⟨f, fd, F, gm⟩ := T.f_shuffleL
  have sc := sc_shuffleL
  refine ⟨f, fd, F.ok sc (fun vs H Q E h => ?_) (fun cdv A outer s0 H vs Q E hr h => ⟨_, PSs.nox pss_w, ?_⟩), gm, F.kp, F.bindsN (fun _ _ _ _ _ _ us hl => match us, hl with | [_, _], _ => rfl)⟩
  · obtain ⟨F, a_st, c_st, cs, s, ws, ds, r, s', rfl, w, rc, ra, ⟨things, rfl, hpre, rfl, rfl⟩, q⟩ := h
    have h := ra.len
    show ws.length + 1 = 2
    rw [h]; rfl
  · obtain ⟨F, a_st, c_st, cs, s, ws, ds, r, s', rfl, w, r_st, ra, ⟨things, rfl, hpre, rfl, rfl⟩, q⟩ := h
    obtain ⟨v_things, ws, rfl, r_things, ra⟩ := ra.cons_inv
    obtain rfl := ra.nil_inv
    have st := Stp.refl w
    have hf : shuffleL cs s things = shuffleL cs s things := rfl
    show ZS _ _ [some (.ref a_st), some v_things, none, none, none, none, none] H _
    refine zs_setN (n := 2) st.ok (zn_list T.b_list (ze_var 1 rfl r_things)) sc.nd rfl (by first | exact Or.inl rfl | exact Or.inr rfl) fun p_row us_row F_2 H_2 hp_2 s_2 r_row => ?_
    obtain ⟨row, hx_row⟩ : ∃ z : (List PyData), z = things := ⟨_, rfl⟩
    have hn := st.newAt hp_2
    have s_2 : Stp F [stoO a_st c_st s] H F_2 [(p_row, .lst us_row), stoO a_st c_st s] H_2 := by exact s_2
    have r_row : RA K F_2 us_row (row.map (fun d : PyData => d)) := by subst hx_row; exact r_row
    have st := st.trans s_2
    have r_things := r_things.mono s_2.gr
    have r_st := r_st.mono s_2.gr
    show ZS _ _ [some (.ref a_st), some v_things, some (.ref p_row), none, none, none, none] H_2 _
    have hf : shuffleL cs s things = shuffleL_1 cs things row s := by subst hx_row; exact hf
    refine zs_forF (f := (shuffleL_L1 cs things)) (b0 := (row, s)) st.ok PassesOwn.never rfl (zi_range1 T.b_range (ze_sub (ze_lenLt T.b_len (ze_var 1 rfl r_things)) ze_int) (by /-1-/ first | (first | omega | (simp only [List.length_append, List.length_cons, List.length_nil, List.length_map, rangeI_length]; omega)) | (first | omega | (rw [hx_row_3, setL_length]; omega) | (rw [← szL]; omega)))) (fun iq b σ F O => ∃ (z1 : Option V) (z2 : Option V) (z3 : Option V) (z4 : Option V) (w5 : List V), σ = [some (.ref a_st), some v_things, some (.ref p_row), z1, z2, z3, z4] ∧ O = [(p_row, .lst w5), stoO a_st c_st b.2] ∧ RA K F w5 (b.1.map (fun d : PyData => d)) ∧ (b.1.length = things.length)) (fun F_13 H_11 s_14 => ⟨none, none, none, none, us_row, rfl, rfl, r_row.mono s_14.gr, by rw [hx_row]⟩) (fun i b k v σ F_3 F_4 O_2 H_3 ha hbe hz rel g s_3 r_2 => ?_) (fun σ_2 F_10 O_3 H_9 s_12 rel_2 => ?_)
    · skip
      obtain ⟨row_2, s_4⟩ := b
      obtain ⟨z_k, z_last, z_at, z_thing, us_row_2, rfl, rfl, r_row_2, hinv⟩ := rel
      have r_row_2 : RA K _ us_row_2 (row_2.map (fun d : PyData => d)) := r_row_2
      have st := st.trans s_3
      have r_things := r_things.mono s_3.gr
      have r_st := r_st.mono s_3.gr
      have r_row_2 := r_row_2.mono g
      have hinv : row_2.length = things.length := hinv
      have hlt_i := (List.getElem?_eq_some_iff.mp ha).1
      rw [rangeI_length] at hlt_i
      have hat_i := rangeI_at ha
      have sb : Stp F_4 [(p_row, .lst us_row_2), stoO a_st c_st s_4] H_3 F_4 [(p_row, .lst us_row_2), stoO a_st c_st s_4] H_3 := Stp.refl st.ok
      have hfb : shuffleL_L1 cs things (row_2, s_4) k = shuffleL_L1b cs things row_2 s_4 k := rfl
      refine zg_name (n := 3) sc.nd rfl (by first | exact Or.inl rfl | exact Or.inr rfl) ?_
      show ZS _ _ [some (.ref a_st), some v_things, some (.ref p_row), some v, z_last, z_at, z_thing] H_3 _
      refine zs_set (n := 4) st.ok (ze_sub (ze_sub (ze_lenLt T.b_len (ze_var 1 rfl r_things)) ze_int) (ze_var 3 rfl r_2)) sc.nd rfl (by first | exact Or.inl rfl | exact Or.inr rfl) fun v_last F_5 H_4 s_5 r_last => ?_
      obtain ⟨last, hx_last⟩ : ∃ z : Int, z = (((things.length : Int) - (1 : Int)) - k) := ⟨_, rfl⟩
      have s_5 : Stp F_4 [(p_row, .lst us_row_2), stoO a_st c_st s_4] H_3 F_5 [(p_row, .lst us_row_2), stoO a_st c_st s_4] H_4 := by exact s_5
      have r_last : R K F_5 v_last (eI last) := by subst hx_last; exact r_last
      have st := st.trans s_5
      have sb := sb.trans s_5
      have r_things := r_things.mono s_5.gr
      have r_st := r_st.mono s_5.gr
      have r_row_2 := r_row_2.mono s_5.gr
      have r_2 := r_2.mono s_5.gr
      show ZS _ _ [some (.ref a_st), some v_things, some (.ref p_row), some v, some v_last, z_at, z_thing] H_4 _
      have hfb : shuffleL_L1 cs things (row_2, s_4) k = shuffleL_2 cs row_2 last s_4 := by subst hx_last; exact hfb
      refine zs_set (n := 5) st.ok (ze_callS 0 1 (ok_take T) (hr.mono (by decide)) rfl r_st (za_cons (ze_add (ze_var 4 rfl r_last) ze_int) za_nil) rfl ⟨(last + (1 : Int)), rfl, (by /-2-/ first | (first | omega | (simp only [List.length_append, List.length_cons, List.length_nil, List.length_map, rangeI_length]; omega)) | (first | omega | (rw [hx_row_3, setL_length]; omega) | (rw [← szL]; omega))), rfl, rfl⟩) sc.nd rfl (by first | exact Or.inl rfl | exact Or.inr rfl) fun v_at F_6 H_5 s_6 r_at => ?_
      obtain ⟨at_, hx_at_⟩ : ∃ z : Int, z = (take cs s_4 (last + (1 : Int))).1 := ⟨_, rfl⟩
      obtain ⟨s_7, hx_s_7⟩ : ∃ z : Sto, z = (take cs s_4 (last + (1 : Int))).2 := ⟨_, rfl⟩
      have s_6 : Stp F_5 [(p_row, .lst us_row_2), stoO a_st c_st s_4] H_4 F_6 [(p_row, .lst us_row_2), stoO a_st c_st s_7] H_5 := by subst hx_s_7; exact s_6
      have r_at : R K F_6 v_at (eI at_) := by subst hx_at_; exact r_at
      have st := st.trans s_6
      have sb := sb.trans s_6
      have r_things := r_things.mono s_6.gr
      have r_st := r_st.mono s_6.gr
      have r_row_2 := r_row_2.mono s_6.gr
      have r_2 := r_2.mono s_6.gr
      have r_last := r_last.mono s_6.gr
      show ZS _ _ [some (.ref a_st), some v_things, some (.ref p_row), some v, some v_last, some v_at, z_thing] H_5 _
      have hfb : shuffleL_L1 cs things (row_2, s_4) k = shuffleL_3 row_2 last at_ s_7 := by subst hx_at_; subst hx_s_7; exact hfb
      have htk : 0 ≤ at_ ∧ at_ < last + 1 := by rw [hx_at_]; exact take_lt (by omega)
      refine zs_set (n := 6) st.ok (ze_ixOt (enc := (fun d : PyData => d)) 2 0 rfl (ze_var 5 rfl r_at) rfl r_row_2 (by /-3-/ first | (first | omega | (simp only [List.length_append, List.length_cons, List.length_nil, List.length_map, rangeI_length]; omega)) | (first | omega | (rw [hx_row_3, setL_length]; omega) | (rw [← szL]; omega)))) sc.nd rfl (by first | exact Or.inl rfl | exact Or.inr rfl) fun v_thing F_7 H_6 s_8 r_thing => ?_
      obtain ⟨thing, hx_thing⟩ : ∃ z : PyData, z = (ixL row_2 at_) := ⟨_, rfl⟩
      have s_8 : Stp F_6 [(p_row, .lst us_row_2), stoO a_st c_st s_7] H_5 F_7 [(p_row, .lst us_row_2), stoO a_st c_st s_7] H_6 := by exact s_8
      have r_thing : R K F_7 v_thing ((fun d : PyData => d) thing) := by subst hx_thing; exact r_thing
      have st := st.trans s_8
      have sb := sb.trans s_8
      have r_things := r_things.mono s_8.gr
      have r_st := r_st.mono s_8.gr
      have r_row_2 := r_row_2.mono s_8.gr
      have r_2 := r_2.mono s_8.gr
      have r_last := r_last.mono s_8.gr
      have r_at := r_at.mono s_8.gr
      show ZS _ _ [some (.ref a_st), some v_things, some (.ref p_row), some v, some v_last, some v_at, some v_thing] H_6 _
      have hfb : shuffleL_L1 cs things (row_2, s_4) k = shuffleL_4 row_2 last at_ thing s_7 := by subst hx_thing; exact hfb
      obtain ⟨q_2, hq, q_2_lt⟩ : ∃ q, ixN row_2.length at_ = some q ∧ q < row_2.length := ixN_in (by /-5-/ first | (first | omega | (simp only [List.length_append, List.length_cons, List.length_nil, List.length_map, rangeI_length]; omega)) | (first | omega | (rw [hx_row_3, setL_length]; omega) | (rw [← szL]; omega)))
      have hl : (us_row_2).length = row_2.length := by have h := r_row_2.len; exact h.trans (by rw [List.length_map])
      refine zs_setItem (q := q_2) st.ok 2 0 rfl (ze_ixOt (enc := (fun d : PyData => d)) 2 0 rfl (ze_var 4 rfl r_last) rfl r_row_2 (by /-4-/ first | (first | omega | (simp only [List.length_append, List.length_cons, List.length_nil, List.length_map, rangeI_length]; omega)) | (first | omega | (rw [hx_row_3, setL_length]; omega) | (rw [← szL]; omega)))) (ze_var 5 rfl r_at) rfl (by rw [hl]; exact hq) fun v_2 F_8 H_7 s_9 r_3 => ?_
      obtain ⟨row_3, hx_row_3⟩ : ∃ z : (List PyData), z = setL row_2 at_ (ixL row_2 last) := ⟨_, rfl⟩
      obtain ⟨us_row_3, hus_row_3⟩ : ∃ z, z = us_row_2.set q_2 v_2 := ⟨_, rfl⟩
      have s_9 : Stp F_7 [(p_row, .lst us_row_2), stoO a_st c_st s_7] H_6 F_8 [(p_row, .lst us_row_3), stoO a_st c_st s_7] H_7 := by subst hus_row_3; exact s_9
      have r_row_3 : RA K F_8 us_row_3 (row_3.map (fun d : PyData => d)) := by rw [hus_row_3, hx_row_3, setL_eq hq, List.map_set]; exact (r_row_2.mono s_9.gr).set r_3
      have st := st.trans s_9
      have sb := sb.trans s_9
      have r_things := r_things.mono s_9.gr
      have r_st := r_st.mono s_9.gr
      have r_2 := r_2.mono s_9.gr
      have r_last := r_last.mono s_9.gr
      have r_at := r_at.mono s_9.gr
      have r_thing := r_thing.mono s_9.gr
      show ZS _ _ [some (.ref a_st), some v_things, some (.ref p_row), some v, some v_last, some v_at, some v_thing] H_7 _
      have hfb : shuffleL_L1 cs things (row_2, s_4) k = shuffleL_5 row_3 last thing s_7 := by subst hx_row_3; exact hfb
      obtain ⟨q_3, hq_2, q_3_lt⟩ : ∃ q, ixN row_3.length last = some q ∧ q < row_3.length := ixN_in (by /-6-/ first | (first | omega | (simp only [List.length_append, List.length_cons, List.length_nil, List.length_map, rangeI_length]; omega)) | (first | omega | (rw [hx_row_3, setL_length]; omega) | (rw [← szL]; omega)))
      have hl_2 : (us_row_3).length = row_3.length := by have h := r_row_3.len; exact h.trans (by rw [List.length_map])
      refine zs_setItem (q := q_3) st.ok 2 0 rfl (ze_var 6 rfl r_thing) (ze_var 4 rfl r_last) rfl (by rw [hl_2]; exact hq_2) fun v_3 F_9 H_8 s_10 r_4 => ?_
      obtain ⟨row_4, hx_row_4⟩ : ∃ z : (List PyData), z = setL row_3 last thing := ⟨_, rfl⟩
      obtain ⟨us_row_4, hus_row_4⟩ : ∃ z, z = us_row_3.set q_3 v_3 := ⟨_, rfl⟩
      have s_10 : Stp F_8 [(p_row, .lst us_row_3), stoO a_st c_st s_7] H_7 F_9 [(p_row, .lst us_row_4), stoO a_st c_st s_7] H_8 := by subst hus_row_4; exact s_10
      have r_row_4 : RA K F_9 us_row_4 (row_4.map (fun d : PyData => d)) := by rw [hus_row_4, hx_row_4, setL_eq hq_2, List.map_set]; exact (r_row_3.mono s_10.gr).set r_4
      have st := st.trans s_10
      have sb := sb.trans s_10
      have r_things := r_things.mono s_10.gr
      have r_st := r_st.mono s_10.gr
      have r_2 := r_2.mono s_10.gr
      have r_last := r_last.mono s_10.gr
      have r_at := r_at.mono s_10.gr
      have r_thing := r_thing.mono s_10.gr
      show ZS _ _ [some (.ref a_st), some v_things, some (.ref p_row), some v, some v_last, some v_at, some v_thing] H_8 _
      have hfb : shuffleL_L1 cs things (row_2, s_4) k = shuffleL_6 row_4 s_7 := by subst hx_row_4; exact hfb
      refine zs_nil ?_
      exact ⟨_, _, sb, by (try rw [hfb]); exact ⟨some v, some v_last, some v_at, some v_thing, us_row_4, rfl, rfl, r_row_4, (show row_4.length = things.length from by rw [hx_row_4, setL_length, hx_row_3, setL_length]; exact hinv)⟩⟩
    · skip
      obtain ⟨b_2, hb⟩ : ∃ z : ((List PyData) × Sto), z = List.foldl (shuffleL_L1 cs things) (row, s) (rangeI 0 ((things.length : Int) - (1 : Int))) := ⟨_, rfl⟩
      try rw [← hb] at rel_2
      obtain ⟨row_5, s_11⟩ := b_2
      obtain ⟨z_k_2, z_last_2, z_at_2, z_thing_2, us_row_5, rfl, rfl, r_row_5, hinv_2⟩ := rel_2
      have r_row_5 : RA K _ us_row_5 (row_5.map (fun d : PyData => d)) := r_row_5
      have st := st.trans s_12
      have r_things := r_things.mono s_12.gr
      have r_st := r_st.mono s_12.gr
      have hinv_2 : row_5.length = things.length := hinv_2
      have hf : shuffleL cs s things = shuffleL_7 (row_5, s_11) := by rw [hb]; exact hf
      show ZS _ _ [some (.ref a_st), some v_things, some (.ref p_row), z_k_2, z_last_2, z_at_2, z_thing_2] H_9 _
      have gz : Gr F_10 (upd F_10 p_row (.lst us_row_5)) := Gr.upd (st.ok.at_ (k := 0) rfl).2
      have r_row_6 : R K (upd F_10 p_row (.lst us_row_5)) (.ref p_row) (eL (fun d : PyData => d) row_5) := (r_row_5.mono gz).lst upd_same
      have st : Stp _ _ _ (upd F_10 p_row (.lst us_row_5)) [stoO a_st c_st s_11] H_9 := st.freezeAt 0 rfl hn
      have r_things := r_things.mono gz
      have r_st := r_st.mono gz
      show ZS _ _ [some (.ref a_st), some v_things, some (.ref p_row), z_k_2, z_last_2, z_at_2, z_thing_2] H_9 _
      refine zs_ret st.ok (ze_var 2 rfl r_row_6) fun v_4 F_12 H_10 s_13 r_5 => ?_
      exact q v_4 F_12 H_10 (by rw [hf]; exact (st.trans s_13)) (by rw [hf]; exact r_5)
def shufStep {α : Type} [Inhabited α] (cs : List Int) (n : Int) (b : List α × Sto) (k : Int) : List α × Sto :=
  (setL (setL b.1 (take cs b.2 (n - 1 - k + 1)).1 (ixL b.1 (n - 1 - k))) (n - 1 - k) (ixL b.1 (take cs b.2 (n - 1 - k + 1)).1), (take cs b.2 (n - 1 - k + 1)).2)
def shufT {α : Type} [Inhabited α] (cs : List Int) (s : Sto) (xs : List α) : List α × Sto := (rangeI 0 ((xs.length : Int) - 1)).foldl (shufStep cs (xs.length : Int)) (xs, s)
theorem setL_map {α : Type} {f : α → PyData} {xs : List α} {i : Int} {v : α} : setL (xs.map f) i (f v) = (setL xs i v).map f := by
  unfold setL
  rw [List.length_map]
  cases ixN xs.length i with
  | none => rfl
  | some q => exact List.map_set.symm
theorem ixL_map {α : Type} [Inhabited α] {f : α → PyData} {xs : List α} {i : Int} (h : -(xs.length : Int) ≤ i ∧ i < xs.length) : ixL (xs.map f) i = f (ixL xs i) := by
  have h1 := atI_map (e := f) h
  unfold ixL at h1 ⊢
  rw [h1]; rfl
theorem ixL_at {α : Type} [Inhabited α] {xs : List α} {q : Nat} (h : q < xs.length) : ixL xs (q : Int) = xs[q] := by
  unfold ixL atI
  have : ixN xs.length (q : Int) = some q := by
    unfold ixN
    rw [if_pos (by omega), if_pos (by omega), Int.toNat_natCast]
  rw [this]
  simp [h]
theorem setL_at {α : Type} {xs : List α} {q : Nat} {v : α} (h : q < xs.length) : setL xs (q : Int) v = xs.set q v := by
  refine setL_eq ?_
  unfold ixN
  rw [if_pos (by omega), if_pos (by omega), Int.toNat_natCast]
theorem shufStep_perm {α : Type} [Inhabited α] {cs : List Int} {n k : Int} {b : List α × Sto} (hb : (b.1.length : Int) = n) (hk : 0 ≤ k ∧ k < n - 1) : (shufStep cs n b k).1.Perm b.1 := by
  have ht := take_lt (cs := cs) (s := b.2) (many := n - 1 - k + 1) (by omega)
  unfold shufStep
  generalize (take cs b.2 (n - 1 - k + 1)).1 = a at ht
  obtain ⟨i, rfl⟩ := Int.eq_ofNat_of_zero_le ht.1
  obtain ⟨j, hj⟩ := Int.eq_ofNat_of_zero_le (a := n - 1 - k) (by omega)
  rw [hj]
  have hi : i < b.1.length := by omega
  have hjl : j < b.1.length := by omega
  show (setL (setL b.1 (i : Int) (ixL b.1 (j : Int))) (j : Int) (ixL b.1 (i : Int))).Perm b.1
  rw [setL_at (xs := b.1) hi, setL_at (by rw [List.length_set]; exact hjl), ixL_at hi, ixL_at hjl]
  exact List.set_set_perm hi hjl
theorem shufT_perm {α : Type} [Inhabited α] {cs : List Int} {s : Sto} {xs : List α} : (shufT cs s xs).1.Perm xs := by
  unfold shufT
  refine foldl_inv (fun b : List α × Sto => b.1.Perm xs) (List.Perm.refl _) fun b k hk h => ?_
  exact (shufStep_perm (by rw [h.length_eq]) (rangeI_mem.mp hk)).trans h
theorem shuf_map {α : Type} [Inhabited α] {cs : List Int} {s : Sto} {xs : List α} (enc : α → PyData) : shuffleL cs s (xs.map enc) = ((shufT cs s xs).1.map enc, (shufT cs s xs).2) := by
  have key : ∀ (ks : List Int) (row : List α) (st : Sto), (∀ k ∈ ks, 0 ≤ k ∧ k < (xs.length : Int) - 1) → row.length = xs.length → ks.foldl (shuffleL_L1 cs (xs.map enc)) (row.map enc, st) = ((ks.foldl (shufStep cs (xs.length : Int)) (row, st)).1.map enc, (ks.foldl (shufStep cs (xs.length : Int)) (row, st)).2) := fun ks => by
    induction ks with
    | nil => intro row st _ _; rfl
    | cons k ks ih =>
      intro row st hk hl
      have h0 := hk k List.mem_cons_self
      have ht := take_lt (cs := cs) (s := st) (many := (xs.length : Int) - 1 - k + 1) (by omega)
      have e : shuffleL_L1 cs (xs.map enc) (row.map enc, st) k = ((shufStep cs (xs.length : Int) (row, st) k).1.map enc, (shufStep cs (xs.length : Int) (row, st) k).2) := by
        show (setL (setL (row.map enc) (take cs st (((xs.map enc).length : Int) - 1 - k + 1)).1 (ixL (row.map enc) (((xs.map enc).length : Int) - 1 - k))) (((xs.map enc).length : Int) - 1 - k) (ixL (row.map enc) (take cs st (((xs.map enc).length : Int) - 1 - k + 1)).1), (take cs st (((xs.map enc).length : Int) - 1 - k + 1)).2) = _
        rw [List.length_map, ixL_map (by omega), ixL_map (by omega), setL_map, setL_map]
        rfl
      rw [List.foldl_cons, List.foldl_cons, e]
      have := ih (shufStep cs (xs.length : Int) (row, st) k).1 (shufStep cs (xs.length : Int) (row, st) k).2 (fun k' h => hk k' (List.mem_cons_of_mem _ h)) (by
        show (setL (setL row _ _) _ _).length = _
        rw [setL_length, setL_length]; exact hl)
      exact this
  show ((List.foldl (shuffleL_L1 cs (xs.map enc)) (xs.map enc, s) (rangeI 0 (((xs.map enc).length : Int) - 1))).1, (List.foldl (shuffleL_L1 cs (xs.map enc)) (xs.map enc, s) (rangeI 0 (((xs.map enc).length : Int) - 1))).2) = _
  rw [List.length_map, key _ xs s (fun k hk => rangeI_mem.mp hk) rfl]
  rfl
theorem A_shuf_of {α : Type} [Inhabited α] {cs : List Int} {s : Sto} {xs : List α} (enc : α → PyData) (h : xs.length < 2 ^ 23) : A_shuffleL cs s [eL enc xs] (eL enc (shufT cs s xs).1) (shufT cs s xs).2 := by
  refine ⟨xs.map enc, by show [PyData.list _] = [PyData.list _]; rw [List.map_id'], by rw [List.length_map]; exact h, ?_, ?_⟩
  · show PyData.list _ = PyData.list ((shuffleL cs s (xs.map enc)).1.map fun d => d)
    rw [List.map_id', shuf_map]
  · rw [shuf_map]
theorem get_pos {m : List (Int × Int)} {k : Int} (h : (0 : Int) < (getM m k).getD 0) : (getM m k).isSome = true := by
  cases e : getM m k with
  | none => rw [e] at h; exact absurd h (by decide)
  | some a => rfl
theorem putM_snd {α : Type} {Q : α → Prop} {m : List (Int × α)} {k : Int} {a : α} (h : ∀ p ∈ m, Q p.2) (ha : Q a) : ∀ p ∈ putM m k a, Q p.2 := by
  intro p hp
  unfold putM at hp
  split at hp
  · obtain ⟨q, hq, e⟩ := List.mem_map.mp hp
    rw [← e]
    by_cases g : q.1 = k
    · rw [if_pos g]; exact ha
    · rw [if_neg g]; exact h q hq
  · rcases List.mem_append.mp hp with z | z
    · exact h p z
    · rw [List.mem_singleton.mp z]; exact ha

/-! remaining -/
abbrev s_remainingP : Stmt := topS 1
theorem sc_remainingP : FnScope ["first", "second", "away", "thing", "told"] ["first", "second"] (defScope s_remainingP) := ⟨rfl, rfl, rfl, by decide +kernel, rfl, by decide +kernel, by decide +kernel⟩
def remainingP_2 (away_3 : (List (Int × Int))) : ((List (Int × Int))) :=
  away_3
def remainingP_L1b (away_2 : (List (Int × Int))) (thing : Int) : ((List (Int × Int))) :=
  remainingP_2 (putM away_2 thing (((getM away_2 thing).getD (0 : Int)) + (1 : Int)))
def remainingP_L1 (b : ((List (Int × Int)))) (a : Int) : ((List (Int × Int))) :=
  remainingP_L1b b a
def remainingP_5 (away_6 : (List (Int × Int))) (told_2 : (List Int)) : ((List (Int × Int)) × (List Int)) :=
  (away_6, told_2)
def remainingP_6 (away_5 : (List (Int × Int))) (told_3 : (List Int)) : ((List (Int × Int)) × (List Int)) :=
  (away_5, told_3)
def remainingP_L2b (away_5 : (List (Int × Int))) (told_2 : (List Int)) (thing_2 : Int) : ((List (Int × Int)) × (List Int)) :=
  (cond (decide ((0 : Int) < ((getM away_5 thing_2).getD (0 : Int)))) (remainingP_5 (putM away_5 thing_2 (((getM away_5 thing_2).getD default) - (1 : Int))) told_2) (remainingP_6 away_5 (told_2 ++ [thing_2])))
def remainingP_L2 (b : ((List (Int × Int)) × (List Int))) (a : Int) : ((List (Int × Int)) × (List Int)) :=
  remainingP_L2b b.1 b.2 a
def remainingP_7 (b : ((List (Int × Int)) × (List Int))) : (List Int) :=
  b.2
def remainingP_4 (first : (List Int)) (away_4 : (List (Int × Int))) (told : (List Int)) : (List Int) :=
  remainingP_7 (List.foldl remainingP_L2 (away_4, told) first)
def remainingP_3 (first : (List Int)) (b : ((List (Int × Int)))) : (List Int) :=
  remainingP_4 first b ([] : List Int)
def remainingP_1 (first : (List Int)) (second : (List Int)) (away : (List (Int × Int))) : (List Int) :=
  (remainingP_3 first) (List.foldl remainingP_L1 away second)
def remainingP (first : (List Int)) (second : (List Int)) : (List Int) :=
  remainingP_1 first second ([] : (List (Int × Int)))
def A_remainingP : List PyData → List PyData → Prop := fun ds r => ∃ (first : (List Int)) (second : (List Int)), ds = [(eL eI) first, (eL eI) second] ∧ (first.length < 2 ^ 20 ∧ second.length < 2 ^ 20) ∧ r = (remainingP first second).map eI
set_option maxHeartbeats 4000000 in
theorem ok_remainingP {P : Program} {w : World} {K : PySem.W.Frag} {mg : Str → Option Value} {base : Heap} (T : Top K mg) : Fn P w K mg base 1 "remaining" ["first", "second"] (spN K A_remainingP) := by
  obtain ⟨f, fd, F, gm⟩ := T.f_remainingP
  have sc := sc_remainingP
  refine ⟨f, fd, F.ok sc (fun vs H Q E h => ?_) (fun cdv A outer s0 H vs Q E hr h => ⟨_, PSs.nox pss_w, ?_⟩), gm, F.kp, F.bindsN (fun _ _ _ _ _ _ us hl => match us, hl with | [_, _], _ => rfl)⟩
  · obtain ⟨F, ds, r, w, ra, ⟨first, second, rfl, hpre, rfl⟩, q⟩ := h
    exact ra.len
  · obtain ⟨F, ds, r, w, ra, ⟨first, second, rfl, hpre, rfl⟩, q⟩ := h
    obtain ⟨v_first, ws, rfl, r_first, ra⟩ := ra.cons_inv
    obtain ⟨v_second, ws, rfl, r_second, ra⟩ := ra.cons_inv
    obtain rfl := ra.nil_inv
    have st := Stp.refl w
    have hf : remainingP first second = remainingP first second := rfl
    show ZS _ _ [some v_first, some v_second, none, none, none] H _
    refine zs_setM (n := 2) st.ok (zm_new (kk := kI) (enc := eI)) sc.nd rfl (by first | exact Or.inl rfl | exact Or.inr rfl) fun p_away us_away F_2 H_2 hp_2 s_2 r_away => ?_
    obtain ⟨away, hx_away⟩ : ∃ z : (List (Int × Int)), z = ([] : (List (Int × Int))) := ⟨_, rfl⟩
    have hn := st.newAt hp_2
    have s_2 : Stp F [] H F_2 [(p_away, .dK us_away)] H_2 := by exact s_2
    have r_away : RM K F_2 kI eI us_away away := by subst hx_away; exact r_away
    have st := st.trans s_2
    have r_first := r_first.mono s_2.gr
    have r_second := r_second.mono s_2.gr
    show ZS _ _ [some v_first, some v_second, some (.ref p_away), none, none] H_2 _
    have hf : remainingP first second = remainingP_1 first second away := by subst hx_away; exact hf
    refine zs_forF (f := remainingP_L1) (b0 := away) st.ok PassesOwn.never rfl (zi_list (ze_var 1 rfl r_second)) (fun iq b σ F O => ∃ (z1 : Option V) (w2 : List (Key × V)), σ = [some v_first, some v_second, some (.ref p_away), z1, none] ∧ O = [(p_away, .dK w2)] ∧ RM K F kI eI w2 b ∧ (b.length ≤ iq)) (fun F_15 H_13 s_13 => ⟨none, us_away, rfl, rfl, r_away.mono s_13.gr, by rw [hx_away]; exact Nat.zero_le _⟩) (fun i b thing v σ F_3 F_4 O_2 H_3 ha hbe hz rel g s_3 r_2 => ?_) (fun σ_2 F_6 O_3 H_5 s_5 rel_2 => ?_)
    · skip
      obtain ⟨away_2, rfl⟩ : ∃ z, z = b := ⟨_, rfl⟩
      obtain ⟨z_thing, us_away_2, rfl, rfl, r_away_2, hinv⟩ := rel
      have r_away_2 : RM K _ kI eI us_away_2 away_2 := r_away_2
      have st := st.trans s_3
      have r_first := r_first.mono s_3.gr
      have r_second := r_second.mono s_3.gr
      have r_away_2 := r_away_2.mono g
      have hinv : away_2.length ≤ i := hinv
      have hlt_i := (List.getElem?_eq_some_iff.mp ha).1
      have sb : Stp F_4 [(p_away, .dK us_away_2)] H_3 F_4 [(p_away, .dK us_away_2)] H_3 := Stp.refl st.ok
      have hfb : remainingP_L1 away_2 thing = remainingP_L1b away_2 thing := rfl
      refine zg_name (n := 3) sc.nd rfl (by first | exact Or.inl rfl | exact Or.inr rfl) ?_
      show ZS _ _ [some v_first, some v_second, some (.ref p_away), some v, none] H_3 _
      have gl : Gr F_4 (upd F_4 p_away (.dK us_away_2)) := Gr.upd (st.ok.at_ (k := 0) rfl).2
      have r_away_3 : R K (upd F_4 p_away (.dK us_away_2)) (.ref p_away) ((eM kI eI) away_2) := (r_away_2.mono gl).data upd_same
      refine zs_putM (kk := kI) (k := thing) (enc := eI) (v := (((getM away_2 thing).getD (0 : Int)) + (1 : Int))) st.ok 2 0 hr rfl (ze_add (ze_lend (O1 := [(p_away, .dK us_away_2)]) 0 0 rfl rfl (ze_dget2 (kk := kI) (k := thing) (enc := eI) (v0 := (0 : Int)) hr (ze_var 2 rfl r_away_3) (ze_var 3 rfl (r_2.mono gl)) ze_int) flatI rfl rfl) ze_int) (ze_var 3 rfl r_2) rfl r_away_2 (by /-1-/ have h8 := hinv; omega) fun us_away_3 F_5 H_4 s_4 r_away_4 => ?_
      obtain ⟨away_3, hx_away_3⟩ : ∃ z : (List (Int × Int)), z = putM away_2 thing (((getM away_2 thing).getD (0 : Int)) + (1 : Int)) := ⟨_, rfl⟩
      have s_4 : Stp F_4 [(p_away, .dK us_away_2)] H_3 F_5 [(p_away, .dK us_away_3)] H_4 := by exact s_4
      have r_away_4 : RM K F_5 kI eI us_away_3 away_3 := by subst hx_away_3; exact r_away_4
      have st := st.trans s_4
      have sb := sb.trans s_4
      have r_first := r_first.mono s_4.gr
      have r_second := r_second.mono s_4.gr
      have r_2 := r_2.mono s_4.gr
      show ZS _ _ [some v_first, some v_second, some (.ref p_away), some v, none] H_4 _
      have hfb : remainingP_L1 away_2 thing = remainingP_2 away_3 := by subst hx_away_3; exact hfb
      refine zs_nil ?_
      exact ⟨_, _, sb, by (try rw [hfb]); exact ⟨some v, us_away_3, rfl, rfl, r_away_4, (show away_3.length ≤ (i + 1) from by rw [hx_away_3]; exact Nat.le_trans putM_length (Nat.succ_le_succ hinv))⟩⟩
    · skip
      obtain ⟨b_2, hb⟩ : ∃ z : ((List (Int × Int))), z = List.foldl remainingP_L1 away second := ⟨_, rfl⟩
      try rw [← hb] at rel_2
      obtain ⟨away_4, rfl⟩ : ∃ z, z = b_2 := ⟨_, rfl⟩
      obtain ⟨z_thing_2, us_away_4, rfl, rfl, r_away_5, hinv_2⟩ := rel_2
      have r_away_5 : RM K _ kI eI us_away_4 away_4 := r_away_5
      have st := st.trans s_5
      have r_first := r_first.mono s_5.gr
      have r_second := r_second.mono s_5.gr
      have hinv_2 : away_4.length ≤ second.length := hinv_2
      have hf : remainingP first second = (remainingP_3 first) away_4 := by rw [hb]; exact hf
      have haw := hinv_2
      show ZS _ _ [some v_first, some v_second, some (.ref p_away), z_thing_2, none] H_5 _
      refine zs_setN (n := 4) st.ok (zn_lstt (enc := eI) (xs := ([] : List Int)) za_nil) sc.nd rfl (by first | exact Or.inl rfl | exact Or.inr rfl) fun p_told us_told F_7 H_6 hp_3 s_6 r_told => ?_
      obtain ⟨told, hx_told⟩ : ∃ z : (List Int), z = ([] : List Int) := ⟨_, rfl⟩
      have hn_2 := st.newAt hp_3
      have s_6 : Stp F_6 [(p_away, .dK us_away_4)] H_5 F_7 [(p_told, .lst us_told), (p_away, .dK us_away_4)] H_6 := by exact s_6
      have r_told : RA K F_7 us_told (told.map eI) := by subst hx_told; exact r_told
      have st := st.trans s_6
      have r_first := r_first.mono s_6.gr
      have r_second := r_second.mono s_6.gr
      have r_away_5 := r_away_5.mono s_6.gr
      show ZS _ _ [some v_first, some v_second, some (.ref p_away), z_thing_2, some (.ref p_told)] H_6 _
      have hf : remainingP first second = remainingP_4 first away_4 told := by subst hx_told; exact hf
      refine zs_forF (f := remainingP_L2) (b0 := (away_4, told)) st.ok PassesOwn.never rfl (zi_list (ze_var 0 rfl r_first)) (fun iq b σ F O => ∃ (z1 : Option V) (w2 : List V) (w3 : List (Key × V)), σ = [some v_first, some v_second, some (.ref p_away), z1, some (.ref p_told)] ∧ O = [(p_told, .lst w2), (p_away, .dK w3)] ∧ RA K F w2 (b.2.map eI) ∧ RM K F kI eI w3 b.1 ∧ (b.2.length ≤ iq ∧ b.1.length ≤ second.length + iq)) (fun F_14 H_12 s_12 => ⟨z_thing_2, us_told, us_away_4, rfl, rfl, r_told.mono s_12.gr, r_away_5.mono s_12.gr, by rw [hx_told]; exact ⟨Nat.zero_le _, haw⟩⟩) (fun i_2 b_3 thing_2 v_2 σ_3 F_8 F_9 O_4 H_7 ha_2 hbe_2 hz_2 rel_3 g_2 s_7 r_3 => ?_) (fun σ_4 F_13 O_5 H_11 s_11 rel_4 => ?_)
      · skip
        obtain ⟨away_5, told_2⟩ := b_3
        obtain ⟨z_thing_3, us_told_2, us_away_5, rfl, rfl, r_told_2, r_away_6, hinv_3⟩ := rel_3
        have r_told_2 : RA K _ us_told_2 (told_2.map eI) := r_told_2
        have r_away_6 : RM K _ kI eI us_away_5 away_5 := r_away_6
        have st := st.trans s_7
        have r_first := r_first.mono s_7.gr
        have r_second := r_second.mono s_7.gr
        have r_away_6 := r_away_6.mono g_2
        have r_told_2 := r_told_2.mono g_2
        have hinv_3 : told_2.length ≤ i_2 ∧ away_5.length ≤ second.length + i_2 := hinv_3
        have hlt_i_2 := (List.getElem?_eq_some_iff.mp ha_2).1
        have sb_2 : Stp F_9 [(p_told, .lst us_told_2), (p_away, .dK us_away_5)] H_7 F_9 [(p_told, .lst us_told_2), (p_away, .dK us_away_5)] H_7 := Stp.refl st.ok
        have hfb_2 : remainingP_L2 (away_5, told_2) thing_2 = remainingP_L2b away_5 told_2 thing_2 := rfl
        refine zg_name (n := 3) sc.nd rfl (by first | exact Or.inl rfl | exact Or.inr rfl) ?_
        have hq := hinv_3
        show ZS _ _ [some v_first, some v_second, some (.ref p_away), some v_2, some (.ref p_told)] H_7 _
        have gl_2 : Gr F_9 (upd F_9 p_away (.dK us_away_5)) := Gr.upd (st.ok.at_ (k := 1) rfl).2
        have r_away_7 : R K (upd F_9 p_away (.dK us_away_5)) (.ref p_away) ((eM kI eI) away_5) := (r_away_6.mono gl_2).data upd_same
        refine zs_if st.ok (zt_cm cm_gt (ze_lend (O1 := [(p_told, .lst us_told_2), (p_away, .dK us_away_5)]) 1 1 rfl rfl (ze_dget2 (kk := kI) (k := thing_2) (enc := eI) (v0 := (0 : Int)) hr (ze_var 2 rfl r_away_7) (ze_var 3 rfl (r_3.mono gl_2)) ze_int) flatI rfl rfl) ze_int) (fun hb_2 F_10 H_8 s_8 => ?_) (fun hb_2 F_10 H_8 s_8 => ?_)
        · have s_8 : Stp F_9 [(p_told, .lst us_told_2), (p_away, .dK us_away_5)] H_7 F_10 [(p_told, .lst us_told_2), (p_away, .dK us_away_5)] H_8 := by exact s_8
          have st := st.trans s_8
          have sb_2 := sb_2.trans s_8
          have r_first := r_first.mono s_8.gr
          have r_second := r_second.mono s_8.gr
          have r_away_6 := r_away_6.mono s_8.gr
          have r_told_2 := r_told_2.mono s_8.gr
          have r_3 := r_3.mono s_8.gr
          have hfb_2 := hfb_2.trans (cond_t hb_2)
          have gl_3 : Gr F_10 (upd F_10 p_away (.dK us_away_5)) := Gr.upd (st.ok.at_ (k := 1) rfl).2
          have r_away_8 : R K (upd F_10 p_away (.dK us_away_5)) (.ref p_away) ((eM kI eI) away_5) := (r_away_6.mono gl_3).data upd_same
          refine zs_putM (kk := kI) (k := thing_2) (enc := eI) (v := (((getM away_5 thing_2).getD default) - (1 : Int))) st.ok 2 1 hr rfl (ze_sub (ze_lend (O1 := [(p_told, .lst us_told_2), (p_away, .dK us_away_5)]) 1 1 rfl rfl (ze_dsub (kk := kI) (k := thing_2) (enc := eI) hr (ze_var 2 rfl r_away_8) (ze_var 3 rfl (r_3.mono gl_3)) (by /-2-/ exact get_pos (of_decide_eq_true hb_2))) flatI rfl rfl) ze_int) (ze_var 3 rfl r_3) rfl r_away_6 (by /-3-/ have h8 := hq.2; omega) fun us_away_6 F_11 H_9 s_9 r_away_9 => ?_
          obtain ⟨away_6, hx_away_6⟩ : ∃ z : (List (Int × Int)), z = putM away_5 thing_2 (((getM away_5 thing_2).getD default) - (1 : Int)) := ⟨_, rfl⟩
          have s_9 : Stp F_10 [(p_told, .lst us_told_2), (p_away, .dK us_away_5)] H_8 F_11 [(p_told, .lst us_told_2), (p_away, .dK us_away_6)] H_9 := by exact s_9
          have r_away_9 : RM K F_11 kI eI us_away_6 away_6 := by subst hx_away_6; exact r_away_9
          have st := st.trans s_9
          have sb_2 := sb_2.trans s_9
          have r_first := r_first.mono s_9.gr
          have r_second := r_second.mono s_9.gr
          have r_told_2 := r_told_2.mono s_9.gr
          have r_3 := r_3.mono s_9.gr
          show ZS _ _ [some v_first, some v_second, some (.ref p_away), some v_2, some (.ref p_told)] H_9 _
          have hfb_2 : remainingP_L2 (away_5, told_2) thing_2 = remainingP_5 away_6 told_2 := by subst hx_away_6; exact hfb_2
          refine zs_nil ?_
          show ZS _ _ [some v_first, some v_second, some (.ref p_away), some v_2, some (.ref p_told)] H_9 _
          refine zs_nil ?_
          exact ⟨_, _, sb_2, by (try rw [hfb_2]); exact ⟨some v_2, us_told_2, us_away_6, rfl, rfl, r_told_2, r_away_9, (show told_2.length ≤ (i_2 + 1) ∧ away_6.length ≤ second.length + (i_2 + 1) from by first | (rw [hx_away_6]; exact ⟨Nat.le_succ_of_le hinv_3.1, Nat.le_trans putM_length (by have h8 := hinv_3.2; omega)⟩) | (rw [hx_told_2, List.length_append]; exact ⟨Nat.succ_le_succ hinv_3.1, Nat.le_succ_of_le hinv_3.2⟩))⟩⟩
        · have s_8 : Stp F_9 [(p_told, .lst us_told_2), (p_away, .dK us_away_5)] H_7 F_10 [(p_told, .lst us_told_2), (p_away, .dK us_away_5)] H_8 := by exact s_8
          have st := st.trans s_8
          have sb_2 := sb_2.trans s_8
          have r_first := r_first.mono s_8.gr
          have r_second := r_second.mono s_8.gr
          have r_away_6 := r_away_6.mono s_8.gr
          have r_told_2 := r_told_2.mono s_8.gr
          have r_3 := r_3.mono s_8.gr
          have hfb_2 := hfb_2.trans (cond_f hb_2)
          have hl : (us_told_2).length = told_2.length := by have h := r_told_2.len; exact h.trans (by rw [List.length_map])
          refine zs_append st.ok 4 0 rfl (ze_var 3 rfl r_3) rfl (by rw [hl]; exact (by /-4-/ have h8 := hq.1; rw [← szL]; omega)) fun v_3 F_12 H_10 s_10 r_4 => ?_
          obtain ⟨told_3, hx_told_3⟩ : ∃ z : (List Int), z = told_2 ++ [thing_2] := ⟨_, rfl⟩
          obtain ⟨us_told_3, hus_told_3⟩ : ∃ z, z = us_told_2 ++ [v_3] := ⟨_, rfl⟩
          have s_10 : Stp F_10 [(p_told, .lst us_told_2), (p_away, .dK us_away_5)] H_8 F_12 [(p_told, .lst us_told_3), (p_away, .dK us_away_5)] H_10 := by subst hus_told_3; exact s_10
          have r_told_3 : RA K F_12 us_told_3 (told_3.map eI) := by rw [hus_told_3, hx_told_3, List.map_append]; exact (r_told_2.mono s_10.gr).snoc r_4
          have st := st.trans s_10
          have sb_2 := sb_2.trans s_10
          have r_first := r_first.mono s_10.gr
          have r_second := r_second.mono s_10.gr
          have r_away_6 := r_away_6.mono s_10.gr
          have r_3 := r_3.mono s_10.gr
          show ZS _ _ [some v_first, some v_second, some (.ref p_away), some v_2, some (.ref p_told)] H_10 _
          have hfb_2 : remainingP_L2 (away_5, told_2) thing_2 = remainingP_6 away_5 told_3 := by subst hx_told_3; exact hfb_2
          refine zs_nil ?_
          show ZS _ _ [some v_first, some v_second, some (.ref p_away), some v_2, some (.ref p_told)] H_10 _
          refine zs_nil ?_
          exact ⟨_, _, sb_2, by (try rw [hfb_2]); exact ⟨some v_2, us_told_3, us_away_5, rfl, rfl, r_told_3, r_away_6, (show told_3.length ≤ (i_2 + 1) ∧ away_5.length ≤ second.length + (i_2 + 1) from by first | (rw [hx_away_5]; exact ⟨Nat.le_succ_of_le hinv_3.1, Nat.le_trans putM_length (by have h8 := hinv_3.2; omega)⟩) | (rw [hx_told_3, List.length_append]; exact ⟨Nat.succ_le_succ hinv_3.1, Nat.le_succ_of_le hinv_3.2⟩))⟩⟩
      · skip
        obtain ⟨b_4, hb_3⟩ : ∃ z : ((List (Int × Int)) × (List Int)), z = List.foldl remainingP_L2 (away_4, told) first := ⟨_, rfl⟩
        try rw [← hb_3] at rel_4
        obtain ⟨away_7, told_4⟩ := b_4
        obtain ⟨z_thing_4, us_told_4, us_away_7, rfl, rfl, r_told_4, r_away_10, hinv_4⟩ := rel_4
        have r_told_4 : RA K _ us_told_4 (told_4.map eI) := r_told_4
        have r_away_10 : RM K _ kI eI us_away_7 away_7 := r_away_10
        have st := st.trans s_11
        have r_first := r_first.mono s_11.gr
        have r_second := r_second.mono s_11.gr
        have hinv_4 : told_4.length ≤ first.length ∧ away_7.length ≤ second.length + first.length := hinv_4
        have hf : remainingP first second = remainingP_7 (away_7, told_4) := by rw [hb_3]; exact hf
        show ZS _ _ [some v_first, some v_second, some (.ref p_away), z_thing_4, some (.ref p_told)] H_11 _
        refine zs_retV (n := 4) rfl ?_
        exact q _ us_told_4 _ _ hn_2 (st.dropAt 1) (by rw [hf]; exact r_told_4)
/-! less -/
abbrev s_lessP : Stmt := topS 2
theorem sc_lessP : FnScope ["first", "second"] ["first", "second"] (defScope s_lessP) := ⟨rfl, rfl, rfl, by decide +kernel, rfl, by decide +kernel, by decide +kernel⟩
def lessP (first : (List Int)) (second : (List Int)) : (List Int) :=
  (remainingP (sortI first) second)
def A_lessP : List PyData → List PyData → Prop := fun ds r => ∃ (first : (List Int)) (second : (List Int)), ds = [(eL eI) first, (eL eI) second] ∧ (first.length < 2 ^ 20 ∧ second.length < 2 ^ 20) ∧ r = (lessP first second).map eI
set_option maxHeartbeats 4000000 in
theorem ok_lessP {P : Program} {w : World} {K : PySem.W.Frag} {mg : Str → Option Value} {base : Heap} (T : Top K mg) : Fn P w K mg base 2 "less" ["first", "second"] (spN K A_lessP) := by
  obtain ⟨f, fd, F, gm⟩ := T.f_lessP
  have sc := sc_lessP
  refine ⟨f, fd, F.ok sc (fun vs H Q E h => ?_) (fun cdv A outer s0 H vs Q E hr h => ⟨_, PSs.nox pss_w, ?_⟩), gm, F.kp, F.bindsN (fun _ _ _ _ _ _ us hl => match us, hl with | [_, _], _ => rfl)⟩
  · obtain ⟨F, ds, r, w, ra, ⟨first, second, rfl, hpre, rfl⟩, q⟩ := h
    exact ra.len
  · obtain ⟨F, ds, r, w, ra, ⟨first, second, rfl, hpre, rfl⟩, q⟩ := h
    obtain ⟨v_first, ws, rfl, r_first, ra⟩ := ra.cons_inv
    obtain ⟨v_second, ws, rfl, r_second, ra⟩ := ra.cons_inv
    obtain rfl := ra.nil_inv
    have st := Stp.refl w
    have hf : lessP first second = lessP first second := rfl
    show ZS _ _ [some v_first, some v_second] H _
    refine zs_retN st.ok (zn_callN (ok_remainingP T) (hr.mono (by decide)) (za_cons (zn_ze (zn_sortI T.b_sorted (ze_var 0 rfl r_first))) (za_cons (ze_var 1 rfl r_second) za_nil)) ⟨(sortI first), second, rfl, (by /-1-/ rw [(sortI_perm first).length_eq]; exact hpre), rfl⟩) fun v us F_2 H_2 hp_2 s_2 r_2 => ?_
    exact q v us F_2 H_2 (st.newAt hp_2) (st.trans s_2) (by rw [hf]; exact r_2)
/-! is_note -/
abbrev s_is_noteP : Stmt := topS 5
theorem sc_is_noteP : FnScope ["thing"] ["thing"] (defScope s_is_noteP) := ⟨rfl, rfl, rfl, by decide +kernel, rfl, by decide +kernel, by decide +kernel⟩
def is_noteP (thing : Int) : Bool :=
  (decide ((1 : Int) ≤ thing) && decide (thing ≤ (1000000 : Int)))
def A_is_noteP : List PyData → PyData → Prop := fun ds r => ∃ (thing : Int), ds = [eI thing] ∧ r = eB (is_noteP thing)
set_option maxHeartbeats 4000000 in
theorem ok_is_noteP {P : Program} {w : World} {K : PySem.W.Frag} {mg : Str → Option Value} {base : Heap} (T : Top K mg) : Fn P w K mg base 1 "is_note" ["thing"] (spD K A_is_noteP) := by
  obtain ⟨f, fd, F, gm⟩ := T.f_is_noteP
  have sc := sc_is_noteP
  refine ⟨f, fd, F.ok sc (fun vs H Q E h => ?_) (fun cdv A outer s0 H vs Q E hr h => ⟨_, PSs.nox pss_w, ?_⟩), gm, F.kp, F.bindsN (fun _ _ _ _ _ _ us hl => match us, hl with | [_], _ => rfl)⟩
  · obtain ⟨F, ds, r, w, ra, ⟨thing, rfl, rfl⟩, q⟩ := h
    exact ra.len
  · obtain ⟨F, ds, r, w, ra, ⟨thing, rfl, rfl⟩, q⟩ := h
    obtain ⟨v_thing, ws, rfl, r_thing, ra⟩ := ra.cons_inv
    obtain rfl := ra.nil_inv
    have st := Stp.refl w
    have hf : is_noteP thing = is_noteP thing := rfl
    show ZS _ _ [some v_thing] H _
    refine zs_ifF st.ok (zt_eq (zt_w (zw_or (zt_not (zt_val (ze_isi (T := "int") (k := true) T.b_isinstance T.b_int (ze_var 0 rfl r_thing) (show kitB "int" "int" = some true by decide +kernel)))) fun hb => (zw_or1 (zt_val (ze_isi (T := "bool") (k := false) T.b_isinstance T.b_bool (ze_var 0 rfl r_thing) (show kitB "int" "bool" = some false by decide +kernel)))))) (by simp)) fun F_2 H_2 s_2 => ?_
    have s_2 : Stp F [] H F_2 [] H_2 := by exact s_2
    have st := st.trans s_2
    have r_thing := r_thing.mono s_2.gr
    refine zs_nil ?_
    show ZS _ _ [some v_thing] H_2 _
    refine zs_ret st.ok (ze_chain cm_le cm_le ze_int (ze_var 0 rfl r_thing) (ze_globI T.c_GREATEST_ASK)) fun v F_3 H_3 s_3 r_2 => ?_
    exact q v F_3 H_3 (st.trans s_3) (by rw [hf]; exact r_2)
/-! sub_sums -/
abbrev s_sub_sumsP : Stmt := topS 6
theorem sc_sub_sumsP : FnScope ["notes", "table", "note", "total", "part"] ["notes"] (defScope s_sub_sumsP) := ⟨rfl, rfl, rfl, by decide +kernel, rfl, by decide +kernel, by decide +kernel⟩
def sub_sumsP_2 (table_4 : (List (Int × (List Int)))) : ((List (Int × (List Int)))) :=
  table_4
def sub_sumsP_L2b (note : Int) (table_3 : (List (Int × (List Int)))) (total : Int) (part : (List Int)) : ((List (Int × (List Int)))) :=
  (cond (!(getM table_3 (total + note)).isSome) (sub_sumsP_2 (putM table_3 (total + note) (part ++ ([note] : List Int)))) table_3)
def sub_sumsP_L2 (note : Int) (b : ((List (Int × (List Int))))) (a : (Int × (List Int))) : ((List (Int × (List Int)))) :=
  sub_sumsP_L2b note b a.1 a.2
def sub_sumsP_3 (b : ((List (Int × (List Int))))) : ((List (Int × (List Int)))) :=
  b
def sub_sumsP_L1b (table_2 : (List (Int × (List Int)))) (note : Int) : ((List (Int × (List Int)))) :=
  sub_sumsP_3 (List.foldl (sub_sumsP_L2 note) table_2 table_2)
def sub_sumsP_L1 (b : ((List (Int × (List Int))))) (a : Int) : ((List (Int × (List Int)))) :=
  sub_sumsP_L1b b a
def sub_sumsP_4 (b : ((List (Int × (List Int))))) : (List (Int × (List Int))) :=
  b
def sub_sumsP_1 (notes : (List Int)) (table : (List (Int × (List Int)))) : (List (Int × (List Int))) :=
  sub_sumsP_4 (List.foldl sub_sumsP_L1 table (sortI notes))
def sub_sumsP (notes : (List Int)) : (List (Int × (List Int))) :=
  sub_sumsP_1 notes ([((0 : Int), ([] : List Int))] : (List (Int × (List Int))))
def A_sub_sumsP : List PyData → PyData → Prop := fun ds r => ∃ (notes : (List Int)), ds = [(eL eI) notes] ∧ (notes.length ≤ 8) ∧ r = (eM kI (eL eI)) (sub_sumsP notes)
set_option maxHeartbeats 4000000 in
theorem ok_sub_sumsP {P : Program} {w : World} {K : PySem.W.Frag} {mg : Str → Option Value} {base : Heap} (T : Top K mg) : Fn P w K mg base 1 "sub_sums" ["notes"] (spD K A_sub_sumsP) := by
  obtain ⟨f, fd, F, gm⟩ := T.f_sub_sumsP
  have sc := sc_sub_sumsP
  refine ⟨f, fd, F.ok sc (fun vs H Q E h => ?_) (fun cdv A outer s0 H vs Q E hr h => ⟨_, PSs.nox pss_w, ?_⟩), gm, F.kp, F.bindsN (fun _ _ _ _ _ _ us hl => match us, hl with | [_], _ => rfl)⟩
  · obtain ⟨F, ds, r, w, ra, ⟨notes, rfl, hpre, rfl⟩, q⟩ := h
    exact ra.len
  · obtain ⟨F, ds, r, w, ra, ⟨notes, rfl, hpre, rfl⟩, q⟩ := h
    obtain ⟨v_notes, ws, rfl, r_notes, ra⟩ := ra.cons_inv
    obtain rfl := ra.nil_inv
    have st := Stp.refl w
    have hf : sub_sumsP notes = sub_sumsP notes := rfl
    show ZS _ _ [some v_notes, none, none, none, none] H _
    refine zs_setM (n := 1) st.ok (zm_one (kk := kI) (k := (0 : Int)) (enc := (eL eI)) (v := ([] : List Int)) ze_int (zn_ze (zn_lstt (enc := eI) (xs := ([] : List Int)) za_nil))) sc.nd rfl (by first | exact Or.inl rfl | exact Or.inr rfl) fun p_table us_table F_2 H_2 hp_2 s_2 r_table => ?_
    obtain ⟨table, hx_table⟩ : ∃ z : (List (Int × (List Int))), z = ([((0 : Int), ([] : List Int))] : (List (Int × (List Int)))) := ⟨_, rfl⟩
    have hn := st.newAt hp_2
    have s_2 : Stp F [] H F_2 [(p_table, .dK us_table)] H_2 := by exact s_2
    have r_table : RM K F_2 kI (eL eI) us_table table := by subst hx_table; exact r_table
    have st := st.trans s_2
    have r_notes := r_notes.mono s_2.gr
    show ZS _ _ [some v_notes, some (.ref p_table), none, none, none] H_2 _
    have hf : sub_sumsP notes = sub_sumsP_1 notes table := by subst hx_table; exact hf
    refine zs_forF (f := sub_sumsP_L1) (b0 := table) st.ok PassesOwn.never rfl (zi_list (zn_ze (zn_sortI T.b_sorted (ze_var 0 rfl r_notes)))) (fun iq b σ F O => ∃ (z1 : Option V) (z2 : Option V) (z3 : Option V) (w4 : List (Key × V)), σ = [some v_notes, some (.ref p_table), z1, z2, z3] ∧ O = [(p_table, .dK w4)] ∧ RM K F kI (eL eI) w4 b ∧ (b.length ≤ 2 ^ iq ∧ ∀ p : Int × List Int, p ∈ b → p.2.length ≤ iq)) (fun F_14 H_11 s_11 => ⟨none, none, none, us_table, rfl, rfl, r_table.mono s_11.gr, by rw [hx_table]; exact ⟨Nat.le_refl _, fun p hp => by rw [List.mem_singleton.mp hp]; exact Nat.le_refl _⟩⟩) (fun i b note v σ F_3 F_4 O_2 H_3 ha hbe hz rel g s_3 r_2 => ?_) (fun σ_4 F_11 O_5 H_9 s_9 rel_4 => ?_)
    · skip
      obtain ⟨table_2, rfl⟩ : ∃ z, z = b := ⟨_, rfl⟩
      obtain ⟨z_note, z_total, z_part, us_table_2, rfl, rfl, r_table_2, hinv⟩ := rel
      have r_table_2 : RM K _ kI (eL eI) us_table_2 table_2 := r_table_2
      have st := st.trans s_3
      have r_notes := r_notes.mono s_3.gr
      have r_table_2 := r_table_2.mono g
      have hinv : table_2.length ≤ 2 ^ i ∧ ∀ p : Int × List Int, p ∈ table_2 → p.2.length ≤ i := hinv
      have hlt_i := (List.getElem?_eq_some_iff.mp ha).1
      have sb : Stp F_4 [(p_table, .dK us_table_2)] H_3 F_4 [(p_table, .dK us_table_2)] H_3 := Stp.refl st.ok
      have hfb : sub_sumsP_L1 table_2 note = sub_sumsP_L1b table_2 note := rfl
      refine zg_name (n := 2) sc.nd rfl (by first | exact Or.inl rfl | exact Or.inr rfl) ?_
      have hq := hinv
      have hi8 : i ≤ 8 := by rw [(sortI_perm notes).length_eq] at hlt_i; omega
      have hpw : 2 ^ i ≤ 256 := Nat.pow_le_pow_right (by decide) hi8
      show ZS _ _ [some v_notes, some (.ref p_table), some v, z_total, z_part] H_3 _
      refine zs_forF (f := (sub_sumsP_L2 note)) (b0 := table_2) st.ok PassesOwn.never rfl (zi_list (zn_ze (zn_eq (rs' := table_2.map (eT2 eI (eL eI))) (zn_itemsO (kk := kI) (enc := (eL eI)) 1 0 rfl T.b_list rfl rfl r_table_2 (by /-1-/ have h8 := hq.1; omega)) rfl))) (fun iq b σ F O => ∃ (z1 : Option V) (z2 : Option V) (w3 : List (Key × V)), σ = [some v_notes, some (.ref p_table), some v, z1, z2] ∧ O = [(p_table, .dK w3)] ∧ RM K F kI (eL eI) w3 b ∧ (b.length ≤ 2 ^ i + iq ∧ ∀ p : Int × List Int, p ∈ b → p.2.length ≤ i + 1)) (fun F_10 H_8 s_8 => ⟨z_total, z_part, us_table_2, rfl, rfl, r_table_2.mono s_8.gr, ⟨by have h8 := hq.1; omega, fun p hp => Nat.le_succ_of_le (hq.2 p hp)⟩⟩) (fun i_2 b_2 a_2 v_2 σ_2 F_5 F_6 O_3 H_4 ha_2 hbe_2 hz_2 rel_2 g_2 s_4 r_3 => ?_) (fun σ_3 F_9 O_4 H_7 s_7 rel_3 => ?_)
      · skip
        obtain ⟨table_3, rfl⟩ : ∃ z, z = b_2 := ⟨_, rfl⟩
        obtain ⟨z_total_2, z_part_2, us_table_3, rfl, rfl, r_table_3, hinv_2⟩ := rel_2
        have r_table_3 : RM K _ kI (eL eI) us_table_3 table_3 := r_table_3
        have st := st.trans s_4
        have sb := sb.trans s_4
        have r_notes := r_notes.mono s_4.gr
        have r_2 := r_2.mono s_4.gr
        have r_table_3 := r_table_3.mono g_2
        have hinv_2 : table_3.length ≤ 2 ^ i + i_2 ∧ ∀ p : Int × List Int, p ∈ table_3 → p.2.length ≤ i + 1 := hinv_2
        have hlt_i_2 := (List.getElem?_eq_some_iff.mp ha_2).1
        have sb_2 : Stp F_6 [(p_table, .dK us_table_3)] H_4 F_6 [(p_table, .dK us_table_3)] H_4 := Stp.refl st.ok
        obtain ⟨total, part⟩ := a_2
        have hfb_2 : sub_sumsP_L2 note table_3 (total, part) = sub_sumsP_L2b note table_3 total part := rfl
        refine zg_tup2 (n := 3) (m := 4) (F := F_6) rfl sc.nd rfl (by first | exact Or.inl rfl | exact Or.inr rfl) rfl (by first | exact Or.inl rfl | exact Or.inr rfl) r_3 st.ok fun v_total v_part r_total r_part => ?_
        have r_total : R K F_6 v_total (eI total) := r_total
        have r_part : R K F_6 v_part ((eL eI) part) := r_part
        have hq2 := hinv_2
        have hpm := hq.2 _ (List.mem_of_getElem? ha_2)
        have hpm : part.length ≤ i := hpm
        show ZS _ _ [some v_notes, some (.ref p_table), some v, some v_total, some v_part] H_4 _
        have gl : Gr F_6 (upd F_6 p_table (.dK us_table_3)) := Gr.upd (st.ok.at_ (k := 0) rfl).2
        have r_table_4 : R K (upd F_6 p_table (.dK us_table_3)) (.ref p_table) ((eM kI (eL eI)) table_3) := (r_table_3.mono gl).data upd_same
        refine zs_if st.ok (zt_lend (O1 := [(p_table, .dK us_table_3)]) 0 0 rfl rfl (zt_cm (cm_ninM (kk := kI) (k := (total + note)) (enc := (eL eI)) hr) (ze_add (ze_var 3 rfl (r_total.mono gl)) (ze_var 2 rfl (r_2.mono gl))) (ze_var 1 rfl r_table_4)) rfl rfl) (fun hb F_7 H_5 s_5 => ?_) (fun hb F_7 H_5 s_5 => ?_)
        · have s_5 : Stp F_6 [(p_table, .dK us_table_3)] H_4 F_7 [(p_table, .dK us_table_3)] H_5 := by exact s_5
          have st := st.trans s_5
          have sb := sb.trans s_5
          have sb_2 := sb_2.trans s_5
          have r_notes := r_notes.mono s_5.gr
          have r_table_3 := r_table_3.mono s_5.gr
          have r_2 := r_2.mono s_5.gr
          have r_total := r_total.mono s_5.gr
          have r_part := r_part.mono s_5.gr
          have hfb_2 := hfb_2.trans (cond_t hb)
          refine zs_putM (kk := kI) (k := (total + note)) (enc := (eL eI)) (v := (part ++ ([note] : List Int))) st.ok 1 0 hr rfl (zn_ze (zn_catt (ze_var 4 rfl r_part) (zn_ze (zn_lstt (enc := eI) (xs := ([note] : List Int)) (za_cons (ze_var 2 rfl r_2) za_nil))) (by /-2-/ rw [← szL]; show _ + 1 ≤ _; omega))) (ze_add (ze_var 3 rfl r_total) (ze_var 2 rfl r_2)) rfl r_table_3 (by /-3-/ have h8 := hq2.1; have h9 := hq.1; omega) fun us_table_4 F_8 H_6 s_6 r_table_5 => ?_
          obtain ⟨table_4, hx_table_4⟩ : ∃ z : (List (Int × (List Int))), z = putM table_3 (total + note) (part ++ ([note] : List Int)) := ⟨_, rfl⟩
          have s_6 : Stp F_7 [(p_table, .dK us_table_3)] H_5 F_8 [(p_table, .dK us_table_4)] H_6 := by exact s_6
          have r_table_5 : RM K F_8 kI (eL eI) us_table_4 table_4 := by subst hx_table_4; exact r_table_5
          have st := st.trans s_6
          have sb := sb.trans s_6
          have sb_2 := sb_2.trans s_6
          have r_notes := r_notes.mono s_6.gr
          have r_2 := r_2.mono s_6.gr
          have r_total := r_total.mono s_6.gr
          have r_part := r_part.mono s_6.gr
          show ZS _ _ [some v_notes, some (.ref p_table), some v, some v_total, some v_part] H_6 _
          have hfb_2 : sub_sumsP_L2 note table_3 (total, part) = sub_sumsP_2 table_4 := by subst hx_table_4; exact hfb_2
          refine zs_nil ?_
          show ZS _ _ [some v_notes, some (.ref p_table), some v, some v_total, some v_part] H_6 _
          refine zs_nil ?_
          exact ⟨_, _, sb_2, by (try rw [hfb_2]); exact ⟨some v_total, some v_part, us_table_4, rfl, rfl, r_table_5, (show table_4.length ≤ 2 ^ i + (i_2 + 1) ∧ ∀ p : Int × List Int, p ∈ table_4 → p.2.length ≤ i + 1 from by first | exact ⟨by have h8 := hq2.1; omega, hq2.2⟩ | (rw [hx_table_4]; exact ⟨Nat.le_trans putM_length (by have h8 := hq2.1; omega), putM_snd (Q := fun v : List Int => v.length ≤ i + 1) hq2.2 (by rw [List.length_append]; show _ + 1 ≤ _; omega)⟩))⟩⟩
        · have s_5 : Stp F_6 [(p_table, .dK us_table_3)] H_4 F_7 [(p_table, .dK us_table_3)] H_5 := by exact s_5
          have st := st.trans s_5
          have sb := sb.trans s_5
          have sb_2 := sb_2.trans s_5
          have r_notes := r_notes.mono s_5.gr
          have r_table_3 := r_table_3.mono s_5.gr
          have r_2 := r_2.mono s_5.gr
          have r_total := r_total.mono s_5.gr
          have r_part := r_part.mono s_5.gr
          have hfb_2 := hfb_2.trans (cond_f hb)
          refine zs_nil ?_
          show ZS _ _ [some v_notes, some (.ref p_table), some v, some v_total, some v_part] H_5 _
          refine zs_nil ?_
          exact ⟨_, _, sb_2, by (try rw [hfb_2]); exact ⟨some v_total, some v_part, us_table_3, rfl, rfl, r_table_3, (show table_3.length ≤ 2 ^ i + (i_2 + 1) ∧ ∀ p : Int × List Int, p ∈ table_3 → p.2.length ≤ i + 1 from by first | exact ⟨by have h8 := hq2.1; omega, hq2.2⟩ | (rw [hx_table_3]; exact ⟨Nat.le_trans putM_length (by have h8 := hq2.1; omega), putM_snd (Q := fun v : List Int => v.length ≤ i + 1) hq2.2 (by rw [List.length_append]; show _ + 1 ≤ _; omega)⟩))⟩⟩
      · skip
        obtain ⟨b_3, hb_2⟩ : ∃ z : ((List (Int × (List Int)))), z = List.foldl (sub_sumsP_L2 note) table_2 table_2 := ⟨_, rfl⟩
        try rw [← hb_2] at rel_3
        obtain ⟨table_5, rfl⟩ : ∃ z, z = b_3 := ⟨_, rfl⟩
        obtain ⟨z_total_3, z_part_3, us_table_5, rfl, rfl, r_table_6, hinv_3⟩ := rel_3
        have r_table_6 : RM K _ kI (eL eI) us_table_5 table_5 := r_table_6
        have st := st.trans s_7
        have sb := sb.trans s_7
        have r_notes := r_notes.mono s_7.gr
        have r_2 := r_2.mono s_7.gr
        have hinv_3 : table_5.length ≤ 2 ^ i + table_2.length ∧ ∀ p : Int × List Int, p ∈ table_5 → p.2.length ≤ i + 1 := hinv_3
        have hfb : sub_sumsP_L1 table_2 note = sub_sumsP_3 table_5 := by rw [hb_2]; exact hfb
        have h3 := hinv_3
        have h4 := hq.1
        show ZS _ _ [some v_notes, some (.ref p_table), some v, z_total_3, z_part_3] H_7 _
        refine zs_nil ?_
        exact ⟨_, _, sb, by (try rw [hfb]); exact ⟨some v, z_total_3, z_part_3, us_table_5, rfl, rfl, r_table_6, (show table_5.length ≤ 2 ^ (i + 1) ∧ ∀ p : Int × List Int, p ∈ table_5 → p.2.length ≤ (i + 1) from ⟨by rw [Nat.pow_succ]; omega, h3.2⟩)⟩⟩
    · skip
      obtain ⟨b_4, hb_3⟩ : ∃ z : ((List (Int × (List Int)))), z = List.foldl sub_sumsP_L1 table (sortI notes) := ⟨_, rfl⟩
      try rw [← hb_3] at rel_4
      obtain ⟨table_6, rfl⟩ : ∃ z, z = b_4 := ⟨_, rfl⟩
      obtain ⟨z_note_2, z_total_4, z_part_4, us_table_6, rfl, rfl, r_table_7, hinv_4⟩ := rel_4
      have r_table_7 : RM K _ kI (eL eI) us_table_6 table_6 := r_table_7
      have st := st.trans s_9
      have r_notes := r_notes.mono s_9.gr
      have hinv_4 : table_6.length ≤ 2 ^ (sortI notes).length ∧ ∀ p : Int × List Int, p ∈ table_6 → p.2.length ≤ (sortI notes).length := hinv_4
      have hf : sub_sumsP notes = sub_sumsP_4 table_6 := by rw [hb_3]; exact hf
      show ZS _ _ [some v_notes, some (.ref p_table), z_note_2, z_total_4, z_part_4] H_9 _
      have gz : Gr F_11 (upd F_11 p_table (.dK us_table_6)) := Gr.upd (st.ok.at_ (k := 0) rfl).2
      have r_table_8 : R K (upd F_11 p_table (.dK us_table_6)) (.ref p_table) ((eM kI (eL eI)) table_6) := (r_table_7.mono gz).data upd_same
      have st : Stp _ _ _ (upd F_11 p_table (.dK us_table_6)) [] H_9 := st.freezeAt 0 rfl hn
      have r_notes := r_notes.mono gz
      show ZS _ _ [some v_notes, some (.ref p_table), z_note_2, z_total_4, z_part_4] H_9 _
      refine zs_ret st.ok (ze_var 1 rfl r_table_8) fun v_3 F_13 H_10 s_10 r_4 => ?_
      exact q v_3 F_13 H_10 (st.trans s_10) (by rw [hf]; exact r_4)
/-! least_common -/
abbrev s_least_commonP : Stmt := topS 7
theorem sc_least_commonP : FnScope ["table", "other", "total"] ["table", "other"] (defScope s_least_commonP) := ⟨rfl, rfl, rfl, by decide +kernel, rfl, by decide +kernel, by decide +kernel⟩
def least_commonP_L1b (other : (List (Int × (List Int)))) (total : Int) : Turn Unit (Option Int) :=
  (cond (decide ((0 : Int) < total) && (getM other total).isSome) (.rt (some total)) (.nx ()))
def least_commonP_L1 (other : (List (Int × (List Int)))) (b : Unit) (a : Int) : Turn Unit (Option Int) :=
  least_commonP_L1b other a
def least_commonP_1 (b : Unit) : (Option Int) :=
  none
def least_commonP (table : (List (Int × (List Int)))) (other : (List (Int × (List Int)))) : (Option Int) :=
  outE (loopT (least_commonP_L1 other) () (sortI (table.map (·.1)))) least_commonP_1 (fun r => r)
def A_least_commonP : List PyData → PyData → Prop := fun ds r => ∃ (table : (List (Int × (List Int)))) (other : (List (Int × (List Int)))), ds = [(eM kI (eL eI)) table, (eM kI (eL eI)) other] ∧ (table.length ≤ 256 ∧ other.length ≤ 256) ∧ r = (eO eI) (least_commonP table other)
set_option maxHeartbeats 4000000 in
theorem ok_least_commonP {P : Program} {w : World} {K : PySem.W.Frag} {mg : Str → Option Value} {base : Heap} (T : Top K mg) : Fn P w K mg base 1 "least_common" ["table", "other"] (spD K A_least_commonP) := by
  obtain ⟨f, fd, F, gm⟩ := T.f_least_commonP
  have sc := sc_least_commonP
  refine ⟨f, fd, F.ok sc (fun vs H Q E h => ?_) (fun cdv A outer s0 H vs Q E hr h => ⟨_, PSs.nox pss_w, ?_⟩), gm, F.kp, F.bindsN (fun _ _ _ _ _ _ us hl => match us, hl with | [_, _], _ => rfl)⟩
  · obtain ⟨F, ds, r, w, ra, ⟨table, other, rfl, hpre, rfl⟩, q⟩ := h
    exact ra.len
  · obtain ⟨F, ds, r, w, ra, ⟨table, other, rfl, hpre, rfl⟩, q⟩ := h
    obtain ⟨v_table, ws, rfl, r_table, ra⟩ := ra.cons_inv
    obtain ⟨v_other, ws, rfl, r_other, ra⟩ := ra.cons_inv
    obtain rfl := ra.nil_inv
    have st := Stp.refl w
    have hf : least_commonP table other = least_commonP table other := rfl
    show ZS _ _ [some v_table, some v_other, none] H _
    refine zs_forT (f := (least_commonP_L1 other)) (b0 := ()) st.ok PassesOwn.never rfl (zi_list (zn_ze (zn_sortI T.b_sorted (zn_ze (zn_eq (rs' := (table.map (·.1)).map eI) (zn_keysM (kk := kI) (enc := (eL eI)) rfl T.b_list (ze_var 0 rfl r_table) (by /-1-/ first | (first | omega | (simp only [List.length_append, List.length_cons, List.length_nil, List.length_map, rangeI_length]; omega)) | (first | omega | (rw [← szL]; omega) | (simp only [List.length_append, List.length_cons, List.length_nil, List.length_map, rangeI_length, ← szL]; omega)))) (by rw [List.map_map]; rfl)))))) (fun iq b σ F O => ∃ (z1 : Option V), σ = [some v_table, some v_other, z1] ∧ O = [] ∧ True) (fun F_8 H_7 s_7 => ⟨none, rfl, rfl, trivial⟩) (fun i b total v σ F_2 F_3 O_2 H_2 ha hbe hz rel g s_2 r_2 => ?_) (fun j b_2 σ_2 F_6 O_3 H_5 hb_2 s_5 rel_2 => ?_)
    · skip
      obtain ⟨z_total, rfl, rfl, hinv⟩ := rel
      have st := st.trans s_2
      have r_table := r_table.mono s_2.gr
      have r_other := r_other.mono s_2.gr
      have hlt_i := (List.getElem?_eq_some_iff.mp ha).1
      have sb : Stp F_3 [] H_2 F_3 [] H_2 := Stp.refl st.ok
      have hfb : least_commonP_L1 other () total = least_commonP_L1b other total := rfl
      refine zg_name (n := 2) sc.nd rfl (by first | exact Or.inl rfl | exact Or.inr rfl) ?_
      show ZS _ _ [some v_table, some v_other, some v] H_2 _
      refine zs_if st.ok (zt_w (zw_and (zt_cm cm_gt (ze_var 2 rfl r_2) ze_int) fun hb => (zw_and1 (zt_cm (cm_inM (kk := kI) (k := total) (enc := (eL eI)) hr) (ze_var 2 rfl r_2) (ze_var 1 rfl r_other))))) (fun hb F_4 H_3 s_3 => ?_) (fun hb F_4 H_3 s_3 => ?_)
      · have s_3 : Stp F_3 [] H_2 F_4 [] H_3 := by exact s_3
        have st := st.trans s_3
        have sb := sb.trans s_3
        have r_table := r_table.mono s_3.gr
        have r_other := r_other.mono s_3.gr
        have r_2 := r_2.mono s_3.gr
        have hfb := hfb.trans (cond_t hb)
        refine zs_ret st.ok (ze_var 2 rfl r_2) fun v_2 F_5 H_4 s_4 r_3 => ?_
        have hret := hf.trans (outE_rt (hbe.trans (loopT_rt hfb)))
        have hret_2 : least_commonP table other = (some total) := hret
        exact q v_2 F_5 H_4 (st.trans s_4) (by rw [hret_2]; exact r_3)
      · have s_3 : Stp F_3 [] H_2 F_4 [] H_3 := by exact s_3
        have st := st.trans s_3
        have sb := sb.trans s_3
        have r_table := r_table.mono s_3.gr
        have r_other := r_other.mono s_3.gr
        have r_2 := r_2.mono s_3.gr
        have hfb := hfb.trans (cond_f hb)
        refine zs_nil ?_
        show ZS _ _ [some v_table, some v_other, some v] H_3 _
        refine zs_nil ?_
        exact ⟨(), _, _, hfb, sb, some v, rfl, rfl, trivial⟩
    · skip
      obtain ⟨z_total_2, rfl, rfl, hinv_2⟩ := rel_2
      have st := st.trans s_5
      have r_table := r_table.mono s_5.gr
      have r_other := r_other.mono s_5.gr
      have hf : least_commonP table other = least_commonP_1 () := hf.trans (outE_nx hb_2)
      show ZS _ _ [some v_table, some v_other, z_total_2] H_5 _
      refine zs_ret st.ok ze_non fun v_3 F_7 H_6 s_6 r_4 => ?_
      exact q v_3 F_7 H_6 (st.trans s_6) (by rw [hf]; exact r_4)
/-! ### what the bags' rest is -/
theorem cond_if {α : Type} {p : Prop} [Decidable p] {a b : α} : cond (decide p) a b = if p then a else b := by
  by_cases h : p <;> simp [h]
def cnt (m : List (Int × Int)) (k : Int) : Int := (getM m k).getD 0
theorem cnt_put {m : List (Int × Int)} {k j v : Int} : cnt (putM m k v) j = if j = k then v else cnt m j := by
  unfold cnt
  rw [getM_put]
  split <;> rfl
theorem count1 : ∀ (second : List Int) (m : List (Int × Int)) (k : Int), cnt (second.foldl remainingP_L1 m) k = cnt m k + (second.count k : Int)
  | [], m, k => by simp
  | x :: xs, m, k => by
    rw [List.foldl_cons, count1 xs]
    show cnt (putM m x (cnt m x + 1)) k + _ = _
    rw [cnt_put, List.count_cons]
    by_cases h : k = x
    · subst h; simp; omega
    · have : ¬ (x == k) = true := by simpa using fun e => h e.symm
      rw [if_neg h, if_neg this]; omega
/-- first without so many of each as m says -/
def dropC : List Int → (Int → Int) → List Int
  | [], _ => []
  | x :: xs, c => if 0 < c x then dropC xs (fun k => if k = x then c x - 1 else c k) else x :: dropC xs c
theorem rest_loop : ∀ (first : List Int) (m : List (Int × Int)) (t : List Int), (first.foldl remainingP_L2 (m, t)).2 = t ++ dropC first (cnt m)
  | [], m, t => by simp [dropC]
  | x :: xs, m, t => by
    rw [List.foldl_cons]
    unfold dropC
    have e : remainingP_L2 (m, t) x = if 0 < cnt m x then (putM m x ((getM m x).getD default - 1), t) else (m, t ++ [x]) := by
      show cond (decide (0 < cnt m x)) _ _ = _
      rw [cond_if]; rfl
    rw [e]
    by_cases h : 0 < cnt m x
    · rw [if_pos h, if_pos h, rest_loop xs]
      congr 1
      have e2 : cnt (putM m x ((getM m x).getD default - 1)) = fun k => if k = x then cnt m x - 1 else cnt m k := by
        funext k
        rw [cnt_put]
        rfl
      rw [e2]
    · rw [if_neg h, if_neg h, rest_loop xs, List.append_assoc]; rfl
theorem rest_eq (first second : List Int) : remainingP first second = dropC first (fun k => (second.count k : Int)) := by
  have e : remainingP first second = (first.foldl remainingP_L2 (second.foldl remainingP_L1 [], [])).2 := rfl
  rw [e, rest_loop, List.nil_append]
  congr 1
  funext k
  rw [count1]
  show (0 : Int) + _ = _
  omega
theorem dropC_count : ∀ (first : List Int) (c : Int → Int) (k : Int), 0 ≤ c k → ((dropC first c).count k : Int) = max 0 ((first.count k : Int) - c k)
  | [], c, k, h => by simp [dropC]; omega
  | x :: xs, c, k, h => by
    unfold dropC
    rw [List.count_cons]
    by_cases h1 : 0 < c x
    · rw [if_pos h1, dropC_count xs _ k (by split <;> omega)]
      by_cases e : x = k
      · subst e; simp; omega
      · have e2 : ¬ (x == k) = true := by simpa using e
        rw [if_neg e2, if_neg (fun z => e z.symm)]; rfl
    · rw [if_neg h1, List.count_cons]
      have ih := dropC_count xs c k h
      by_cases e : x = k
      · subst e; simp; omega
      · have e2 : ¬ (x == k) = true := by simpa using e
        rw [if_neg e2]; simp only [Nat.add_zero]; first | exact ih | (rw [if_neg e2]; exact ih)
theorem dropC_sub : ∀ (first : List Int) (c : Int → Int), (dropC first c).Sublist first
  | [], c => by simp [dropC]
  | x :: xs, c => by
    unfold dropC
    split
    · exact (dropC_sub xs _).cons x
    · exact (dropC_sub xs c).cons₂ x
/-- a part and the rest are the whole -/
theorem rest_perm {first part : List Int} (h : part.Sublist first) : (part ++ remainingP first part).Perm first := by
  rw [List.perm_iff_count]
  intro k
  have h1 := dropC_count first (fun k => (part.count k : Int)) k (by omega)
  have h2 := h.count_le k
  rw [List.count_append, rest_eq]
  omega
theorem rest_sub (first second : List Int) : (remainingP first second).Sublist first := by rw [rest_eq]; exact dropC_sub _ _
theorem less_perm {xs part : List Int} (h : part.Sublist (sortI xs)) : (part ++ lessP xs part).Perm xs := (rest_perm h).trans (sortI_perm xs)
/-! ### sums of parts -/
theorem sum_perm {xs ys : List Int} (h : xs.Perm ys) : xs.sum = ys.sum := by
  induction h with
  | nil => rfl
  | cons x _ ih => rw [List.sum_cons, List.sum_cons, ih]
  | swap x y l => simp only [List.sum_cons]; omega
  | trans _ _ h1 h2 => exact h1.trans h2
theorem sub_nonneg {xs : List Int} (h : ∀ x ∈ xs, 1 ≤ x) : 0 ≤ xs.sum := by
  induction xs with
  | nil => simp
  | cons x xs ih =>
    have := ih fun y hy => h y (List.mem_cons_of_mem _ hy)
    have := h x List.mem_cons_self
    rw [List.sum_cons]; omega
theorem sub_le {ys xs : List Int} (h : ys.Sublist xs) (hp : ∀ x ∈ xs, 1 ≤ x) : ys.sum ≤ xs.sum := by
  induction h with
  | slnil => exact Int.le_refl _
  | cons a _ ih =>
    have := ih fun y hy => hp y (List.mem_cons_of_mem _ hy)
    have := hp a List.mem_cons_self
    rw [List.sum_cons]; omega
  | cons_cons a _ ih =>
    have := ih fun y hy => hp y (List.mem_cons_of_mem _ hy)
    rw [List.sum_cons, List.sum_cons]; omega
theorem sub_full {ys xs : List Int} (h : ys.Sublist xs) (hp : ∀ x ∈ xs, 1 ≤ x) (e : ys.sum = xs.sum) : ys = xs := by
  induction h with
  | slnil => rfl
  | cons a h ih =>
    have h1 := sub_le h fun y hy => hp y (List.mem_cons_of_mem _ hy)
    have h2 := hp a List.mem_cons_self
    rw [List.sum_cons] at e; omega
  | cons_cons a h ih =>
    rw [List.sum_cons, List.sum_cons] at e
    rw [ih (fun y hy => hp y (List.mem_cons_of_mem _ hy)) (by omega)]
theorem sum_pos {xs : List Int} (h : ∀ x ∈ xs, 1 ≤ x) (hn : xs ≠ []) : 1 ≤ xs.sum := by
  cases xs with
  | nil => exact absurd rfl hn
  | cons x xs =>
    have := sub_nonneg fun y hy => h y (List.mem_cons_of_mem _ hy)
    have := h x List.mem_cons_self
    rw [List.sum_cons]; omega
/-! ### the table of parts -/
abbrev Tb := List (Int × List Int)
def tbOk (pre : List Int) (t : Tb) : Prop := (∀ q ∈ t, q.2.Sublist pre ∧ q.2.sum = q.1) ∧ ∀ ys : List Int, ys.Sublist pre → ∃ q ∈ t, q.1 = ys.sum
theorem getM_mem {α : Type} {m : List (Int × α)} {k : Int} {a : α} (h : getM m k = some a) : (k, a) ∈ m := by
  induction m with
  | nil => cases h
  | cons p m ih =>
    rw [getM_cons] at h
    split at h
    · rename_i e; cases h; rw [← e]; exact List.mem_cons_self
    · exact List.mem_cons_of_mem _ (ih h)
theorem getM_of {α : Type} {m : List (Int × α)} {q : Int × α} (h : q ∈ m) : (getM m q.1).isSome = true := by
  induction m with
  | nil => cases h
  | cons p m ih =>
    rw [getM_cons]
    by_cases e : p.1 = q.1
    · rw [if_pos e]; rfl
    · rw [if_neg e]
      exact ih ((List.mem_cons.mp h).resolve_left fun z => e (by rw [z]))
theorem put_new {α : Type} {m : List (Int × α)} {k : Int} {a : α} (h : (getM m k).isSome = false) : putM m k a = m ++ [(k, a)] := by
  unfold putM; rw [h]; rfl
theorem inner_eq (note : Int) (t : Tb) (a : Int × List Int) : sub_sumsP_L2 note t a = if (getM t (a.1 + note)).isSome = true then t else t ++ [(a.1 + note, a.2 ++ [note])] := by
  show cond (!(getM t (a.1 + note)).isSome) (putM t (a.1 + note) (a.2 ++ [note])) t = _
  cases h : (getM t (a.1 + note)).isSome with
  | true => rfl
  | false => rw [if_neg (by decide), put_new h]; rfl
theorem inner_loop (note : Int) : ∀ (its : Tb) (t : Tb), (∀ q ∈ its.foldl (sub_sumsP_L2 note) t, q ∈ t ∨ ∃ a ∈ its, q = (a.1 + note, a.2 ++ [note])) ∧ (∀ q ∈ t, q ∈ its.foldl (sub_sumsP_L2 note) t) ∧
    (∀ a ∈ its, ∃ q ∈ its.foldl (sub_sumsP_L2 note) t, q.1 = a.1 + note) ∧ (its.foldl (sub_sumsP_L2 note) t).length ≤ t.length + its.length
  | [], t => ⟨fun q h => .inl h, fun q h => h, (fun a h => nomatch h), Nat.le_refl _⟩
  | a :: its, t => by
    rw [List.foldl_cons]
    obtain ⟨h1, h2, h3, h4⟩ := inner_loop note its (sub_sumsP_L2 note t a)
    have e := inner_eq note t a
    refine ⟨fun q hq => ?_, fun q hq => h2 q ?_, fun b hb => ?_, ?_⟩
    · rcases h1 q hq with z | ⟨b, hb, z⟩
      · rw [e] at z
        split at z
        · exact .inl z
        · rcases List.mem_append.mp z with z | z
          · exact .inl z
          · exact .inr ⟨a, List.mem_cons_self, List.mem_singleton.mp z⟩
      · exact .inr ⟨b, List.mem_cons_of_mem _ hb, z⟩
    · rw [e]; split
      · exact hq
      · exact List.mem_append_left _ hq
    · rcases List.mem_cons.mp hb with rfl | hb
      · by_cases g : (getM t (b.1 + note)).isSome = true
        · obtain ⟨v, hv⟩ := Option.isSome_iff_exists.mp g
          exact ⟨_, h2 _ (by rw [e, if_pos g]; exact getM_mem hv), rfl⟩
        · exact ⟨_, h2 _ (by rw [e, if_neg g]; exact List.mem_append_right _ (List.mem_singleton.mpr rfl)), rfl⟩
      · exact h3 b hb
    · have : (sub_sumsP_L2 note t a).length ≤ t.length + 1 := by
        rw [e]; split
        · omega
        · rw [List.length_append]; exact Nat.le_refl _
      rw [List.length_cons]; omega
theorem sublist_snoc {ys pre : List Int} {x : Int} (h : ys.Sublist (pre ++ [x])) : ys.Sublist pre ∨ ∃ zs, zs.Sublist pre ∧ ys = zs ++ [x] := by
  obtain ⟨l1, l2, e, s1, s2⟩ := List.sublist_append_iff.mp h
  cases s2 with
  | cons _ h => cases h; left; rw [e, List.append_nil]; exact s1
  | cons_cons _ h => cases h; right; exact ⟨l1, s1, e⟩
theorem step_ok {pre : List Int} {t : Tb} {note : Int} (h : tbOk pre t) : tbOk (pre ++ [note]) (sub_sumsP_L1 t note) := by
  obtain ⟨h1, h2, h3, _⟩ := inner_loop note t t
  have e : sub_sumsP_L1 t note = t.foldl (sub_sumsP_L2 note) t := rfl
  rw [e]
  refine ⟨fun q hq => ?_, fun ys hy => ?_⟩
  · rcases h1 q hq with z | ⟨a, ha, z⟩
    · exact ⟨(h.1 q z).1.trans (List.sublist_append_left _ _), (h.1 q z).2⟩
    · rw [z]
      exact ⟨(h.1 a ha).1.append (List.Sublist.refl _), by rw [List.sum_append, (h.1 a ha).2]; simp⟩
  · rcases sublist_snoc hy with z | ⟨zs, hz, z⟩
    · obtain ⟨q, hq, e⟩ := h.2 ys z
      exact ⟨q, h2 q hq, e⟩
    · obtain ⟨q, hq, e⟩ := h.2 zs hz
      obtain ⟨r, hr, e2⟩ := h3 q hq
      exact ⟨r, hr, by rw [e2, e, z, List.sum_append]; simp⟩
theorem table_loop : ∀ (xs pre : List Int) (t : Tb), tbOk pre t → t.length ≤ 2 ^ pre.length → tbOk (pre ++ xs) (xs.foldl sub_sumsP_L1 t) ∧ (xs.foldl sub_sumsP_L1 t).length ≤ 2 ^ (pre ++ xs).length
  | [], pre, t, h, hl => by rw [List.append_nil]; exact ⟨h, hl⟩
  | x :: xs, pre, t, h, hl => by
    have e : pre ++ x :: xs = (pre ++ [x]) ++ xs := by simp
    rw [List.foldl_cons, e]
    refine table_loop xs (pre ++ [x]) _ (step_ok h) ?_
    obtain ⟨_, _, _, h4⟩ := inner_loop x t t
    show (t.foldl (sub_sumsP_L2 x) t).length ≤ _
    rw [List.length_append, List.length_singleton, Nat.pow_succ]; omega
theorem table_ok (notes : List Int) : tbOk (sortI notes) (sub_sumsP notes) ∧ (sub_sumsP notes).length ≤ 2 ^ notes.length := by
  have h0 : tbOk [] ([((0 : Int), ([] : List Int))] : Tb) := ⟨fun q hq => by rw [List.mem_singleton.mp hq]; exact ⟨List.Sublist.refl _, rfl⟩, fun ys hy => ⟨_, List.mem_singleton.mpr rfl, by rw [List.sublist_nil.mp hy]; rfl⟩⟩
  have := table_loop (sortI notes) [] _ h0 (Nat.le_refl _)
  rw [List.nil_append, (sortI_perm notes).length_eq] at this
  exact this
theorem table_len {notes : List Int} (h : notes.length ≤ 8) : (sub_sumsP notes).length ≤ 256 := Nat.le_trans (table_ok notes).2 (Nat.pow_le_pow_right (by decide) h)
/-- a sum of a part -/
def SS (xs : List Int) (t : Int) : Prop := ∃ ys : List Int, ys.Sublist (sortI xs) ∧ ys.sum = t
theorem table_get {notes : List Int} {t : Int} : (getM (sub_sumsP notes) t).isSome = true ↔ SS notes t := by
  obtain ⟨h1, h2⟩ := (table_ok notes).1
  constructor
  · intro h
    obtain ⟨v, hv⟩ := Option.isSome_iff_exists.mp h
    have := h1 _ (getM_mem hv)
    exact ⟨v, this.1, this.2⟩
  · rintro ⟨ys, hy, e⟩
    obtain ⟨q, hq, e2⟩ := h2 ys hy
    have := getM_of hq
    rw [e2, e] at this; exact this
theorem table_val {notes : List Int} {t : Int} (h : SS notes t) : ((getM (sub_sumsP notes) t).getD default).Sublist (sortI notes) ∧ ((getM (sub_sumsP notes) t).getD default).sum = t := by
  obtain ⟨v, hv⟩ := Option.isSome_iff_exists.mp (table_get.mpr h)
  rw [hv]
  exact (table_ok notes).1.1 _ (getM_mem hv)
/-! ### the least common sum -/
theorem loop_find {c : Int → Bool} {f : Unit → Int → Turn Unit (Option Int)} (hf : ∀ x, f () x = cond (c x) (.rt (some x)) (.nx ())) : ∀ xs : List Int, outE (loopT f () xs) least_commonP_1 (fun r => r) = xs.find? c
  | [] => rfl
  | x :: xs => by
    rw [List.find?_cons]
    cases h : c x with
    | true => rw [loopT_rt (r := some x) (by rw [hf, h]; rfl)]; rfl
    | false => rw [loopT_nx (b' := ()) (by rw [hf, h]; rfl), loop_find hf xs]
theorem least_eq (table other : Tb) : least_commonP table other = (sortI (table.map (·.1))).find? fun t => decide ((0 : Int) < t) && (getM other t).isSome := loop_find (fun x => rfl) _
theorem find_least {c : Int → Bool} : ∀ {xs : List Int} {t : Int}, xs.Pairwise (· ≤ ·) → xs.find? c = some t → t ∈ xs ∧ c t = true ∧ ∀ x ∈ xs, c x = true → t ≤ x
  | [], t, _, h => by cases h
  | x :: xs, t, hp, h => by
    obtain ⟨p1, p2⟩ := List.pairwise_cons.mp hp
    rw [List.find?_cons] at h
    cases e : c x with
    | true =>
      rw [e] at h; cases h
      exact ⟨List.mem_cons_self, e, fun y hy _ => (List.mem_cons.mp hy).elim (fun z => by rw [z]; exact Int.le_refl _) (p1 y)⟩
    | false =>
      rw [e] at h
      obtain ⟨h1, h2, h3⟩ := find_least p2 h
      exact ⟨List.mem_cons_of_mem _ h1, h2, fun y hy hc => (List.mem_cons.mp hy).elim (fun z => by rw [z, e] at hc; cases hc) fun z => h3 y z hc⟩
theorem keys_iff {notes : List Int} {t : Int} : t ∈ (sub_sumsP notes).map (·.1) ↔ SS notes t := by
  rw [← table_get, List.mem_map]
  constructor
  · rintro ⟨q, hq, rfl⟩; exact getM_of hq
  · intro h
    obtain ⟨v, hv⟩ := Option.isSome_iff_exists.mp h
    exact ⟨_, getM_mem hv, rfl⟩
theorem least_some {xs ys : List Int} {t : Int} (h : least_commonP (sub_sumsP xs) (sub_sumsP ys) = some t) : 0 < t ∧ SS xs t ∧ SS ys t ∧ ∀ u, 0 < u → SS xs u → SS ys u → t ≤ u := by
  rw [least_eq] at h
  obtain ⟨h1, h2, h3⟩ := find_least (sortI_sorted _) h
  rw [(sortI_perm _).mem_iff, keys_iff] at h1
  obtain ⟨c1, c2⟩ := Bool.and_eq_true_iff.mp h2
  exact ⟨of_decide_eq_true c1, h1, table_get.mp c2, fun u hu s1 s2 => h3 u ((sortI_perm _).mem_iff.mpr (keys_iff.mpr s1)) (Bool.and_eq_true_iff.mpr ⟨decide_eq_true hu, table_get.mpr s2⟩)⟩
theorem least_is {xs ys : List Int} {u : Int} (hu : 0 < u) (s1 : SS xs u) (s2 : SS ys u) : ∃ t, least_commonP (sub_sumsP xs) (sub_sumsP ys) = some t := by
  rw [least_eq]
  cases h : (sortI ((sub_sumsP xs).map (·.1))).find? fun t => decide ((0 : Int) < t) && (getM (sub_sumsP ys) t).isSome with
  | some t => exact ⟨t, rfl⟩
  | none =>
    have := List.find?_eq_none.mp h u ((sortI_perm _).mem_iff.mpr (keys_iff.mpr s1))
    exact absurd (Bool.and_eq_true_iff.mpr ⟨decide_eq_true hu, table_get.mpr s2⟩) this
theorem ss_sum (xs : List Int) : SS xs xs.sum := ⟨sortI xs, List.Sublist.refl _, sum_perm (sortI_perm xs)⟩

/-! has_no_parts -/
abbrev s_has_no_partsP : Stmt := topS 8
theorem sc_has_no_partsP : FnScope ["first", "second"] ["first", "second"] (defScope s_has_no_partsP) := ⟨rfl, rfl, rfl, by decide +kernel, rfl, by decide +kernel, by decide +kernel⟩
def has_no_partsP (first : (List Int)) (second : (List Int)) : Bool :=
  decide ((least_commonP (sub_sumsP first) (sub_sumsP second)) = (some first.sum))
def A_has_no_partsP : List PyData → PyData → Prop := fun ds r => ∃ (first : (List Int)) (second : (List Int)), ds = [(eL eI) first, (eL eI) second] ∧ (first.length ≤ 8 ∧ second.length ≤ 8) ∧ r = eB (has_no_partsP first second)
set_option maxHeartbeats 4000000 in
theorem ok_has_no_partsP {P : Program} {w : World} {K : PySem.W.Frag} {mg : Str → Option Value} {base : Heap} (T : Top K mg) : Fn P w K mg base 2 "has_no_parts" ["first", "second"] (spD K A_has_no_partsP) := by
  obtain ⟨f, fd, F, gm⟩ := T.f_has_no_partsP
  have sc := sc_has_no_partsP
  refine ⟨f, fd, F.ok sc (fun vs H Q E h => ?_) (fun cdv A outer s0 H vs Q E hr h => ⟨_, PSs.nox pss_w, ?_⟩), gm, F.kp, F.bindsN (fun _ _ _ _ _ _ us hl => match us, hl with | [_, _], _ => rfl)⟩
  · obtain ⟨F, ds, r, w, ra, ⟨first, second, rfl, hpre, rfl⟩, q⟩ := h
    exact ra.len
  · obtain ⟨F, ds, r, w, ra, ⟨first, second, rfl, hpre, rfl⟩, q⟩ := h
    obtain ⟨v_first, ws, rfl, r_first, ra⟩ := ra.cons_inv
    obtain ⟨v_second, ws, rfl, r_second, ra⟩ := ra.cons_inv
    obtain rfl := ra.nil_inv
    have st := Stp.refl w
    have hf : has_no_partsP first second = has_no_partsP first second := rfl
    show ZS _ _ [some v_first, some v_second] H _
    refine zs_ret st.ok (ze_cm (cm_eqE (enc := (eO eI)) (a := (least_commonP (sub_sumsP first) (sub_sumsP second))) (b := (some first.sum)) hr) (ze_callD (ok_least_commonP T) (hr.mono (by decide)) (za_cons (ze_callD (ok_sub_sumsP T) (hr.mono (by decide)) (za_cons (ze_var 0 rfl r_first) za_nil) ⟨first, rfl, (by /-1-/ first | (first | omega | (simp only [List.length_append, List.length_cons, List.length_nil, List.length_map, rangeI_length]; omega)) | (first | omega | (rw [← szL]; omega) | (simp only [List.length_append, List.length_cons, List.length_nil, List.length_map, rangeI_length, ← szL]; omega))), rfl⟩) (za_cons (ze_callD (ok_sub_sumsP T) (hr.mono (by decide)) (za_cons (ze_var 1 rfl r_second) za_nil) ⟨second, rfl, (by /-2-/ first | (first | omega | (simp only [List.length_append, List.length_cons, List.length_nil, List.length_map, rangeI_length]; omega)) | (first | omega | (rw [← szL]; omega) | (simp only [List.length_append, List.length_cons, List.length_nil, List.length_map, rangeI_length, ← szL]; omega))), rfl⟩) za_nil)) ⟨(sub_sumsP first), (sub_sumsP second), rfl, (by /-3-/ exact ⟨table_len (by omega), table_len (by omega)⟩), rfl⟩) (ze_sum rfl T.b_sum (ze_var 0 rfl r_first))) fun v F_2 H_2 s_2 r_2 => ?_
    exact q v F_2 H_2 (st.trans s_2) (by rw [hf]; exact r_2)
/-- no part of the one is worth as much as a part of the other -/
def Prm (xs ys : List Int) : Prop := ∀ u, 0 < u → SS xs u → SS ys u → xs.sum ≤ u
theorem parts_iff {xs ys : List Int} (h0 : 1 ≤ xs.sum) (he : xs.sum = ys.sum) : has_no_partsP xs ys = true ↔ Prm xs ys := by
  unfold has_no_partsP
  rw [decide_eq_true_iff]
  have s2 : SS ys xs.sum := by rw [he]; exact ss_sum ys
  constructor
  · intro h; exact (least_some h).2.2.2
  · intro h
    obtain ⟨t, ht⟩ := least_is (by omega) (ss_sum xs) s2
    obtain ⟨a, b, c, d⟩ := least_some ht
    have h1 := h t a b c
    have h2 := d xs.sum (by omega) (ss_sum xs) s2
    rw [ht]; congr 1; omega
def okX (xs ys : List Int) : Prop := (∀ x ∈ xs, 1 ≤ x) ∧ (∀ x ∈ ys, 1 ≤ x) ∧ xs.sum = ys.sum ∧ xs.length ≤ 8 ∧ ys.length ≤ 8
theorem okX_sort {xs ys : List Int} (h : okX xs ys) : okX (sortI xs) (sortI ys) := ⟨fun x m => h.1 x ((sortI_perm xs).mem_iff.mp m), fun x m => h.2.1 x ((sortI_perm ys).mem_iff.mp m), by rw [sum_perm (sortI_perm xs), sum_perm (sortI_perm ys)]; exact h.2.2.1, by rw [(sortI_perm xs).length_eq]; exact h.2.2.2.1, by rw [(sortI_perm ys).length_eq]; exact h.2.2.2.2⟩
structure CutOk (xs ys : List Int) (t : Int) (v w : List Int) : Prop where
  gs : (getM (sub_sumsP xs) t).isSome = true
  gt : (getM (sub_sumsP ys) t).isSome = true
  sv : v.Sublist (sortI xs)
  sw : w.Sublist (sortI ys)
  ev : v.sum = t
  ew : w.sum = t
  pos : 0 < t
  least : ∀ u, 0 < u → SS xs u → SS ys u → t ≤ u
theorem cut_some {xs ys : List Int} (h : okX xs ys) (hp : 0 < xs.length) : (least_commonP (sub_sumsP xs) (sub_sumsP ys)).isSome = true := by
  have hs := sum_pos h.1 (fun z => by rw [z] at hp; cases hp)
  obtain ⟨t, ht⟩ := least_is (by omega) (ss_sum xs) (by rw [h.2.2.1]; exact ss_sum ys)
  rw [ht]; rfl
theorem cut_step {xs ys : List Int} (h : okX xs ys) (hp : 0 < xs.length) : CutOk xs ys ((least_commonP (sub_sumsP xs) (sub_sumsP ys)).getD default) ((getM (sub_sumsP xs) ((least_commonP (sub_sumsP xs) (sub_sumsP ys)).getD default)).getD default) ((getM (sub_sumsP ys) ((least_commonP (sub_sumsP xs) (sub_sumsP ys)).getD default)).getD default) := by
  obtain ⟨t, ht⟩ := Option.isSome_iff_exists.mp (cut_some h hp)
  obtain ⟨a, b, c, d⟩ := least_some ht
  have e : (least_commonP (sub_sumsP xs) (sub_sumsP ys)).getD default = t := by rw [ht]; rfl
  rw [e]
  exact ⟨table_get.mpr b, table_get.mpr c, (table_val b).1, (table_val c).1, (table_val b).2, (table_val c).2, a, d⟩
section
variable {xs ys v w : List Int} {t : Int}
theorem CutOk.lv (h : CutOk xs ys t v w) : v.length ≤ xs.length := by have := h.sv.length_le; rw [(sortI_perm xs).length_eq] at this; exact this
theorem CutOk.lw (h : CutOk xs ys t v w) : w.length ≤ ys.length := by have := h.sw.length_le; rw [(sortI_perm ys).length_eq] at this; exact this
theorem less_len {a b : List Int} (h : b.Sublist (sortI a)) : b.length + (lessP a b).length = a.length := by
  have := (less_perm h).length_eq
  rw [List.length_append] at this; exact this
theorem ne_of_sum {b : List Int} (h : 0 < b.sum) : 1 ≤ b.length := by
  cases b with
  | nil => simp at h
  | cons x b => exact Nat.succ_le_succ (Nat.zero_le _)
theorem CutOk.less (h : CutOk xs ys t v w) : (lessP xs v).length < xs.length := by
  have h1 := less_len h.sv
  have h2 := ne_of_sum (b := v) (by rw [h.ev]; exact h.pos)
  omega
theorem less_mem {a b : List Int} {x : Int} (h : x ∈ lessP a b) : x ∈ a := by
  have := (rest_sub (sortI a) b).subset h
  exact (sortI_perm a).mem_iff.mp this
theorem less_sum {a b : List Int} (h : b.Sublist (sortI a)) : b.sum + (lessP a b).sum = a.sum := by
  rw [← List.sum_append]; exact sum_perm (less_perm h)
theorem CutOk.next (hx : okX xs ys) (h : CutOk xs ys t v w) : okX (lessP xs v) (lessP ys w) := by
  have h1 := less_sum h.sv
  have h2 := less_sum h.sw
  have h3 := less_len h.sv
  have h4 := less_len h.sw
  have := h.ev; have := h.ew; have := hx.2.2.1; have := hx.2.2.2.1; have := hx.2.2.2.2
  exact ⟨fun x m => hx.1 x (less_mem m), fun x m => hx.2.1 x (less_mem m), by omega, by omega, by omega⟩
end

/-! is_primitive -/
abbrev s_is_primitiveP : Stmt := topS 9
theorem sc_is_primitiveP : FnScope ["first", "second", "thing"] ["first", "second"] (defScope s_is_primitiveP) := ⟨rfl, rfl, rfl, by decide +kernel, rfl, by decide +kernel, by decide +kernel⟩
def is_primitiveP (first : (List Int)) (second : (List Int)) : Bool :=
  (cond (!((second.map (fun a_thing : Int => (is_noteP a_thing))).all id)) false (cond (decide ((first.length : Int) = (0 : Int)) || (decide ((second.length : Int) = (0 : Int)) || (!decide (first.sum = second.sum)))) false (has_no_partsP first second)))
def A_is_primitiveP : List PyData → PyData → Prop := fun ds r => ∃ (first : (List Int)) (second : (List Int)), ds = [(eL eI) first, (eL eI) second] ∧ (first.length ≤ 8 ∧ second.length ≤ 8) ∧ r = eB (is_primitiveP first second)
set_option maxHeartbeats 4000000 in
theorem ok_is_primitiveP {P : Program} {w : World} {K : PySem.W.Frag} {mg : Str → Option Value} {base : Heap} (T : Top K mg) : Fn P w K mg base 3 "is_primitive" ["first", "second"] (spD K A_is_primitiveP) := by
  obtain ⟨f, fd, F, gm⟩ := T.f_is_primitiveP
  have sc := sc_is_primitiveP
  refine ⟨f, fd, F.ok sc (fun vs H Q E h => ?_) (fun cdv A outer s0 H vs Q E hr h => ⟨_, PSs.nox pss_w, ?_⟩), gm, F.kp, F.bindsN (fun _ _ _ _ _ _ us hl => match us, hl with | [_, _], _ => rfl)⟩
  · obtain ⟨F, ds, r, w, ra, ⟨first, second, rfl, hpre, rfl⟩, q⟩ := h
    exact ra.len
  · obtain ⟨F, ds, r, w, ra, ⟨first, second, rfl, hpre, rfl⟩, q⟩ := h
    obtain ⟨v_first, ws, rfl, r_first, ra⟩ := ra.cons_inv
    obtain ⟨v_second, ws, rfl, r_second, ra⟩ := ra.cons_inv
    obtain rfl := ra.nil_inv
    have st := Stp.refl w
    have hf : is_primitiveP first second = is_primitiveP first second := rfl
    show ZS _ _ [some v_first, some v_second, none] H _
    refine zs_ifF st.ok (zt_eq (zt_not (zt_val (ze_isi (T := "list") (k := true) T.b_isinstance T.b_list (ze_var 1 rfl r_second) (show kitB "list" "list" = some true by decide +kernel)))) (by simp)) fun F_2 H_2 s_2 => ?_
    have s_2 : Stp F [] H F_2 [] H_2 := by exact s_2
    have st := st.trans s_2
    have r_first := r_first.mono s_2.gr
    have r_second := r_second.mono s_2.gr
    refine zs_nil ?_
    show ZS _ _ [some v_first, some v_second, none] H_2 _
    refine zs_if st.ok (zt_not (zt_val (ze_all rfl T.b_all (zn_ze (zn_lcM (n := 2) (f0 := (fun a_thing : Int => (is_noteP a_thing))) (encR := eB) rfl sc.nd (zi_list (ze_var 1 rfl r_second)) (fun _ _ _ _ _ a_thing v_a_thing _ h_a_thing g_c r_a_thing => (ze_callD (ok_is_noteP T) (hr.mono (by decide)) (za_cons (ze_var 2 rfl r_a_thing) za_nil) ⟨a_thing, rfl, rfl⟩)) (blkOk_by (N := ["first", "second", "thing"]) (sc := defScope (topS 9)) (by decide +kernel)) (fun _ _ _ _ _ => pg_name (i := 2) sc.nd rfl (Or.inl rfl))))))) (fun hb F_3 H_3 s_3 => ?_) (fun hb F_3 H_3 s_3 => ?_)
    · have s_3 : Stp F_2 [] H_2 F_3 [] H_3 := by exact s_3
      have st := st.trans s_3
      have r_first := r_first.mono s_3.gr
      have r_second := r_second.mono s_3.gr
      have hf := hf.trans (cond_t hb)
      refine zs_ret st.ok ze_bl fun v F_4 H_4 s_4 r_2 => ?_
      exact q v F_4 H_4 (st.trans s_4) (by rw [hf]; exact r_2)
    · have s_3 : Stp F_2 [] H_2 F_3 [] H_3 := by exact s_3
      have st := st.trans s_3
      have r_first := r_first.mono s_3.gr
      have r_second := r_second.mono s_3.gr
      have hf := hf.trans (cond_f hb)
      refine zs_nil ?_
      show ZS _ _ [some v_first, some v_second, none] H_3 _
      refine zs_if st.ok (zt_w (zw_or (zt_cm cm_eqI (ze_lenLt T.b_len (ze_var 0 rfl r_first)) ze_int) fun hb => (zw_or (zt_cm cm_eqI (ze_lenLt T.b_len (ze_var 1 rfl r_second)) ze_int) fun hb => (zw_or1 (zt_cm cm_neI (ze_sum rfl T.b_sum (ze_var 0 rfl r_first)) (ze_sum rfl T.b_sum (ze_var 1 rfl r_second))))))) (fun hb_2 F_5 H_5 s_5 => ?_) (fun hb_2 F_5 H_5 s_5 => ?_)
      · have s_5 : Stp F_3 [] H_3 F_5 [] H_5 := by exact s_5
        have st := st.trans s_5
        have r_first := r_first.mono s_5.gr
        have r_second := r_second.mono s_5.gr
        have hf := hf.trans (cond_t hb_2)
        refine zs_ret st.ok ze_bl fun v_2 F_6 H_6 s_6 r_3 => ?_
        exact q v_2 F_6 H_6 (st.trans s_6) (by rw [hf]; exact r_3)
      · have s_5 : Stp F_3 [] H_3 F_5 [] H_5 := by exact s_5
        have st := st.trans s_5
        have r_first := r_first.mono s_5.gr
        have r_second := r_second.mono s_5.gr
        have hf := hf.trans (cond_f hb_2)
        refine zs_nil ?_
        show ZS _ _ [some v_first, some v_second, none] H_5 _
        refine zs_ret st.ok (ze_callD (ok_has_no_partsP T) (hr.mono (by decide)) (za_cons (ze_var 0 rfl r_first) (za_cons (ze_var 1 rfl r_second) za_nil)) ⟨first, second, rfl, (by /-1-/ first | (first | omega | (simp only [List.length_append, List.length_cons, List.length_nil, List.length_map, rangeI_length]; omega)) | (first | omega | (rw [← szL]; omega) | (simp only [List.length_append, List.length_cons, List.length_nil, List.length_map, rangeI_length, ← szL]; omega))), rfl⟩) fun v_3 F_7 H_7 s_7 r_4 => ?_
        exact q v_3 F_7 H_7 (st.trans s_7) (by rw [hf]; exact r_4)
/-! cut_exchange -/
abbrev s_cut_exchangeP : Stmt := topS 10
theorem sc_cut_exchangeP : FnScope ["first", "second", "cuts", "left", "right", "table", "other", "total"] ["first", "second"] (defScope s_cut_exchangeP) := ⟨rfl, rfl, rfl, by decide +kernel, rfl, by decide +kernel, by decide +kernel⟩
def cut_exchangeP_9 (cuts_3 : (List ((List Int) × (List Int)))) (left_3 : (List Int)) (right_3 : (List Int)) : ((List ((List Int) × (List Int))) × (List Int) × (List Int)) :=
  (cuts_3, left_3, right_3)
def cut_exchangeP_8 (cuts_3 : (List ((List Int) × (List Int)))) (left_3 : (List Int)) (right_2 : (List Int)) (other : (List (Int × (List Int)))) (total : Int) : ((List ((List Int) × (List Int))) × (List Int) × (List Int)) :=
  cut_exchangeP_9 cuts_3 left_3 (lessP right_2 ((getM other total).getD default))
def cut_exchangeP_7 (cuts_3 : (List ((List Int) × (List Int)))) (left_2 : (List Int)) (right_2 : (List Int)) (table : (List (Int × (List Int)))) (other : (List (Int × (List Int)))) (total : Int) : ((List ((List Int) × (List Int))) × (List Int) × (List Int)) :=
  cut_exchangeP_8 cuts_3 (lessP left_2 ((getM table total).getD default)) right_2 other total
def cut_exchangeP_6 (cuts_2 : (List ((List Int) × (List Int)))) (left_2 : (List Int)) (right_2 : (List Int)) (table : (List (Int × (List Int)))) (other : (List (Int × (List Int)))) (total : Int) : ((List ((List Int) × (List Int))) × (List Int) × (List Int)) :=
  cut_exchangeP_7 (cuts_2 ++ [(((getM table total).getD default), ((getM other total).getD default))]) left_2 right_2 table other total
def cut_exchangeP_5 (cuts_2 : (List ((List Int) × (List Int)))) (left_2 : (List Int)) (right_2 : (List Int)) (table : (List (Int × (List Int)))) (other : (List (Int × (List Int)))) : ((List ((List Int) × (List Int))) × (List Int) × (List Int)) :=
  cut_exchangeP_6 cuts_2 left_2 right_2 table other ((least_commonP table other).getD default)
def cut_exchangeP_4 (cuts_2 : (List ((List Int) × (List Int)))) (left_2 : (List Int)) (right_2 : (List Int)) (table : (List (Int × (List Int)))) : ((List ((List Int) × (List Int))) × (List Int) × (List Int)) :=
  cut_exchangeP_5 cuts_2 left_2 right_2 table (sub_sumsP right_2)
def cut_exchangeP_L1b (cuts_2 : (List ((List Int) × (List Int)))) (left_2 : (List Int)) (right_2 : (List Int)) : ((List ((List Int) × (List Int))) × (List Int) × (List Int)) :=
  cut_exchangeP_4 cuts_2 left_2 right_2 (sub_sumsP left_2)
def cut_exchangeP_L1 (b : ((List ((List Int) × (List Int))) × (List Int) × (List Int))) : ((List ((List Int) × (List Int))) × (List Int) × (List Int)) :=
  cut_exchangeP_L1b b.1 b.2.1 b.2.2
def cut_exchangeP_L1c (b : ((List ((List Int) × (List Int))) × (List Int) × (List Int))) : Bool :=
  decide ((0 : Int) < (b.2.1.length : Int))
def cut_exchangeP_L1m (b : ((List ((List Int) × (List Int))) × (List Int) × (List Int))) : Nat :=
  b.2.1.length
def cut_exchangeP_10 (b : ((List ((List Int) × (List Int))) × (List Int) × (List Int))) : (List ((List Int) × (List Int))) :=
  b.1
def cut_exchangeP_3 (cuts : (List ((List Int) × (List Int)))) (left : (List Int)) (right : (List Int)) : (List ((List Int) × (List Int))) :=
  cut_exchangeP_10 (loopW cut_exchangeP_L1c cut_exchangeP_L1 (cut_exchangeP_L1m (cuts, left, right)) (cuts, left, right))
def cut_exchangeP_2 (second : (List Int)) (cuts : (List ((List Int) × (List Int)))) (left : (List Int)) : (List ((List Int) × (List Int))) :=
  cut_exchangeP_3 cuts left (sortI second)
def cut_exchangeP_1 (first : (List Int)) (second : (List Int)) (cuts : (List ((List Int) × (List Int)))) : (List ((List Int) × (List Int))) :=
  cut_exchangeP_2 second cuts (sortI first)
def cut_exchangeP (first : (List Int)) (second : (List Int)) : (List ((List Int) × (List Int))) :=
  cut_exchangeP_1 first second ([] : List ((List Int) × (List Int)))
def A_cut_exchangeP : List PyData → PyData → Prop := fun ds r => ∃ (first : (List Int)) (second : (List Int)), ds = [(eL eI) first, (eL eI) second] ∧ (okX first second) ∧ r = (eL (eT2 (eL eI) (eL eI))) (cut_exchangeP first second)
set_option maxHeartbeats 4000000 in
theorem ok_cut_exchangeP {P : Program} {w : World} {K : PySem.W.Frag} {mg : Str → Option Value} {base : Heap} (T : Top K mg) : Fn P w K mg base 3 "cut_exchange" ["first", "second"] (spDD K A_cut_exchangeP) := by
  obtain ⟨f, fd, F, gm⟩ := T.f_cut_exchangeP
  have sc := sc_cut_exchangeP
  refine ⟨f, fd, F.ok sc (fun vs H Q E h => ?_) (fun cdv A outer s0 H vs Q E hr h => ⟨_, PSs.nox pss_w, ?_⟩), gm, F.kp, F.bindsN (fun _ _ _ _ _ _ us hl => match us, hl with | [_, _], _ => rfl)⟩
  · obtain ⟨F, ds, r, w, ra, ⟨first, second, rfl, hpre, rfl⟩, q⟩ := h
    exact ra.len
  · obtain ⟨F, ds, r, w, ra, ⟨first, second, rfl, hpre, rfl⟩, q⟩ := h
    obtain ⟨v_first, ws, rfl, r_first, ra⟩ := ra.cons_inv
    obtain ⟨v_second, ws, rfl, r_second, ra⟩ := ra.cons_inv
    obtain rfl := ra.nil_inv
    have st := Stp.refl w
    have hf : cut_exchangeP first second = cut_exchangeP first second := rfl
    show ZS _ _ [some v_first, some v_second, none, none, none, none, none, none] H _
    refine zs_setN (n := 2) st.ok (zn_lstt (enc := (eT2 (eL eI) (eL eI))) (xs := ([] : List ((List Int) × (List Int)))) za_nil) sc.nd rfl (by first | exact Or.inl rfl | exact Or.inr rfl) fun p_cuts us_cuts F_2 H_2 hp_2 s_2 r_cuts => ?_
    obtain ⟨cuts, hx_cuts⟩ : ∃ z : (List ((List Int) × (List Int))), z = ([] : List ((List Int) × (List Int))) := ⟨_, rfl⟩
    have hn := st.newAt hp_2
    have s_2 : Stp F [] H F_2 [(p_cuts, .lst us_cuts)] H_2 := by exact s_2
    have r_cuts : RA K F_2 us_cuts (cuts.map (eT2 (eL eI) (eL eI))) := by subst hx_cuts; exact r_cuts
    have st := st.trans s_2
    have r_first := r_first.mono s_2.gr
    have r_second := r_second.mono s_2.gr
    show ZS _ _ [some v_first, some v_second, some (.ref p_cuts), none, none, none, none, none] H_2 _
    have hf : cut_exchangeP first second = cut_exchangeP_1 first second cuts := by subst hx_cuts; exact hf
    refine zs_setN (n := 3) st.ok (zn_sortI T.b_sorted (ze_var 0 rfl r_first)) sc.nd rfl (by first | exact Or.inl rfl | exact Or.inr rfl) fun p_left us_left F_3 H_3 hp_3 s_3 r_left => ?_
    obtain ⟨left, hx_left⟩ : ∃ z : (List Int), z = (sortI first) := ⟨_, rfl⟩
    have hn_2 := st.newAt hp_3
    have s_3 : Stp F_2 [(p_cuts, .lst us_cuts)] H_2 F_3 [(p_left, .lst us_left), (p_cuts, .lst us_cuts)] H_3 := by exact s_3
    have r_left : RA K F_3 us_left (left.map eI) := by subst hx_left; exact r_left
    have st := st.trans s_3
    have r_first := r_first.mono s_3.gr
    have r_second := r_second.mono s_3.gr
    have r_cuts := r_cuts.mono s_3.gr
    have gz : Gr F_3 (upd F_3 p_left (.lst us_left)) := Gr.upd (st.ok.at_ (k := 0) rfl).2
    have r_left_2 : R K (upd F_3 p_left (.lst us_left)) (.ref p_left) (eL eI left) := (r_left.mono gz).lst upd_same
    have st : Stp _ _ _ (upd F_3 p_left (.lst us_left)) [(p_cuts, .lst us_cuts)] H_3 := st.freezeAt 0 rfl hn_2
    have r_first := r_first.mono gz
    have r_second := r_second.mono gz
    have r_cuts := r_cuts.mono gz
    show ZS _ _ [some v_first, some v_second, some (.ref p_cuts), some (.ref p_left), none, none, none, none] H_3 _
    have hf : cut_exchangeP first second = cut_exchangeP_2 second cuts left := by subst hx_left; exact hf
    refine zs_setN (n := 4) st.ok (zn_sortI T.b_sorted (ze_var 1 rfl r_second)) sc.nd rfl (by first | exact Or.inl rfl | exact Or.inr rfl) fun p_right us_right F_5 H_4 hp_4 s_4 r_right => ?_
    obtain ⟨right, hx_right⟩ : ∃ z : (List Int), z = (sortI second) := ⟨_, rfl⟩
    have hn_3 := st.newAt hp_4
    have s_4 : Stp (upd F_3 p_left (.lst us_left)) [(p_cuts, .lst us_cuts)] H_3 F_5 [(p_right, .lst us_right), (p_cuts, .lst us_cuts)] H_4 := by exact s_4
    have r_right : RA K F_5 us_right (right.map eI) := by subst hx_right; exact r_right
    have st := st.trans s_4
    have r_first := r_first.mono s_4.gr
    have r_second := r_second.mono s_4.gr
    have r_cuts := r_cuts.mono s_4.gr
    have r_left_2 := r_left_2.mono s_4.gr
    have gz_2 : Gr F_5 (upd F_5 p_right (.lst us_right)) := Gr.upd (st.ok.at_ (k := 0) rfl).2
    have r_right_2 : R K (upd F_5 p_right (.lst us_right)) (.ref p_right) (eL eI right) := (r_right.mono gz_2).lst upd_same
    have st : Stp _ _ _ (upd F_5 p_right (.lst us_right)) [(p_cuts, .lst us_cuts)] H_4 := st.freezeAt 0 rfl hn_3
    have r_first := r_first.mono gz_2
    have r_second := r_second.mono gz_2
    have r_cuts := r_cuts.mono gz_2
    have r_left_2 := r_left_2.mono gz_2
    show ZS _ _ [some v_first, some v_second, some (.ref p_cuts), some (.ref p_left), some (.ref p_right), none, none, none] H_4 _
    have hf : cut_exchangeP first second = cut_exchangeP_3 cuts left right := by subst hx_right; exact hf
    have wS : WOk (onlyH [p_left, p_right] (upd F_5 p_right (.lst us_right))) [(p_cuts, .lst us_cuts)] H_4 := WOk.small st.ok Gr.only
    have r_cuts : RA K (onlyH [p_left, p_right] (upd F_5 p_right (.lst us_right))) us_cuts (cuts.map (eT2 (eL eI) (eL eI))) := ra_flat0 r_cuts hx_cuts
    have r_left_2 : R K (onlyH [p_left, p_right] (upd F_5 p_right (.lst us_right))) (.ref p_left) ((eL eI) left) := only_I (by simp) r_left_2
    have r_right_2 : R K (onlyH [p_left, p_right] (upd F_5 p_right (.lst us_right))) (.ref p_right) ((eL eI) right) := only_I (by simp) r_right_2
    have st0 := st
    have hFs : ∀ b u, (onlyH [p_left, p_right] (upd F_5 p_right (.lst us_right))) b = some u → H b = none := only_new (fun p hp => by simp only [List.mem_cons, List.not_mem_nil, or_false] at hp; rcases hp with rfl | rfl <;> assumption)
    have st : Stp (onlyH [p_left, p_right] (upd F_5 p_right (.lst us_right))) [(p_cuts, .lst us_cuts)] H_4 (onlyH [p_left, p_right] (upd F_5 p_right (.lst us_right))) [(p_cuts, .lst us_cuts)] H_4 := Stp.refl wS
    show ZS _ _ [some v_first, some v_second, some (.ref p_cuts), some (.ref p_left), some (.ref p_right), none, none, none] H_4 _
    refine zs_whileF st.ok cut_exchangeP_L1 cut_exchangeP_L1c cut_exchangeP_L1m (cuts, left, right) PassesOwn.never (fun b σ F O => ∃ (w1 : V) (w2 : V) (z3 : Option V) (z4 : Option V) (z5 : Option V) (w6 : List V), σ = [some v_first, some v_second, some (.ref p_cuts), some w1, some w2, z3, z4, z5] ∧ O = [(p_cuts, .lst w6)] ∧ R K F w1 ((eL eI) b.2.1) ∧ R K F w2 ((eL eI) b.2.2) ∧ RA K F w6 (b.1.map (eT2 (eL eI) (eL eI))) ∧ (okX b.2.1 b.2.2 ∧ b.1.length + b.2.1.length ≤ 8)) (⟨(.ref p_left), (.ref p_right), none, none, none, us_cuts, rfl, rfl, r_left_2, r_right_2, r_cuts, by rw [hx_left, hx_right, hx_cuts]; exact ⟨okX_sort hpre, by rw [(sortI_perm first).length_eq]; have h8 := hpre.2.2.2.1; show 0 + _ ≤ 8; omega⟩⟩) (fun b σ F_7 O_2 H_5 s_5 rel => ?_) (fun b_2 σ_2 F_17 O_3 H_13 s_13 rel_2 hc hb zt F_18 H_14 s_14 => ?_)
    · skip
      obtain ⟨cuts_2, left_2, right_2⟩ := b
      obtain ⟨v_left_2, v_right_2, z_table, z_other, z_total, us_cuts_2, rfl, rfl, r_left_3, r_right_3, r_cuts_2, hinv⟩ := rel
      have r_left_3 : R K _ v_left_2 ((eL eI) left_2) := r_left_3
      have r_right_3 : R K _ v_right_2 ((eL eI) right_2) := r_right_3
      have r_cuts_2 : RA K _ us_cuts_2 (cuts_2.map (eT2 (eL eI) (eL eI))) := r_cuts_2
      have st := st.trans s_5
      have hinv : okX left_2 right_2 ∧ cuts_2.length + left_2.length ≤ 8 := hinv
      refine ⟨(zt_cm cm_gt (ze_lenLt T.b_len (ze_var 3 rfl r_left_3)) ze_int), fun hcb F_8 H_6 s_6 => ?_⟩
      have sb : Stp F_7 [(p_cuts, .lst us_cuts_2)] H_5 F_7 [(p_cuts, .lst us_cuts_2)] H_5 := Stp.refl st.ok
      have s_6 : Stp F_7 [(p_cuts, .lst us_cuts_2)] H_5 F_8 [(p_cuts, .lst us_cuts_2)] H_6 := by exact s_6
      have st := st.trans s_6
      have sb := sb.trans s_6
      have r_cuts_2 := r_cuts_2.mono s_6.gr
      have r_left_3 := r_left_3.mono s_6.gr
      have r_right_3 := r_right_3.mono s_6.gr
      have hfb : cut_exchangeP_L1 (cuts_2, left_2, right_2) = cut_exchangeP_L1b cuts_2 left_2 right_2 := rfl
      have hE := hinv
      have hpos : 0 < left_2.length := by have h8 : decide ((0 : Int) < (left_2.length : Int)) = true := hcb; have h9 := of_decide_eq_true h8; omega
      have hl8 := hE.1.2.2.2.1
      have hr8 := hE.1.2.2.2.2
      show ZS _ _ [some v_first, some v_second, some (.ref p_cuts), some v_left_2, some v_right_2, z_table, z_other, z_total] H_6 _
      refine zs_set (n := 5) st.ok (ze_callD (ok_sub_sumsP T) (hr.mono (by decide)) (za_cons (ze_var 3 rfl r_left_3) za_nil) ⟨left_2, rfl, (by /-1-/ first | (first | omega | (simp only [List.length_append, List.length_cons, List.length_nil, List.length_map, rangeI_length]; omega)) | (first | omega | (rw [← szL]; omega) | (simp only [List.length_append, List.length_cons, List.length_nil, List.length_map, rangeI_length, ← szL]; omega))), rfl⟩) sc.nd rfl (by first | exact Or.inl rfl | exact Or.inr rfl) fun v_table F_9 H_7 s_7 r_table => ?_
      obtain ⟨table, hx_table⟩ : ∃ z : (List (Int × (List Int))), z = (sub_sumsP left_2) := ⟨_, rfl⟩
      have s_7 : Stp F_8 [(p_cuts, .lst us_cuts_2)] H_6 F_9 [(p_cuts, .lst us_cuts_2)] H_7 := by exact s_7
      have r_table : R K F_9 v_table ((eM kI (eL eI)) table) := by subst hx_table; exact r_table
      have st := st.trans s_7
      have sb := sb.trans s_7
      have r_cuts_2 := r_cuts_2.mono s_7.gr
      have r_left_3 := r_left_3.mono s_7.gr
      have r_right_3 := r_right_3.mono s_7.gr
      show ZS _ _ [some v_first, some v_second, some (.ref p_cuts), some v_left_2, some v_right_2, some v_table, z_other, z_total] H_7 _
      have hfb : cut_exchangeP_L1 (cuts_2, left_2, right_2) = cut_exchangeP_4 cuts_2 left_2 right_2 table := by subst hx_table; exact hfb
      refine zs_set (n := 6) st.ok (ze_callD (ok_sub_sumsP T) (hr.mono (by decide)) (za_cons (ze_var 4 rfl r_right_3) za_nil) ⟨right_2, rfl, (by /-2-/ first | (first | omega | (simp only [List.length_append, List.length_cons, List.length_nil, List.length_map, rangeI_length]; omega)) | (first | omega | (rw [← szL]; omega) | (simp only [List.length_append, List.length_cons, List.length_nil, List.length_map, rangeI_length, ← szL]; omega))), rfl⟩) sc.nd rfl (by first | exact Or.inl rfl | exact Or.inr rfl) fun v_other F_10 H_8 s_8 r_other => ?_
      obtain ⟨other, hx_other⟩ : ∃ z : (List (Int × (List Int))), z = (sub_sumsP right_2) := ⟨_, rfl⟩
      have s_8 : Stp F_9 [(p_cuts, .lst us_cuts_2)] H_7 F_10 [(p_cuts, .lst us_cuts_2)] H_8 := by exact s_8
      have r_other : R K F_10 v_other ((eM kI (eL eI)) other) := by subst hx_other; exact r_other
      have st := st.trans s_8
      have sb := sb.trans s_8
      have r_cuts_2 := r_cuts_2.mono s_8.gr
      have r_left_3 := r_left_3.mono s_8.gr
      have r_right_3 := r_right_3.mono s_8.gr
      have r_table := r_table.mono s_8.gr
      show ZS _ _ [some v_first, some v_second, some (.ref p_cuts), some v_left_2, some v_right_2, some v_table, some v_other, z_total] H_8 _
      have hfb : cut_exchangeP_L1 (cuts_2, left_2, right_2) = cut_exchangeP_5 cuts_2 left_2 right_2 table other := by subst hx_other; exact hfb
      refine zs_set (n := 7) st.ok (ze_some (ze_callD (ok_least_commonP T) (hr.mono (by decide)) (za_cons (ze_var 5 rfl r_table) (za_cons (ze_var 6 rfl r_other) za_nil)) ⟨table, other, rfl, (by /-3-/ rw [hx_table, hx_other]; exact ⟨table_len hl8, table_len hr8⟩), rfl⟩) (by /-4-/ rw [hx_table, hx_other]; exact cut_some hE.1 hpos)) sc.nd rfl (by first | exact Or.inl rfl | exact Or.inr rfl) fun v_total F_11 H_9 s_9 r_total => ?_
      obtain ⟨total, hx_total⟩ : ∃ z : Int, z = ((least_commonP table other).getD default) := ⟨_, rfl⟩
      have s_9 : Stp F_10 [(p_cuts, .lst us_cuts_2)] H_8 F_11 [(p_cuts, .lst us_cuts_2)] H_9 := by exact s_9
      have r_total : R K F_11 v_total (eI total) := by subst hx_total; exact r_total
      have st := st.trans s_9
      have sb := sb.trans s_9
      have r_cuts_2 := r_cuts_2.mono s_9.gr
      have r_left_3 := r_left_3.mono s_9.gr
      have r_right_3 := r_right_3.mono s_9.gr
      have r_table := r_table.mono s_9.gr
      have r_other := r_other.mono s_9.gr
      show ZS _ _ [some v_first, some v_second, some (.ref p_cuts), some v_left_2, some v_right_2, some v_table, some v_other, some v_total] H_9 _
      have hfb : cut_exchangeP_L1 (cuts_2, left_2, right_2) = cut_exchangeP_6 cuts_2 left_2 right_2 table other total := by subst hx_total; exact hfb
      have hst : CutOk left_2 right_2 total ((getM table total).getD default) ((getM other total).getD default) := by rw [hx_total, hx_table, hx_other]; exact cut_step hE.1 hpos
      have hlv := hst.lv
      have hlw := hst.lw
      have hl : (us_cuts_2).length = cuts_2.length := by have h := r_cuts_2.len; exact h.trans (by rw [List.length_map])
      refine zs_append st.ok 2 0 rfl (ze_tup2 (e1 := (eL eI)) (e2 := (eL eI)) (a := ((getM table total).getD default)) (b := ((getM other total).getD default)) (ze_dsub (kk := kI) (k := total) (enc := (eL eI)) hr (ze_var 5 rfl r_table) (ze_var 7 rfl r_total) (by /-5-/ rw [hx_table]; exact hst.gs)) (ze_dsub (kk := kI) (k := total) (enc := (eL eI)) hr (ze_var 6 rfl r_other) (ze_var 7 rfl r_total) (by /-6-/ rw [hx_other]; exact hst.gt))) rfl (by rw [hl]; exact (by /-7-/ have h9 := hE.2; rw [← szL]; omega)) fun v F_12 H_10 s_10 r_2 => ?_
      obtain ⟨cuts_3, hx_cuts_3⟩ : ∃ z : (List ((List Int) × (List Int))), z = cuts_2 ++ [(((getM table total).getD default), ((getM other total).getD default))] := ⟨_, rfl⟩
      obtain ⟨us_cuts_3, hus_cuts_3⟩ : ∃ z, z = us_cuts_2 ++ [v] := ⟨_, rfl⟩
      have s_10 : Stp F_11 [(p_cuts, .lst us_cuts_2)] H_9 F_12 [(p_cuts, .lst us_cuts_3)] H_10 := by subst hus_cuts_3; exact s_10
      have r_cuts_3 : RA K F_12 us_cuts_3 (cuts_3.map (eT2 (eL eI) (eL eI))) := by rw [hus_cuts_3, hx_cuts_3, List.map_append]; exact (r_cuts_2.mono s_10.gr).snoc r_2
      have st := st.trans s_10
      have sb := sb.trans s_10
      have r_left_3 := r_left_3.mono s_10.gr
      have r_right_3 := r_right_3.mono s_10.gr
      have r_table := r_table.mono s_10.gr
      have r_other := r_other.mono s_10.gr
      have r_total := r_total.mono s_10.gr
      show ZS _ _ [some v_first, some v_second, some (.ref p_cuts), some v_left_2, some v_right_2, some v_table, some v_other, some v_total] H_10 _
      have hfb : cut_exchangeP_L1 (cuts_2, left_2, right_2) = cut_exchangeP_7 cuts_3 left_2 right_2 table other total := by subst hx_cuts_3; exact hfb
      refine zs_setN (n := 3) st.ok (zn_callN (ok_lessP T) (hr.mono (by decide)) (za_cons (ze_var 3 rfl r_left_3) (za_cons (ze_dsub (kk := kI) (k := total) (enc := (eL eI)) hr (ze_var 5 rfl r_table) (ze_var 7 rfl r_total) (by /-8-/ rw [hx_table]; exact hst.gs)) za_nil)) ⟨left_2, ((getM table total).getD default), rfl, (by /-9-/ exact ⟨by omega, by omega⟩), rfl⟩) sc.nd rfl (by first | exact Or.inl rfl | exact Or.inr rfl) fun p_left_2 us_left_2 F_13 H_11 hp_5 s_11 r_left_4 => ?_
      obtain ⟨left_3, hx_left_3⟩ : ∃ z : (List Int), z = (lessP left_2 ((getM table total).getD default)) := ⟨_, rfl⟩
      have hn_4 := st.newAt hp_5
      have hn_5 := sb.newAt hp_5
      have s_11 : Stp F_12 [(p_cuts, .lst us_cuts_3)] H_10 F_13 [(p_left_2, .lst us_left_2), (p_cuts, .lst us_cuts_3)] H_11 := by exact s_11
      have r_left_4 : RA K F_13 us_left_2 (left_3.map eI) := by subst hx_left_3; exact r_left_4
      have st := st.trans s_11
      have sb := sb.trans s_11
      have r_cuts_3 := r_cuts_3.mono s_11.gr
      have r_right_3 := r_right_3.mono s_11.gr
      have r_table := r_table.mono s_11.gr
      have r_other := r_other.mono s_11.gr
      have r_total := r_total.mono s_11.gr
      have gz_3 : Gr F_13 (upd F_13 p_left_2 (.lst us_left_2)) := Gr.upd (st.ok.at_ (k := 0) rfl).2
      have r_left_5 : R K (upd F_13 p_left_2 (.lst us_left_2)) (.ref p_left_2) (eL eI left_3) := (r_left_4.mono gz_3).lst upd_same
      have st : Stp _ _ _ (upd F_13 p_left_2 (.lst us_left_2)) [(p_cuts, .lst us_cuts_3)] H_11 := st.freezeAt 0 rfl hn_4
      have sb : Stp _ _ _ (upd F_13 p_left_2 (.lst us_left_2)) [(p_cuts, .lst us_cuts_3)] H_11 := sb.freezeAt 0 rfl hn_5
      have r_cuts_3 := r_cuts_3.mono gz_3
      have r_right_3 := r_right_3.mono gz_3
      have r_table := r_table.mono gz_3
      have r_other := r_other.mono gz_3
      have r_total := r_total.mono gz_3
      show ZS _ _ [some v_first, some v_second, some (.ref p_cuts), some (.ref p_left_2), some v_right_2, some v_table, some v_other, some v_total] H_11 _
      have hfb : cut_exchangeP_L1 (cuts_2, left_2, right_2) = cut_exchangeP_8 cuts_3 left_3 right_2 other total := by subst hx_left_3; exact hfb
      refine zs_setN (n := 4) st.ok (zn_callN (ok_lessP T) (hr.mono (by decide)) (za_cons (ze_var 4 rfl r_right_3) (za_cons (ze_dsub (kk := kI) (k := total) (enc := (eL eI)) hr (ze_var 6 rfl r_other) (ze_var 7 rfl r_total) (by /-10-/ rw [hx_other]; exact hst.gt)) za_nil)) ⟨right_2, ((getM other total).getD default), rfl, (by /-11-/ exact ⟨by omega, by omega⟩), rfl⟩) sc.nd rfl (by first | exact Or.inl rfl | exact Or.inr rfl) fun p_right_2 us_right_2 F_15 H_12 hp_6 s_12 r_right_4 => ?_
      obtain ⟨right_3, hx_right_3⟩ : ∃ z : (List Int), z = (lessP right_2 ((getM other total).getD default)) := ⟨_, rfl⟩
      have hn_6 := st.newAt hp_6
      have hn_7 := sb.newAt hp_6
      have s_12 : Stp (upd F_13 p_left_2 (.lst us_left_2)) [(p_cuts, .lst us_cuts_3)] H_11 F_15 [(p_right_2, .lst us_right_2), (p_cuts, .lst us_cuts_3)] H_12 := by exact s_12
      have r_right_4 : RA K F_15 us_right_2 (right_3.map eI) := by subst hx_right_3; exact r_right_4
      have st := st.trans s_12
      have sb := sb.trans s_12
      have r_cuts_3 := r_cuts_3.mono s_12.gr
      have r_table := r_table.mono s_12.gr
      have r_other := r_other.mono s_12.gr
      have r_total := r_total.mono s_12.gr
      have r_left_5 := r_left_5.mono s_12.gr
      have gz_4 : Gr F_15 (upd F_15 p_right_2 (.lst us_right_2)) := Gr.upd (st.ok.at_ (k := 0) rfl).2
      have r_right_5 : R K (upd F_15 p_right_2 (.lst us_right_2)) (.ref p_right_2) (eL eI right_3) := (r_right_4.mono gz_4).lst upd_same
      have st : Stp _ _ _ (upd F_15 p_right_2 (.lst us_right_2)) [(p_cuts, .lst us_cuts_3)] H_12 := st.freezeAt 0 rfl hn_6
      have sb : Stp _ _ _ (upd F_15 p_right_2 (.lst us_right_2)) [(p_cuts, .lst us_cuts_3)] H_12 := sb.freezeAt 0 rfl hn_7
      have r_cuts_3 := r_cuts_3.mono gz_4
      have r_table := r_table.mono gz_4
      have r_other := r_other.mono gz_4
      have r_total := r_total.mono gz_4
      have r_left_5 := r_left_5.mono gz_4
      show ZS _ _ [some v_first, some v_second, some (.ref p_cuts), some (.ref p_left_2), some (.ref p_right_2), some v_table, some v_other, some v_total] H_12 _
      have hfb : cut_exchangeP_L1 (cuts_2, left_2, right_2) = cut_exchangeP_9 cuts_3 left_3 right_3 := by subst hx_right_3; exact hfb
      refine zs_nil ?_
      exact ⟨_, _, sb, by (try rw [hfb]); exact ⟨(.ref p_left_2), (.ref p_right_2), some v_table, some v_other, some v_total, us_cuts_3, rfl, rfl, r_left_5, r_right_5, r_cuts_3, (show okX left_3 right_3 ∧ cuts_3.length + left_3.length ≤ 8 from by rw [hx_left_3, hx_right_3, hx_cuts_3, List.length_append]; exact ⟨hst.next hE.1, by have h8 := hst.less; have h9 := hE.2; show _ + 1 + _ ≤ 8; omega⟩)⟩, by rw [hfb]; show left_3.length < left_2.length; rw [hx_left_3]; exact hst.less⟩
    · skip
      obtain ⟨cuts_4, left_4, right_4⟩ := b_2
      obtain ⟨v_left_4, v_right_4, z_table_2, z_other_2, z_total_2, us_cuts_4, rfl, rfl, r_left_6, r_right_6, r_cuts_4, hinv_2⟩ := rel_2
      have r_left_6 : R K _ v_left_4 ((eL eI) left_4) := r_left_6
      have r_right_6 : R K _ v_right_4 ((eL eI) right_4) := r_right_6
      have r_cuts_4 : RA K _ us_cuts_4 (cuts_4.map (eT2 (eL eI) (eL eI))) := r_cuts_4
      have st := st.trans s_13
      have s_14 : Stp F_17 [(p_cuts, .lst us_cuts_4)] H_13 F_18 [(p_cuts, .lst us_cuts_4)] H_14 := by exact s_14
      have st := st.trans s_14
      have r_cuts_4 := r_cuts_4.mono s_14.gr
      have r_left_6 := r_left_6.mono s_14.gr
      have r_right_6 := r_right_6.mono s_14.gr
      have hinv_2 : okX left_4 right_4 ∧ cuts_4.length + left_4.length ≤ 8 := hinv_2
      have hf : cut_exchangeP first second = cut_exchangeP_10 (cuts_4, left_4, right_4) := by rw [← hb]; exact hf
      show ZS _ _ [some v_first, some v_second, some (.ref p_cuts), some v_left_4, some v_right_4, z_table_2, z_other_2, z_total_2] H_14 _
      have fz := (st.ok.at_ (k := 0) rfl).2
      have stS := st
      have hs := Stp.un st0.ok Gr.only st
      have st := st0.trans hs.1
      refine zs_retV (n := 2) rfl ?_
      exact q (.ref p_cuts) _ H_14 (upd F_18 p_cuts (.lst us_cuts_4)) (st.freeze hn) (Gr.lend Gr.unl) (new_un st0 hFs stS hn) (by rw [hf]; exact (r_cuts_4.mono (Gr.upd fz)).lst upd_same)
/-- a case: notes of the same sum on both sides -/
def okC (xs ys : List Int) : Prop := okX xs ys ∧ 1 ≤ xs.length ∧ xs.length ≤ 7 ∧ 1 ≤ ys.length ∧ ys.length ≤ 7 ∧ (∀ x ∈ xs, x ≤ 1000000) ∧ ∀ x ∈ ys, x ≤ 1000000

end ZL

end
section
namespace ZL
open PySem PySem.Spec PyProof.Rows L2 Z
/-! _law_split -/
abbrev s_splitL : Stmt := topS 19
theorem sc_splitL : FnScope ["store", "total", "many", "left", "notes", "k", "note"] ["store", "total", "many"] (defScope s_splitL) := ⟨rfl, rfl, rfl, by decide +kernel, rfl, by decide +kernel, by decide +kernel⟩
def splitL_5 (left_3 : Int) (notes_3 : (List Int)) (s_8 : Sto) : (Int × (List Int) × Sto) :=
  (left_3, notes_3, s_8)
def splitL_4 (left_2 : Int) (notes_3 : (List Int)) (note : Int) (s_8 : Sto) : (Int × (List Int) × Sto) :=
  splitL_5 (left_2 - note) notes_3 s_8
def splitL_3 (left_2 : Int) (notes_2 : (List Int)) (note : Int) (s_8 : Sto) : (Int × (List Int) × Sto) :=
  splitL_4 left_2 (notes_2 ++ [note]) note s_8
def splitL_L1b (cs : List Int) (left_2 : Int) (notes_2 : (List Int)) (s_5 : Sto) : (Int × (List Int) × Sto) :=
  (cond (decide ((1 : Int) < left_2)) (splitL_3 left_2 notes_2 ((number cs s_5 (1 : Int) (left_2 - (1 : Int))).1) ((number cs s_5 (1 : Int) (left_2 - (1 : Int))).2)) (left_2, notes_2, s_5))
def splitL_L1 (cs : List Int) (b : (Int × (List Int) × Sto)) (a : Int) : (Int × (List Int) × Sto) :=
  splitL_L1b cs b.1 b.2.1 b.2.2
def splitL_6 (b : (Int × (List Int) × Sto)) : (List Int) × Sto :=
  ((sortI (b.2.1 ++ ([b.1] : List Int))), b.2.2)
def splitL_2 (cs : List Int) (many : Int) (left : Int) (notes : (List Int)) (s : Sto) : (List Int) × Sto :=
  splitL_6 (List.foldl (splitL_L1 cs) (left, notes, (take cs s many).2) (rangeI 0 ((take cs s many).1)))
def splitL_1 (cs : List Int) (many : Int) (left : Int) (s : Sto) : (List Int) × Sto :=
  splitL_2 cs many left ([] : List Int) s
def splitL (cs : List Int) (s : Sto) (total : Int) (many : Int) : (List Int) × Sto :=
  splitL_1 cs many total s
def A_splitL : List Int → Sto → List PyData → PyData → Sto → Prop := fun cs s ds r s' => ∃ (total : Int) (many : Int), ds = [eI total, eI many] ∧ (1 ≤ total ∧ total ≤ 1000000 ∧ 1 ≤ many ∧ many ≤ 7) ∧ r = (eL eI) (splitL cs s total many).1 ∧ s' = (splitL cs s total many).2
set_option maxHeartbeats 4000000 in
theorem ok_splitL {P : Program} {w : World} {K : PySem.W.Frag} {mg : Str → Option Value} {base : Heap} (T : Top K mg) : Fn P w K mg base 5 "_law_split" ["store", "total", "many"] (spS K A_splitL) := by
  obtain ⟨f, fd, F, gm⟩ := T.f_splitL
  have sc := sc_splitL
  refine ⟨f, fd, F.ok sc (fun vs H Q E h => ?_) (fun cdv A outer s0 H vs Q E hr h => ⟨_, PSs.nox pss_w, ?_⟩), gm, F.kp, F.bindsN (fun _ _ _ _ _ _ us hl => match us, hl with | [_, _, _], _ => rfl)⟩
  · obtain ⟨F, a_st, c_st, cs, s, ws, ds, r, s', rfl, w, rc, ra, ⟨total, many, rfl, hpre, rfl, rfl⟩, q⟩ := h
    have h := ra.len
    show ws.length + 1 = 3
    rw [h]; rfl
  · obtain ⟨F, a_st, c_st, cs, s, ws, ds, r, s', rfl, w, r_st, ra, ⟨total, many, rfl, hpre, rfl, rfl⟩, q⟩ := h
    obtain ⟨v_total, ws, rfl, r_total, ra⟩ := ra.cons_inv
    obtain ⟨v_many, ws, rfl, r_many, ra⟩ := ra.cons_inv
    obtain rfl := ra.nil_inv
    have st := Stp.refl w
    have hf : splitL cs s total many = splitL cs s total many := rfl
    show ZS _ _ [some (.ref a_st), some v_total, some v_many, none, none, none, none] H _
    refine zs_set (n := 3) st.ok (ze_var 1 rfl r_total) sc.nd rfl (by first | exact Or.inl rfl | exact Or.inr rfl) fun v_left F_2 H_2 s_2 r_left => ?_
    obtain ⟨left, hx_left⟩ : ∃ z : Int, z = total := ⟨_, rfl⟩
    have s_2 : Stp F [stoO a_st c_st s] H F_2 [stoO a_st c_st s] H_2 := by exact s_2
    have r_left : R K F_2 v_left (eI left) := by subst hx_left; exact r_left
    have st := st.trans s_2
    have r_total := r_total.mono s_2.gr
    have r_many := r_many.mono s_2.gr
    have r_st := r_st.mono s_2.gr
    show ZS _ _ [some (.ref a_st), some v_total, some v_many, some v_left, none, none, none] H_2 _
    have hf : splitL cs s total many = splitL_1 cs many left s := by subst hx_left; exact hf
    refine zs_setN (n := 4) st.ok (zn_lstt (enc := eI) (xs := ([] : List Int)) za_nil) sc.nd rfl (by first | exact Or.inl rfl | exact Or.inr rfl) fun p_notes us_notes F_3 H_3 hp_2 s_3 r_notes => ?_
    obtain ⟨notes, hx_notes⟩ : ∃ z : (List Int), z = ([] : List Int) := ⟨_, rfl⟩
    have hn := st.newAt hp_2
    have s_3 : Stp F_2 [stoO a_st c_st s] H_2 F_3 [(p_notes, .lst us_notes), stoO a_st c_st s] H_3 := by exact s_3
    have r_notes : RA K F_3 us_notes (notes.map eI) := by subst hx_notes; exact r_notes
    have st := st.trans s_3
    have r_total := r_total.mono s_3.gr
    have r_many := r_many.mono s_3.gr
    have r_st := r_st.mono s_3.gr
    have r_left := r_left.mono s_3.gr
    show ZS _ _ [some (.ref a_st), some v_total, some v_many, some v_left, some (.ref p_notes), none, none] H_3 _
    have hf : splitL cs s total many = splitL_2 cs many left notes s := by subst hx_notes; exact hf
    refine zs_forF (f := (splitL_L1 cs)) (b0 := (left, notes, (take cs s many).2)) st.ok PassesOwn.never rfl (zi_range1 T.b_range (ze_callS 0 1 (ok_take T) (hr.mono (by decide)) rfl r_st (za_cons (ze_var 2 rfl r_many) za_nil) rfl ⟨many, rfl, (by /-1-/ first | (first | omega | (simp only [List.length_append, List.length_cons, List.length_nil, List.length_map, rangeI_length]; omega)) | (first | omega | (rw [← szL]; omega) | (simp only [List.length_append, List.length_cons, List.length_nil, List.length_map, rangeI_length, ← szL]; omega))), rfl, rfl⟩) (by /-2-/ have h8 := take_lt (cs := cs) (s := s) (many := many) (by omega); omega)) (fun iq b σ F O => ∃ (w1 : V) (z2 : Option V) (z3 : Option V) (w4 : List V), σ = [some (.ref a_st), some v_total, some v_many, some w1, some (.ref p_notes), z2, z3] ∧ O = [(p_notes, .lst w4), stoO a_st c_st b.2.2] ∧ R K F w1 (eI b.1) ∧ RA K F w4 (b.2.1.map eI) ∧ (1 ≤ b.1 ∧ b.1 ≤ total ∧ b.2.1.length ≤ iq)) (fun F_13 H_11 s_14 => ⟨v_left, none, none, us_notes, rfl, rfl, r_left.mono s_14.gr, r_notes.mono s_14.gr, by rw [hx_left, hx_notes]; exact ⟨by omega, Int.le_refl _, Nat.zero_le _⟩⟩) (fun i b k v σ F_4 F_5 O_2 H_4 ha hbe hz rel g s_4 r_2 => ?_) (fun σ_2 F_10 O_3 H_9 s_12 rel_2 => ?_)
    · skip
      obtain ⟨left_2, notes_2, s_5⟩ := b
      obtain ⟨v_left_2, z_k, z_note, us_notes_2, rfl, rfl, r_left_2, r_notes_2, hinv⟩ := rel
      have r_left_2 : R K _ v_left_2 (eI left_2) := r_left_2
      have r_notes_2 : RA K _ us_notes_2 (notes_2.map eI) := r_notes_2
      have st := st.trans s_4
      have r_total := r_total.mono s_4.gr
      have r_many := r_many.mono s_4.gr
      have r_st := r_st.mono s_4.gr
      have r_left_2 := r_left_2.mono g
      have r_notes_2 := r_notes_2.mono g
      have hinv : 1 ≤ left_2 ∧ left_2 ≤ total ∧ notes_2.length ≤ i := hinv
      have hlt_i := (List.getElem?_eq_some_iff.mp ha).1
      rw [rangeI_length] at hlt_i
      have hat_i := rangeI_at ha
      have sb : Stp F_5 [(p_notes, .lst us_notes_2), stoO a_st c_st s_5] H_4 F_5 [(p_notes, .lst us_notes_2), stoO a_st c_st s_5] H_4 := Stp.refl st.ok
      have hfb : splitL_L1 cs (left_2, notes_2, s_5) k = splitL_L1b cs left_2 notes_2 s_5 := rfl
      refine zg_name (n := 5) sc.nd rfl (by first | exact Or.inl rfl | exact Or.inr rfl) ?_
      have hq := hinv
      have htk := take_lt (cs := cs) (s := s) (many := many) (by omega)
      show ZS _ _ [some (.ref a_st), some v_total, some v_many, some v_left_2, some (.ref p_notes), some v, z_note] H_4 _
      refine zs_if st.ok (zt_cm cm_gt (ze_var 3 rfl r_left_2) ze_int) (fun hb F_6 H_5 s_6 => ?_) (fun hb F_6 H_5 s_6 => ?_)
      · have s_6 : Stp F_5 [(p_notes, .lst us_notes_2), stoO a_st c_st s_5] H_4 F_6 [(p_notes, .lst us_notes_2), stoO a_st c_st s_5] H_5 := by exact s_6
        have st := st.trans s_6
        have sb := sb.trans s_6
        have r_total := r_total.mono s_6.gr
        have r_many := r_many.mono s_6.gr
        have r_st := r_st.mono s_6.gr
        have r_left_2 := r_left_2.mono s_6.gr
        have r_notes_2 := r_notes_2.mono s_6.gr
        have r_2 := r_2.mono s_6.gr
        have hfb := hfb.trans (cond_t hb)
        have hb1 := of_decide_eq_true hb
        refine zs_set (n := 6) st.ok (ze_callS 0 1 (ok_number T) (hr.mono (by decide)) rfl r_st (za_cons ze_int (za_cons (ze_sub (ze_var 3 rfl r_left_2) ze_int) za_nil)) rfl ⟨(1 : Int), (left_2 - (1 : Int)), rfl, (by /-3-/ have h8 := hq.2.1; omega), rfl, rfl⟩) sc.nd rfl (by first | exact Or.inl rfl | exact Or.inr rfl) fun v_note F_7 H_6 s_7 r_note => ?_
        obtain ⟨note, hx_note⟩ : ∃ z : Int, z = (number cs s_5 (1 : Int) (left_2 - (1 : Int))).1 := ⟨_, rfl⟩
        obtain ⟨s_8, hx_s_8⟩ : ∃ z : Sto, z = (number cs s_5 (1 : Int) (left_2 - (1 : Int))).2 := ⟨_, rfl⟩
        have s_7 : Stp F_6 [(p_notes, .lst us_notes_2), stoO a_st c_st s_5] H_5 F_7 [(p_notes, .lst us_notes_2), stoO a_st c_st s_8] H_6 := by subst hx_s_8; exact s_7
        have r_note : R K F_7 v_note (eI note) := by subst hx_note; exact r_note
        have st := st.trans s_7
        have sb := sb.trans s_7
        have r_total := r_total.mono s_7.gr
        have r_many := r_many.mono s_7.gr
        have r_st := r_st.mono s_7.gr
        have r_left_2 := r_left_2.mono s_7.gr
        have r_notes_2 := r_notes_2.mono s_7.gr
        have r_2 := r_2.mono s_7.gr
        show ZS _ _ [some (.ref a_st), some v_total, some v_many, some v_left_2, some (.ref p_notes), some v, some v_note] H_6 _
        have hfb : splitL_L1 cs (left_2, notes_2, s_5) k = splitL_3 left_2 notes_2 note s_8 := by subst hx_note; subst hx_s_8; exact hfb
        have hnt : 1 ≤ note ∧ note ≤ left_2 - 1 := by rw [hx_note]; exact number_range _ _ _ _ (by omega)
        have hl : (us_notes_2).length = notes_2.length := by have h := r_notes_2.len; exact h.trans (by rw [List.length_map])
        refine zs_append st.ok 4 0 rfl (ze_var 6 rfl r_note) rfl (by rw [hl]; exact (by /-4-/ have h8 := hq.2.2; rw [← szL]; omega)) fun v_2 F_8 H_7 s_9 r_3 => ?_
        obtain ⟨notes_3, hx_notes_3⟩ : ∃ z : (List Int), z = notes_2 ++ [note] := ⟨_, rfl⟩
        obtain ⟨us_notes_3, hus_notes_3⟩ : ∃ z, z = us_notes_2 ++ [v_2] := ⟨_, rfl⟩
        have s_9 : Stp F_7 [(p_notes, .lst us_notes_2), stoO a_st c_st s_8] H_6 F_8 [(p_notes, .lst us_notes_3), stoO a_st c_st s_8] H_7 := by subst hus_notes_3; exact s_9
        have r_notes_3 : RA K F_8 us_notes_3 (notes_3.map eI) := by rw [hus_notes_3, hx_notes_3, List.map_append]; exact (r_notes_2.mono s_9.gr).snoc r_3
        have st := st.trans s_9
        have sb := sb.trans s_9
        have r_total := r_total.mono s_9.gr
        have r_many := r_many.mono s_9.gr
        have r_st := r_st.mono s_9.gr
        have r_left_2 := r_left_2.mono s_9.gr
        have r_2 := r_2.mono s_9.gr
        have r_note := r_note.mono s_9.gr
        show ZS _ _ [some (.ref a_st), some v_total, some v_many, some v_left_2, some (.ref p_notes), some v, some v_note] H_7 _
        have hfb : splitL_L1 cs (left_2, notes_2, s_5) k = splitL_4 left_2 notes_3 note s_8 := by subst hx_notes_3; exact hfb
        refine zs_set (n := 3) st.ok (ze_sub (ze_var 3 rfl r_left_2) (ze_var 6 rfl r_note)) sc.nd rfl (by first | exact Or.inl rfl | exact Or.inr rfl) fun v_left_3 F_9 H_8 s_10 r_left_3 => ?_
        obtain ⟨left_3, hx_left_3⟩ : ∃ z : Int, z = (left_2 - note) := ⟨_, rfl⟩
        have s_10 : Stp F_8 [(p_notes, .lst us_notes_3), stoO a_st c_st s_8] H_7 F_9 [(p_notes, .lst us_notes_3), stoO a_st c_st s_8] H_8 := by exact s_10
        have r_left_3 : R K F_9 v_left_3 (eI left_3) := by subst hx_left_3; exact r_left_3
        have st := st.trans s_10
        have sb := sb.trans s_10
        have r_total := r_total.mono s_10.gr
        have r_many := r_many.mono s_10.gr
        have r_st := r_st.mono s_10.gr
        have r_notes_3 := r_notes_3.mono s_10.gr
        have r_2 := r_2.mono s_10.gr
        have r_note := r_note.mono s_10.gr
        show ZS _ _ [some (.ref a_st), some v_total, some v_many, some v_left_3, some (.ref p_notes), some v, some v_note] H_8 _
        have hfb : splitL_L1 cs (left_2, notes_2, s_5) k = splitL_5 left_3 notes_3 s_8 := by subst hx_left_3; exact hfb
        refine zs_nil ?_
        show ZS _ _ [some (.ref a_st), some v_total, some v_many, some v_left_3, some (.ref p_notes), some v, some v_note] H_8 _
        refine zs_nil ?_
        exact ⟨_, _, sb, by (try rw [hfb]); exact ⟨v_left_3, some v, some v_note, us_notes_3, rfl, rfl, r_left_3, r_notes_3, (show 1 ≤ left_3 ∧ left_3 ≤ total ∧ notes_3.length ≤ (i + 1) from by first | exact ⟨hq.1, hq.2.1, Nat.le_succ_of_le hq.2.2⟩ | (rw [hx_notes_3, hx_left_3, List.length_append]; exact ⟨by omega, by omega, Nat.succ_le_succ hq.2.2⟩))⟩⟩
      · have s_6 : Stp F_5 [(p_notes, .lst us_notes_2), stoO a_st c_st s_5] H_4 F_6 [(p_notes, .lst us_notes_2), stoO a_st c_st s_5] H_5 := by exact s_6
        have st := st.trans s_6
        have sb := sb.trans s_6
        have r_total := r_total.mono s_6.gr
        have r_many := r_many.mono s_6.gr
        have r_st := r_st.mono s_6.gr
        have r_left_2 := r_left_2.mono s_6.gr
        have r_notes_2 := r_notes_2.mono s_6.gr
        have r_2 := r_2.mono s_6.gr
        have hfb := hfb.trans (cond_f hb)
        refine zs_nil ?_
        show ZS _ _ [some (.ref a_st), some v_total, some v_many, some v_left_2, some (.ref p_notes), some v, z_note] H_5 _
        refine zs_nil ?_
        exact ⟨_, _, sb, by (try rw [hfb]); exact ⟨v_left_2, some v, z_note, us_notes_2, rfl, rfl, r_left_2, r_notes_2, (show 1 ≤ left_2 ∧ left_2 ≤ total ∧ notes_2.length ≤ (i + 1) from by first | exact ⟨hq.1, hq.2.1, Nat.le_succ_of_le hq.2.2⟩ | (rw [hx_notes_2, hx_left_2, List.length_append]; exact ⟨by omega, by omega, Nat.succ_le_succ hq.2.2⟩))⟩⟩
    · skip
      obtain ⟨b_2, hb_2⟩ : ∃ z : (Int × (List Int) × Sto), z = List.foldl (splitL_L1 cs) (left, notes, (take cs s many).2) (rangeI 0 ((take cs s many).1)) := ⟨_, rfl⟩
      try rw [← hb_2] at rel_2
      obtain ⟨left_4, notes_4, s_11⟩ := b_2
      obtain ⟨v_left_4, z_k_2, z_note_2, us_notes_4, rfl, rfl, r_left_4, r_notes_4, hinv_2⟩ := rel_2
      have r_left_4 : R K _ v_left_4 (eI left_4) := r_left_4
      have r_notes_4 : RA K _ us_notes_4 (notes_4.map eI) := r_notes_4
      have st := st.trans s_12
      have r_total := r_total.mono s_12.gr
      have r_many := r_many.mono s_12.gr
      have r_st := r_st.mono s_12.gr
      have hinv_2 : 1 ≤ left_4 ∧ left_4 ≤ total ∧ notes_4.length ≤ (rangeI 0 ((take cs s many).1)).length := hinv_2
      have hf : splitL cs s total many = splitL_6 (left_4, notes_4, s_11) := by rw [hb_2]; exact hf
      have hnl := hinv_2.2.2
      rw [rangeI_length] at hnl
      show ZS _ _ [some (.ref a_st), some v_total, some v_many, some v_left_4, some (.ref p_notes), z_k_2, z_note_2] H_9 _
      have gz : Gr F_10 (upd F_10 p_notes (.lst us_notes_4)) := Gr.upd (st.ok.at_ (k := 0) rfl).2
      have r_notes_5 : R K (upd F_10 p_notes (.lst us_notes_4)) (.ref p_notes) (eL eI notes_4) := (r_notes_4.mono gz).lst upd_same
      have st : Stp _ _ _ (upd F_10 p_notes (.lst us_notes_4)) [stoO a_st c_st s_11] H_9 := st.freezeAt 0 rfl hn
      have r_total := r_total.mono gz
      have r_many := r_many.mono gz
      have r_st := r_st.mono gz
      have r_left_4 := r_left_4.mono gz
      show ZS _ _ [some (.ref a_st), some v_total, some v_many, some v_left_4, some (.ref p_notes), z_k_2, z_note_2] H_9 _
      refine zs_ret st.ok (zn_ze (zn_sortI T.b_sorted (zn_ze (zn_catt (ze_var 4 rfl r_notes_5) (zn_ze (zn_lstt (enc := eI) (xs := ([left_4] : List Int)) (za_cons (ze_var 3 rfl r_left_4) za_nil))) (by /-5-/ have h8 := take_lt (cs := cs) (s := s) (many := many) (by omega); rw [← szL]; show _ + 1 ≤ _; omega))))) fun v_3 F_12 H_10 s_13 r_4 => ?_
      exact q v_3 F_12 H_10 (by rw [hf]; exact (st.trans s_13)) (by rw [hf]; exact r_4)
theorem mapS_mem {α β γ : Type} {f : β → α → γ × β} {y : γ} : ∀ {xs : List α} {s : β}, y ∈ (mapS f s xs).1 → ∃ s' x, x ∈ xs ∧ y = (f s' x).1
  | [], s, h => by simp [mapS] at h
  | x :: xs, s, h => by
    have h : y ∈ (f s x).1 :: (mapS f (f s x).2 xs).1 := h
    rcases List.mem_cons.mp h with rfl | h
    · exact ⟨s, x, List.mem_cons_self, rfl⟩
    · obtain ⟨s', z, hz, e⟩ := mapS_mem h
      exact ⟨s', z, List.mem_cons_of_mem _ hz, e⟩
theorem mapS_length {α β γ : Type} {f : β → α → γ × β} : ∀ {xs : List α} {s : β}, (mapS f s xs).1.length = xs.length
  | [], s => rfl
  | x :: xs, s => congrArg Nat.succ (mapS_length (xs := xs) (s := (f s x).2))
/-! ### what the cuts are -/
theorem sortI_self {xs : List Int} : sortI (sortI xs) = sortI xs := sortI_of (sortI_sorted xs)
theorem ss_sort {xs : List Int} {t : Int} : SS (sortI xs) t ↔ SS xs t := by unfold SS; rw [sortI_self]
theorem ss_sub {v xs : List Int} {u : Int} (h : v.Sublist (sortI xs)) (s : SS v u) : SS xs u := by
  have hv : sortI v = v := sortI_of ((sortI_sorted xs).sublist h)
  obtain ⟨ys, hy, e⟩ := s
  rw [hv] at hy
  exact ⟨ys, hy.trans h, e⟩
abbrev Cuts := List (List Int × List Int)
def PairOk (q : List Int × List Int) : Prop := okX q.1 q.2 ∧ 1 ≤ q.1.length ∧ 1 ≤ q.2.length ∧ q.1.Pairwise (· ≤ ·) ∧ q.2.Pairwise (· ≤ ·) ∧ Prm q.1 q.2
structure CutsOk (first second : List Int) (cuts : Cuts) (left right : List Int) : Prop where
  okx : okX left right
  p1 : (cuts.flatMap (·.1) ++ left).Perm first
  p2 : (cuts.flatMap (·.2) ++ right).Perm second
  each : ∀ q ∈ cuts, PairOk q
theorem CutOk.pair {xs ys v w : List Int} {t : Int} (hx : okX xs ys) (h : CutOk xs ys t v w) : PairOk (v, w) := by
  have m1 : ∀ x ∈ v, 1 ≤ x := fun x m => hx.1 x ((sortI_perm xs).mem_iff.mp (h.sv.subset m))
  have m2 : ∀ x ∈ w, 1 ≤ x := fun x m => hx.2.1 x ((sortI_perm ys).mem_iff.mp (h.sw.subset m))
  have l1 := h.lv
  have l2 := h.lw
  have := hx.2.2.2.1; have := hx.2.2.2.2
  refine ⟨⟨m1, m2, by rw [h.ev, h.ew], by show v.length ≤ 8; omega, by show w.length ≤ 8; omega⟩, ne_of_sum (by rw [h.ev]; exact h.pos), ne_of_sum (by rw [h.ew]; exact h.pos), (sortI_sorted xs).sublist h.sv, (sortI_sorted ys).sublist h.sw, fun u hu s1 s2 => ?_⟩
  show v.sum ≤ u
  rw [h.ev]
  exact h.least u hu (ss_sub h.sv s1) (ss_sub h.sw s2)
def stepV (b : Cuts × List Int × List Int) : List Int × List Int := (((getM (sub_sumsP b.2.1) ((least_commonP (sub_sumsP b.2.1) (sub_sumsP b.2.2)).getD default)).getD default), ((getM (sub_sumsP b.2.2) ((least_commonP (sub_sumsP b.2.1) (sub_sumsP b.2.2)).getD default)).getD default))
theorem step_eq (b : Cuts × List Int × List Int) : cut_exchangeP_L1 b = (b.1 ++ [stepV b], lessP b.2.1 (stepV b).1, lessP b.2.2 (stepV b).2) := rfl
theorem cuts_step {first second : List Int} {b : Cuts × List Int × List Int} (h : CutsOk first second b.1 b.2.1 b.2.2) (hc : cut_exchangeP_L1c b = true) :
    CutsOk first second (cut_exchangeP_L1 b).1 (cut_exchangeP_L1 b).2.1 (cut_exchangeP_L1 b).2.2 ∧ (cut_exchangeP_L1 b).2.1.length < b.2.1.length := by
  have hp : 0 < b.2.1.length := by have h8 : decide ((0 : Int) < (b.2.1.length : Int)) = true := hc; have := of_decide_eq_true h8; omega
  have st := cut_step h.okx hp
  rw [step_eq]
  refine ⟨⟨st.next h.okx, ?_, ?_, fun q hq => ?_⟩, st.less⟩
  · show ((b.1 ++ [stepV b]).flatMap (·.1) ++ lessP b.2.1 (stepV b).1).Perm first
    rw [List.flatMap_append, List.flatMap_singleton, List.append_assoc]
    exact (List.Perm.append_left _ (less_perm st.sv)).trans h.p1
  · show ((b.1 ++ [stepV b]).flatMap (·.2) ++ lessP b.2.2 (stepV b).2).Perm second
    rw [List.flatMap_append, List.flatMap_singleton, List.append_assoc]
    exact (List.Perm.append_left _ (less_perm st.sw)).trans h.p2
  · rcases List.mem_append.mp hq with z | z
    · exact h.each q z
    · rw [List.mem_singleton.mp z]; exact st.pair h.okx
theorem cuts_end {first second : List Int} {b : Cuts × List Int × List Int} (h : CutsOk first second b.1 b.2.1 b.2.2) (hc : b.2.1.length = 0) : CutsOk first second b.1 [] [] := by
  have e1 : b.2.1 = [] := List.length_eq_zero_iff.mp hc
  have e2 : b.2.2 = [] := by
    have h1 := h.okx.2.2.1
    rw [e1] at h1
    cases e : b.2.2 with
    | nil => rfl
    | cons x xs =>
      have := sum_pos h.okx.2.1 (by rw [e]; simp)
      rw [← h1] at this; simp at this
  rw [e1, e2] at h; exact h
theorem cuts_loop {first second : List Int} : ∀ (n : Nat) (b : Cuts × List Int × List Int), b.2.1.length ≤ n → CutsOk first second b.1 b.2.1 b.2.2 → CutsOk first second (loopW cut_exchangeP_L1c cut_exchangeP_L1 n b).1 [] []
  | 0, b, hl, h => cuts_end (b := b) h (Nat.le_zero.mp hl)
  | n + 1, b, hl, h => by
    cases hc : cut_exchangeP_L1c b with
    | true =>
      rw [loopW_t hc]
      obtain ⟨h1, h2⟩ := cuts_step h hc
      exact cuts_loop n _ (by omega) h1
    | false =>
      rw [loopW_f hc]
      refine cuts_end h ?_
      have h8 : decide ((0 : Int) < (b.2.1.length : Int)) = false := hc
      have := of_decide_eq_false h8; omega
theorem loop_more : ∀ (n : Nat) (b : Cuts × List Int × List Int), b.1.length ≤ (loopW cut_exchangeP_L1c cut_exchangeP_L1 n b).1.length
  | 0, b => Nat.le_refl _
  | n + 1, b => by
    cases hc : cut_exchangeP_L1c b with
    | true =>
      rw [loopW_t hc]
      refine Nat.le_trans ?_ (loop_more n _)
      rw [step_eq]; show b.1.length ≤ (b.1 ++ [stepV b]).length
      rw [List.length_append]; exact Nat.le_add_right _ _
    | false => rw [loopW_f hc]; exact Nat.le_refl _
theorem cuts_ok {first second : List Int} (h : okX first second) : CutsOk first second (cut_exchangeP first second) [] [] := by
  refine cuts_loop (sortI first).length ([], sortI first, sortI second) (Nat.le_refl _) ⟨okX_sort h, ?_, ?_, fun q hq => nomatch hq⟩
  · exact sortI_perm first
  · exact sortI_perm second
theorem prm_sort {xs ys : List Int} : Prm (sortI xs) (sortI ys) ↔ Prm xs ys := by
  unfold Prm
  rw [sum_perm (sortI_perm xs)]
  constructor <;> intro h u hu a b
  · exact h u hu (ss_sort.mpr a) (ss_sort.mpr b)
  · exact h u hu (ss_sort.mp a) (ss_sort.mp b)
/-- one cut exactly for an exchange that can't be cut -/
theorem cuts_one {first second : List Int} (h : okX first second) (hn : 1 ≤ first.length) : (cut_exchangeP first second).length = 1 ↔ Prm first second := by
  have hs := okX_sort h
  obtain ⟨n, en⟩ : ∃ n, (sortI first).length = n + 1 := ⟨(sortI first).length - 1, by rw [(sortI_perm first).length_eq]; omega⟩
  have hc : cut_exchangeP_L1c ([], sortI first, sortI second) = true := decide_eq_true (by show (0 : Int) < ((sortI first).length : Int); omega)
  have e : cut_exchangeP first second = (loopW cut_exchangeP_L1c cut_exchangeP_L1 n (cut_exchangeP_L1 ([], sortI first, sortI second))).1 := by
    show (loopW cut_exchangeP_L1c cut_exchangeP_L1 (sortI first).length ([], sortI first, sortI second)).1 = _
    rw [en, loopW_t hc]
  have st := cut_step hs (by rw [(sortI_perm first).length_eq]; omega)
  rw [e, ← prm_sort]
  have key : Prm (sortI first) (sortI second) ↔ (cut_exchangeP_L1 ([], sortI first, sortI second)).2.1.length = 0 := by
    have hl := less_len st.sv
    show _ ↔ (lessP (sortI first) (stepV ([], sortI first, sortI second)).1).length = 0
    constructor
    · intro hp
      have s2 : SS (sortI second) (sortI first).sum := by rw [hs.2.2.1]; exact ss_sum _
      have h1 := st.least _ (by have := sum_pos hs.1 (fun z => by rw [z] at en; cases en); omega) (ss_sum _) s2
      have ss1 : SS (sortI first) (stepV ([], sortI first, sortI second)).1.sum := ⟨_, st.sv, rfl⟩
      have ss2 : SS (sortI second) (stepV ([], sortI first, sortI second)).1.sum := ⟨_, st.sw, by rw [st.ew, ← st.ev]; rfl⟩
      have h2 := hp _ (by show 0 < (stepV ([], sortI first, sortI second)).1.sum; have := st.ev; have := st.pos; show 0 < _; rw [show (stepV ([], sortI first, sortI second)).1.sum = _ from st.ev]; exact st.pos) ss1 ss2
      have hev : (stepV ([], sortI first, sortI second)).1.sum = _ := st.ev
      have full := sub_full st.sv (fun x m => hs.1 x ((sortI_perm _).mem_iff.mp m)) (by rw [sum_perm (sortI_perm _)]; have := st.ev; omega)
      have hl2 := congrArg List.length full
      rw [(sortI_perm _).length_eq] at hl2
      have hl3 : (stepV ([], sortI first, sortI second)).1.length = (sortI first).length := hl2
      have hl4 : (stepV ([], sortI first, sortI second)).1.length + (lessP (sortI first) (stepV ([], sortI first, sortI second)).1).length = (sortI first).length := hl
      omega
    · intro hz u hu a b
      have h1 := st.least u hu a b
      have h3 := less_sum st.sv
      have h4 : (lessP (sortI first) (stepV ([], sortI first, sortI second)).1) = [] := List.length_eq_zero_iff.mp hz
      have h5 : (stepV ([], sortI first, sortI second)).1.sum + (lessP (sortI first) (stepV ([], sortI first, sortI second)).1).sum = (sortI first).sum := h3
      rw [h4] at h5
      have h6 : (stepV ([], sortI first, sortI second)).1.sum = _ := st.ev
      simp at h5
      omega
  rw [key]
  constructor
  · intro h1
    cases hz : cut_exchangeP_L1c (cut_exchangeP_L1 ([], sortI first, sortI second)) with
    | false =>
      have h8 : decide ((0 : Int) < ((cut_exchangeP_L1 ([], sortI first, sortI second)).2.1.length : Int)) = false := hz
      have := of_decide_eq_false h8; omega
    | true =>
      exfalso
      have h8 : decide ((0 : Int) < ((cut_exchangeP_L1 ([], sortI first, sortI second)).2.1.length : Int)) = true := hz
      have h9 := of_decide_eq_true h8
      have h10 : (cut_exchangeP_L1 ([], sortI first, sortI second)).2.1.length < (sortI first).length := st.less
      obtain ⟨m, rfl⟩ : ∃ m, n = m + 1 := ⟨n - 1, by omega⟩
      rw [loopW_t hz] at h1
      have h11 := loop_more m (cut_exchangeP_L1 (cut_exchangeP_L1 ([], sortI first, sortI second)))
      rw [h1, step_eq] at h11
      simp only [List.length_append, List.length_singleton] at h11
      rw [step_eq] at h11
      simp at h11
  · intro h1
    have hz : cut_exchangeP_L1c (cut_exchangeP_L1 ([], sortI first, sortI second)) = false := decide_eq_false (by show ¬ (0 : Int) < ((cut_exchangeP_L1 ([], sortI first, sortI second)).2.1.length : Int); omega)
    rw [loopW_f hz, step_eq]; rfl
theorem cutD_len {α : Type} {xs : List α} {lo hi : Option Int} : (Z.cutD xs lo hi).length ≤ xs.length := by
  unfold Z.cutD
  rw [List.length_take, List.length_drop]; omega
/-! ### what is drawn -/
theorem le_sum {xs : List Int} (h : ∀ x ∈ xs, 1 ≤ x) {x : Int} (hx : x ∈ xs) : x ≤ xs.sum := by
  induction xs with
  | nil => cases hx
  | cons y ys ih =>
    have h1 := sub_nonneg fun z m => h z (List.mem_cons_of_mem _ m)
    have h2 := h y List.mem_cons_self
    rw [List.sum_cons]
    rcases List.mem_cons.mp hx with rfl | z
    · omega
    · have := ih (fun z m => h z (List.mem_cons_of_mem _ m)) z; omega
theorem sum_le {xs : List Int} {c : Int} (h : ∀ x ∈ xs, x ≤ c) : xs.sum ≤ c * xs.length := by
  induction xs with
  | nil => simp
  | cons y ys ih =>
    have := ih fun z m => h z (List.mem_cons_of_mem _ m)
    have := h y List.mem_cons_self
    rw [List.sum_cons, List.length_cons]
    have e : c * ((ys.length + 1 : Nat) : Int) = c * ys.length + c := by rw [Int.natCast_add, Int.mul_add]; simp
    omega
theorem split_loop {cs : List Int} {total : Int} : ∀ (ks : List Int) (b : Int × List Int × Sto), (1 ≤ b.1 ∧ (∀ x ∈ b.2.1, 1 ≤ x) ∧ b.2.1.sum + b.1 = total) →
    (let r := ks.foldl (splitL_L1 cs) b; (1 ≤ r.1 ∧ (∀ x ∈ r.2.1, 1 ≤ x) ∧ r.2.1.sum + r.1 = total) ∧ r.2.1.length ≤ b.2.1.length + ks.length)
  | [], b, h => ⟨h, Nat.le_refl _⟩
  | k :: ks, b, h => by
    rw [List.foldl_cons]
    have key : (1 ≤ (splitL_L1 cs b k).1 ∧ (∀ x ∈ (splitL_L1 cs b k).2.1, 1 ≤ x) ∧ (splitL_L1 cs b k).2.1.sum + (splitL_L1 cs b k).1 = total) ∧ (splitL_L1 cs b k).2.1.length ≤ b.2.1.length + 1 := by
      show (1 ≤ (cond (decide ((1 : Int) < b.1)) (b.1 - (number cs b.2.2 1 (b.1 - 1)).1, b.2.1 ++ [(number cs b.2.2 1 (b.1 - 1)).1], (number cs b.2.2 1 (b.1 - 1)).2) (b.1, b.2.1, b.2.2)).1 ∧ (∀ x ∈ (cond (decide ((1 : Int) < b.1)) (b.1 - (number cs b.2.2 1 (b.1 - 1)).1, b.2.1 ++ [(number cs b.2.2 1 (b.1 - 1)).1], (number cs b.2.2 1 (b.1 - 1)).2) (b.1, b.2.1, b.2.2)).2.1, 1 ≤ x) ∧ (cond (decide ((1 : Int) < b.1)) (b.1 - (number cs b.2.2 1 (b.1 - 1)).1, b.2.1 ++ [(number cs b.2.2 1 (b.1 - 1)).1], (number cs b.2.2 1 (b.1 - 1)).2) (b.1, b.2.1, b.2.2)).2.1.sum + (cond (decide ((1 : Int) < b.1)) (b.1 - (number cs b.2.2 1 (b.1 - 1)).1, b.2.1 ++ [(number cs b.2.2 1 (b.1 - 1)).1], (number cs b.2.2 1 (b.1 - 1)).2) (b.1, b.2.1, b.2.2)).1 = total) ∧ (cond (decide ((1 : Int) < b.1)) (b.1 - (number cs b.2.2 1 (b.1 - 1)).1, b.2.1 ++ [(number cs b.2.2 1 (b.1 - 1)).1], (number cs b.2.2 1 (b.1 - 1)).2) (b.1, b.2.1, b.2.2)).2.1.length ≤ b.2.1.length + 1
      by_cases g : 1 < b.1
      · have hn := number_range cs b.2.2 1 (b.1 - 1) (by omega)
        generalize (number cs b.2.2 1 (b.1 - 1)).1 = y at hn
        rw [decide_eq_true g]
        refine ⟨⟨by show 1 ≤ b.1 - y; omega, fun x hx => ?_, ?_⟩, by show (b.2.1 ++ [y]).length ≤ _; rw [List.length_append]; exact Nat.le_refl _⟩
        · rcases List.mem_append.mp hx with z | z
          · exact h.2.1 x z
          · rw [List.mem_singleton.mp z]; exact hn.1
        · show (b.2.1 ++ [y]).sum + (b.1 - y) = total
          rw [List.sum_append]; have := h.2.2; simp; omega
      · rw [decide_eq_false g]; exact ⟨h, Nat.le_succ _⟩
    obtain ⟨h1, h2⟩ := split_loop ks _ key.1
    exact ⟨h1, by have := key.2; rw [List.length_cons]; omega⟩
theorem split_ok {cs : List Int} {s : Sto} {total many : Int} (ht : 1 ≤ total) (hm : 1 ≤ many) : (∀ x ∈ (splitL cs s total many).1, 1 ≤ x) ∧ (splitL cs s total many).1.sum = total ∧ 1 ≤ (splitL cs s total many).1.length ∧ ((splitL cs s total many).1.length : Int) ≤ many := by
  have htk := take_lt (cs := cs) (s := s) (many := many) hm
  obtain ⟨⟨h1, h2, h3⟩, h4⟩ := split_loop (cs := cs) (total := total) (rangeI 0 ((take cs s many).1)) (total, [], (take cs s many).2) ⟨ht, (fun x h => nomatch h), by simp⟩
  rw [rangeI_length] at h4
  have e : (splitL cs s total many).1 = sortI (((rangeI 0 ((take cs s many).1)).foldl (splitL_L1 cs) (total, [], (take cs s many).2)).2.1 ++ [((rangeI 0 ((take cs s many).1)).foldl (splitL_L1 cs) (total, [], (take cs s many).2)).1]) := rfl
  rw [e]
  generalize (rangeI 0 ((take cs s many).1)).foldl (splitL_L1 cs) (total, [], (take cs s many).2) = r at h1 h2 h3 h4
  generalize (take cs s many).1 = tk at htk h4
  have pm := sortI_perm (r.2.1 ++ [r.1])
  refine ⟨fun x hx => ?_, ?_, ?_, ?_⟩
  · rcases List.mem_append.mp (pm.mem_iff.mp hx) with z | z
    · exact h2 x z
    · rw [List.mem_singleton.mp z]; exact h1
  · rw [sum_perm pm, List.sum_append]; simpa using h3
  · rw [pm.length_eq, List.length_append]; exact Nat.le_add_left _ _
  · rw [pm.length_eq, List.length_append, List.length_singleton]
    simp only [List.length_nil] at h4; omega
def drawn (cs : List Int) (s : Sto) (n most : Int) : List Int := (mapS (fun (z : Sto) (a_k : Int) => ((number cs z (1 : Int) most).1, (number cs z (1 : Int) most).2)) s (rangeI 0 n)).1
theorem drawn_ok {cs : List Int} {s : Sto} {n most : Int} (hm : 1 ≤ most) : (∀ x ∈ drawn cs s n most, 1 ≤ x ∧ x ≤ most) ∧ (drawn cs s n most).length = n.toNat := by
  refine ⟨fun x hx => ?_, ?_⟩
  · obtain ⟨s', a, _, e⟩ := mapS_mem hx
    rw [e]
    exact number_range cs s' 1 most hm
  · unfold drawn; rw [mapS_length, rangeI_length]; omega
theorem drawn_sum {cs : List Int} {s : Sto} {many most : Int} (h1 : 1 ≤ many) (h7 : many ≤ 7) (hm : 1 ≤ most) (hM : most ≤ 140000) : 1 ≤ (sortI (drawn cs (number cs s 1 many).2 (number cs s 1 many).1 most)).sum ∧ (sortI (drawn cs (number cs s 1 many).2 (number cs s 1 many).1 most)).sum ≤ 1000000 := by
  have hn := number_range cs s 1 many h1
  obtain ⟨d1, d2⟩ := drawn_ok (cs := cs) (s := (number cs s 1 many).2) (n := (number cs s 1 many).1) hm
  rw [sum_perm (sortI_perm _)]
  generalize drawn cs (number cs s 1 many).2 (number cs s 1 many).1 most = F at d1 d2
  generalize (number cs s 1 many).1 = n at hn d2
  have p := sum_pos (fun x hx => (d1 x hx).1) (fun z => by rw [z] at d2; simp at d2; omega)
  have q := sum_le (c := 140000) (fun x hx => by have := (d1 x hx).2; omega : ∀ x ∈ F, x ≤ 140000)
  omega

/-! _law_exchange -/
abbrev s_exchangeL : Stmt := topS 20
theorem sc_exchangeL : FnScope ["store", "many", "most", "first", "k"] ["store", "many", "most"] (defScope s_exchangeL) := ⟨rfl, rfl, rfl, by decide +kernel, rfl, by decide +kernel, by decide +kernel⟩
def exchangeL_1 (cs : List Int) (many : Int) (first : (List Int)) (s_3 : Sto) : ((List Int) × (List Int)) × Sto :=
  ((first, (splitL cs s_3 first.sum many).1), (splitL cs s_3 first.sum many).2)
def exchangeL (cs : List Int) (s : Sto) (many : Int) (most : Int) : ((List Int) × (List Int)) × Sto :=
  exchangeL_1 cs many (sortI ((mapS (fun (z : Sto) (a_k : Int) => ((number cs z (1 : Int) most).1, (number cs z (1 : Int) most).2)) ((number cs s (1 : Int) many).2) (rangeI 0 ((number cs s (1 : Int) many).1))).1)) ((mapS (fun (z : Sto) (a_k : Int) => ((number cs z (1 : Int) most).1, (number cs z (1 : Int) most).2)) ((number cs s (1 : Int) many).2) (rangeI 0 ((number cs s (1 : Int) many).1))).2)
def A_exchangeL : List Int → Sto → List PyData → PyData → Sto → Prop := fun cs s ds r s' => ∃ (many : Int) (most : Int), ds = [eI many, eI most] ∧ (1 ≤ many ∧ many ≤ 7 ∧ 1 ≤ most ∧ most ≤ 140000) ∧ r = (eT2 (eL eI) (eL eI)) (exchangeL cs s many most).1 ∧ s' = (exchangeL cs s many most).2
set_option maxHeartbeats 4000000 in
theorem ok_exchangeL {P : Program} {w : World} {K : PySem.W.Frag} {mg : Str → Option Value} {base : Heap} (T : Top K mg) : Fn P w K mg base 6 "_law_exchange" ["store", "many", "most"] (spS K A_exchangeL) := by
  obtain ⟨f, fd, F, gm⟩ := T.f_exchangeL
  have sc := sc_exchangeL
  refine ⟨f, fd, F.ok sc (fun vs H Q E h => ?_) (fun cdv A outer s0 H vs Q E hr h => ⟨_, PSs.nox pss_w, ?_⟩), gm, F.kp, F.bindsN (fun _ _ _ _ _ _ us hl => match us, hl with | [_, _, _], _ => rfl)⟩
  · obtain ⟨F, a_st, c_st, cs, s, ws, ds, r, s', rfl, w, rc, ra, ⟨many, most, rfl, hpre, rfl, rfl⟩, q⟩ := h
    have h := ra.len
    show ws.length + 1 = 3
    rw [h]; rfl
  · obtain ⟨F, a_st, c_st, cs, s, ws, ds, r, s', rfl, w, r_st, ra, ⟨many, most, rfl, hpre, rfl, rfl⟩, q⟩ := h
    obtain ⟨v_many, ws, rfl, r_many, ra⟩ := ra.cons_inv
    obtain ⟨v_most, ws, rfl, r_most, ra⟩ := ra.cons_inv
    obtain rfl := ra.nil_inv
    have st := Stp.refl w
    have hf : exchangeL cs s many most = exchangeL cs s many most := rfl
    show ZS _ _ [some (.ref a_st), some v_many, some v_most, none, none] H _
    refine zs_setN (n := 3) st.ok (zn_sortI T.b_sorted (zn_ze (zn_lcS (n := 4) (G := (fun z => [stoO a_st c_st z])) (st0 := (number cs s (1 : Int) many).2) (f0 := (fun (z : Sto) (a_k : Int) => ((number cs z (1 : Int) most).1, (number cs z (1 : Int) most).2))) (encR := eI) rfl sc.nd (zi_range1 T.b_range (ze_callS 0 0 (ok_number T) (hr.mono (by decide)) rfl r_st (za_cons ze_int (za_cons (ze_var 1 rfl r_many) za_nil)) rfl ⟨(1 : Int), many, rfl, (by /-1-/ first | (first | omega | (simp only [List.length_append, List.length_cons, List.length_nil, List.length_map, rangeI_length]; omega)) | (first | omega | (rw [← szL]; omega) | (simp only [List.length_append, List.length_cons, List.length_nil, List.length_map, rangeI_length, ← szL]; omega))), rfl, rfl⟩) (by /-2-/ have h8 := number_range cs s 1 many (by omega); omega)) (fun _ _ _ _ _ z a_k v_a_k _ h_a_k g_c r_a_k => ze_to (ze_callS 0 0 (ok_number T) (hr.mono (by decide)) rfl (r_st.mono g_c) (za_cons ze_int (za_cons (ze_var 2 rfl (r_most.mono g_c)) za_nil)) rfl ⟨(1 : Int), most, rfl, (by /-3-/ first | (first | omega | (simp only [List.length_append, List.length_cons, List.length_nil, List.length_map, rangeI_length]; omega)) | (first | omega | (rw [← szL]; omega) | (simp only [List.length_append, List.length_cons, List.length_nil, List.length_map, rangeI_length, ← szL]; omega))), rfl, rfl⟩) rfl rfl) (blkOk_by (N := ["store", "many", "most", "first", "k"]) (sc := defScope (topS 20)) (by decide +kernel)) (fun _ _ _ _ _ => pg_name (i := 4) sc.nd rfl (Or.inl rfl))))) sc.nd rfl (by first | exact Or.inl rfl | exact Or.inr rfl) fun p_first us_first F_2 H_2 hp_2 s_2 r_first => ?_
    obtain ⟨first, hx_first⟩ : ∃ z : (List Int), z = (sortI ((mapS (fun (z : Sto) (a_k : Int) => ((number cs z (1 : Int) most).1, (number cs z (1 : Int) most).2)) ((number cs s (1 : Int) many).2) (rangeI 0 ((number cs s (1 : Int) many).1))).1)) := ⟨_, rfl⟩
    obtain ⟨s_3, hx_s_3⟩ : ∃ z : Sto, z = (mapS (fun (z : Sto) (a_k : Int) => ((number cs z (1 : Int) most).1, (number cs z (1 : Int) most).2)) ((number cs s (1 : Int) many).2) (rangeI 0 ((number cs s (1 : Int) many).1))).2 := ⟨_, rfl⟩
    have hn := st.newAt hp_2
    have s_2 : Stp F [stoO a_st c_st s] H F_2 [(p_first, .lst us_first), stoO a_st c_st s_3] H_2 := by subst hx_s_3; exact s_2
    have r_first : RA K F_2 us_first (first.map eI) := by subst hx_first; exact r_first
    have st := st.trans s_2
    have r_many := r_many.mono s_2.gr
    have r_most := r_most.mono s_2.gr
    have r_st := r_st.mono s_2.gr
    have gz : Gr F_2 (upd F_2 p_first (.lst us_first)) := Gr.upd (st.ok.at_ (k := 0) rfl).2
    have r_first_2 : R K (upd F_2 p_first (.lst us_first)) (.ref p_first) (eL eI first) := (r_first.mono gz).lst upd_same
    have st : Stp _ _ _ (upd F_2 p_first (.lst us_first)) [stoO a_st c_st s_3] H_2 := st.freezeAt 0 rfl hn
    have r_many := r_many.mono gz
    have r_most := r_most.mono gz
    have r_st := r_st.mono gz
    show ZS _ _ [some (.ref a_st), some v_many, some v_most, some (.ref p_first), none] H_2 _
    have hf : exchangeL cs s many most = exchangeL_1 cs many first s_3 := by subst hx_first; subst hx_s_3; exact hf
    have hfx : first = sortI (drawn cs (number cs s 1 many).2 (number cs s 1 many).1 most) := by rw [hx_first]; rfl
    have hfs : 1 ≤ first.sum ∧ first.sum ≤ 1000000 := by rw [hfx]; exact drawn_sum (by omega) (by omega) (by omega) (by omega)
    refine zs_ret st.ok (ze_tup2 (e1 := (eL eI)) (e2 := (eL eI)) (a := first) (b := (splitL cs s_3 first.sum many).1) (ze_var 3 rfl r_first_2) (ze_callS 0 0 (ok_splitL T) (hr.mono (by decide)) rfl r_st (za_cons (ze_sum rfl T.b_sum (ze_var 3 rfl r_first_2)) (za_cons (ze_var 1 rfl r_many) za_nil)) rfl ⟨first.sum, many, rfl, (by /-4-/ exact ⟨hfs.1, hfs.2, by omega, by omega⟩), rfl, rfl⟩)) fun v F_4 H_3 s_4 r_2 => ?_
    exact q v F_4 H_3 (by rw [hf]; exact (st.trans s_4)) (by rw [hf]; exact r_2)
theorem exch_ok {cs : List Int} {s : Sto} {many most : Int} (h1 : 1 ≤ many) (h7 : many ≤ 7) (hm : 1 ≤ most) (hM : most ≤ 140000) : okC (exchangeL cs s many most).1.1 (exchangeL cs s many most).1.2 ∧ ((exchangeL cs s many most).1.1.length : Int) ≤ many ∧ ((exchangeL cs s many most).1.2.length : Int) ≤ many := by
  have hn := number_range cs s 1 many h1
  obtain ⟨d1, d2⟩ := drawn_ok (cs := cs) (s := (number cs s 1 many).2) (n := (number cs s 1 many).1) hm
  have e1 : (exchangeL cs s many most).1.1 = sortI (drawn cs (number cs s 1 many).2 (number cs s 1 many).1 most) := rfl
  have e2 : (exchangeL cs s many most).1.2 = (splitL cs (mapS (fun (z : Sto) (a_k : Int) => ((number cs z (1 : Int) most).1, (number cs z (1 : Int) most).2)) ((number cs s (1 : Int) many).2) (rangeI 0 ((number cs s (1 : Int) many).1))).2 (exchangeL cs s many most).1.1.sum many).1 := rfl
  generalize hF : (exchangeL cs s many most).1.1 = F at e1 e2
  generalize hG : (exchangeL cs s many most).1.2 = G at e2
  have pm := sortI_perm (drawn cs (number cs s 1 many).2 (number cs s 1 many).1 most)
  rw [← e1] at pm
  have f1 : ∀ x ∈ F, 1 ≤ x ∧ x ≤ most := fun x hx => d1 x (pm.mem_iff.mp hx)
  have fl : F.length = (number cs s 1 many).1.toNat := by rw [pm.length_eq, d2]
  generalize (number cs s 1 many).1 = n at hn fl
  have fs := sum_pos (fun x hx => (f1 x hx).1) (fun z => by rw [z] at fl; simp at fl; omega)
  have fm := sum_le (c := 140000) (fun x hx => by have := (f1 x hx).2; omega : ∀ x ∈ F, x ≤ 140000)
  have g := split_ok (cs := cs) (s := (mapS (fun (z : Sto) (a_k : Int) => ((number cs z (1 : Int) most).1, (number cs z (1 : Int) most).2)) ((number cs s (1 : Int) many).2) (rangeI 0 ((number cs s (1 : Int) many).1))).2) (total := F.sum) (many := many) fs h1
  rw [← e2] at g
  obtain ⟨g1, g2, g3, g4⟩ := g
  refine ⟨⟨⟨fun x hx => (f1 x hx).1, g1, g2.symm, by omega, by omega⟩, by omega, by omega, g3, by omega, fun x hx => by have := (f1 x hx).2; omega, fun x hx => ?_⟩, by omega, g4⟩
  have := le_sum g1 hx
  omega

/-! _law_is_number -/
abbrev s_is_numberL : Stmt := topS 21
theorem sc_is_numberL : FnScope ["value"] ["value"] (defScope s_is_numberL) := ⟨rfl, rfl, rfl, by decide +kernel, rfl, by decide +kernel, by decide +kernel⟩
def is_numberL (value : Int) : Bool :=
  true
def A_is_numberL : List PyData → PyData → Prop := fun ds r => ∃ (value : Int), ds = [eI value] ∧ r = eB (is_numberL value)
set_option maxHeartbeats 4000000 in
theorem ok_is_numberL {P : Program} {w : World} {K : PySem.W.Frag} {mg : Str → Option Value} {base : Heap} (T : Top K mg) : Fn P w K mg base 1 "_law_is_number" ["value"] (spD K A_is_numberL) := by
  obtain ⟨f, fd, F, gm⟩ := T.f_is_numberL
  have sc := sc_is_numberL
  refine ⟨f, fd, F.ok sc (fun vs H Q E h => ?_) (fun cdv A outer s0 H vs Q E hr h => ⟨_, PSs.nox pss_w, ?_⟩), gm, F.kp, F.bindsN (fun _ _ _ _ _ _ us hl => match us, hl with | [_], _ => rfl)⟩
  · obtain ⟨F, ds, r, w, ra, ⟨value, rfl, rfl⟩, q⟩ := h
    exact ra.len
  · obtain ⟨F, ds, r, w, ra, ⟨value, rfl, rfl⟩, q⟩ := h
    obtain ⟨v_value, ws, rfl, r_value, ra⟩ := ra.cons_inv
    obtain rfl := ra.nil_inv
    have st := Stp.refl w
    have hf : is_numberL value = is_numberL value := rfl
    show ZS _ _ [some v_value] H _
    refine zs_ret st.ok (ze_eqB (k1 := (true && (!false))) (k := true) (ze_and (ze_isi (T := "int") (k := true) T.b_isinstance T.b_int (ze_var 0 rfl r_value) (show kitB "int" "int" = some true by decide +kernel)) fun hb => (ze_one (ze_not (ze_isi (T := "bool") (k := false) T.b_isinstance T.b_bool (ze_var 0 rfl r_value) (show kitB "int" "bool" = some false by decide +kernel))))) (by simp)) fun v F_2 H_2 s_2 r_2 => ?_
    exact q v F_2 H_2 (st.trans s_2) (by rw [hf]; exact r_2)
/-! _law_sums_of -/
abbrev s_sums_ofL : Stmt := topS 24
theorem sc_sums_ofL : FnScope ["notes", "sums", "note", "total"] ["notes"] (defScope s_sums_ofL) := ⟨rfl, rfl, rfl, by decide +kernel, rfl, by decide +kernel, by decide +kernel⟩
def sums_ofL_2 (sums_3 : (List Int)) : ((List Int)) :=
  sums_3
def sums_ofL_L1b (sums_2 : (List Int)) (note : Int) : ((List Int)) :=
  sums_ofL_2 (sums_2 ++ (sums_2.map (fun a_total : Int => (a_total + note))))
def sums_ofL_L1 (b : ((List Int))) (a : Int) : ((List Int)) :=
  sums_ofL_L1b b a
def sums_ofL_3 (b : ((List Int))) : (List Int) :=
  b
def sums_ofL_1 (notes : (List Int)) (sums : (List Int)) : (List Int) :=
  sums_ofL_3 (List.foldl sums_ofL_L1 sums notes)
def sums_ofL (notes : (List Int)) : (List Int) :=
  sums_ofL_1 notes ([(0 : Int)] : List Int)
def A_sums_ofL : List PyData → PyData → Prop := fun ds r => ∃ (notes : (List Int)), ds = [(eL eI) notes] ∧ (notes.length ≤ 8) ∧ r = (eL eI) (sums_ofL notes)
set_option maxHeartbeats 4000000 in
theorem ok_sums_ofL {P : Program} {w : World} {K : PySem.W.Frag} {mg : Str → Option Value} {base : Heap} (T : Top K mg) : Fn P w K mg base 1 "_law_sums_of" ["notes"] (spD K A_sums_ofL) := by
  obtain ⟨f, fd, F, gm⟩ := T.f_sums_ofL
  have sc := sc_sums_ofL
  refine ⟨f, fd, F.ok sc (fun vs H Q E h => ?_) (fun cdv A outer s0 H vs Q E hr h => ⟨_, PSs.nox pss_w, ?_⟩), gm, F.kp, F.bindsN (fun _ _ _ _ _ _ us hl => match us, hl with | [_], _ => rfl)⟩
  · obtain ⟨F, ds, r, w, ra, ⟨notes, rfl, hpre, rfl⟩, q⟩ := h
    exact ra.len
  · obtain ⟨F, ds, r, w, ra, ⟨notes, rfl, hpre, rfl⟩, q⟩ := h
    obtain ⟨v_notes, ws, rfl, r_notes, ra⟩ := ra.cons_inv
    obtain rfl := ra.nil_inv
    have st := Stp.refl w
    have hf : sums_ofL notes = sums_ofL notes := rfl
    show ZS _ _ [some v_notes, none, none, none] H _
    refine zs_setN (n := 1) st.ok (zn_lstt (enc := eI) (xs := ([(0 : Int)] : List Int)) (za_cons ze_int za_nil)) sc.nd rfl (by first | exact Or.inl rfl | exact Or.inr rfl) fun p_sums us_sums F_2 H_2 hp_2 s_2 r_sums => ?_
    obtain ⟨sums, hx_sums⟩ : ∃ z : (List Int), z = ([(0 : Int)] : List Int) := ⟨_, rfl⟩
    have hn := st.newAt hp_2
    have s_2 : Stp F [] H F_2 [(p_sums, .lst us_sums)] H_2 := by exact s_2
    have r_sums : RA K F_2 us_sums (sums.map eI) := by subst hx_sums; exact r_sums
    have st := st.trans s_2
    have r_notes := r_notes.mono s_2.gr
    have gz : Gr F_2 (upd F_2 p_sums (.lst us_sums)) := Gr.upd (st.ok.at_ (k := 0) rfl).2
    have r_sums_2 : R K (upd F_2 p_sums (.lst us_sums)) (.ref p_sums) (eL eI sums) := (r_sums.mono gz).lst upd_same
    have st : Stp _ _ _ (upd F_2 p_sums (.lst us_sums)) [] H_2 := st.freezeAt 0 rfl hn
    have r_notes := r_notes.mono gz
    show ZS _ _ [some v_notes, some (.ref p_sums), none, none] H_2 _
    have hf : sums_ofL notes = sums_ofL_1 notes sums := by subst hx_sums; exact hf
    refine zs_forF (f := sums_ofL_L1) (b0 := sums) st.ok PassesOwn.never rfl (zi_list (ze_var 0 rfl r_notes)) (fun iq b σ F O => ∃ (w1 : V) (z2 : Option V), σ = [some v_notes, some w1, z2, none] ∧ O = [] ∧ R K F w1 ((eL eI) b) ∧ (b.length ≤ 2 ^ iq)) (fun F_10 H_7 s_7 => ⟨(.ref p_sums), none, rfl, rfl, r_sums_2.mono s_7.gr, by rw [hx_sums]; exact Nat.le_refl _⟩) (fun i b note v σ F_4 F_5 O_2 H_3 ha hbe hz rel g s_3 r_2 => ?_) (fun σ_2 F_8 O_3 H_5 s_5 rel_2 => ?_)
    · skip
      obtain ⟨sums_2, rfl⟩ : ∃ z, z = b := ⟨_, rfl⟩
      obtain ⟨v_sums_2, z_note, rfl, rfl, r_sums_3, hinv⟩ := rel
      have r_sums_3 : R K _ v_sums_2 ((eL eI) sums_2) := r_sums_3
      have st := st.trans s_3
      have r_notes := r_notes.mono s_3.gr
      have r_sums_3 := r_sums_3.mono g
      have hinv : sums_2.length ≤ 2 ^ i := hinv
      have hlt_i := (List.getElem?_eq_some_iff.mp ha).1
      have sb : Stp F_5 [] H_3 F_5 [] H_3 := Stp.refl st.ok
      have hfb : sums_ofL_L1 sums_2 note = sums_ofL_L1b sums_2 note := rfl
      refine zg_name (n := 2) sc.nd rfl (by first | exact Or.inl rfl | exact Or.inr rfl) ?_
      have hq := hinv
      have hi8 : i ≤ 8 := by omega
      have hpw : 2 ^ i ≤ 256 := Nat.pow_le_pow_right (by decide) hi8
      show ZS _ _ [some v_notes, some v_sums_2, some v, none] H_3 _
      refine zs_setN (n := 1) st.ok (zn_catt (ze_var 1 rfl r_sums_3) (zn_ze (zn_lcM (n := 3) (f0 := (fun a_total : Int => (a_total + note))) (encR := eI) rfl sc.nd (zi_list (ze_var 1 rfl r_sums_3)) (fun _ _ _ _ _ a_total v_a_total _ h_a_total g_c r_a_total => (ze_add (ze_var 3 rfl r_a_total) (ze_var 2 rfl (r_2.mono g_c)))) (blkOk_by (N := ["notes", "sums", "note", "total"]) (sc := defScope (topS 24)) (by decide +kernel)) (fun _ _ _ _ _ => pg_name (i := 3) sc.nd rfl (Or.inl rfl)))) (by /-1-/ rw [← szL, List.length_map]; omega)) sc.nd rfl (by first | exact Or.inl rfl | exact Or.inr rfl) fun p_sums_2 us_sums_2 F_6 H_4 hp_3 s_4 r_sums_4 => ?_
      obtain ⟨sums_3, hx_sums_3⟩ : ∃ z : (List Int), z = (sums_2 ++ (sums_2.map (fun a_total : Int => (a_total + note)))) := ⟨_, rfl⟩
      have hn_2 := st.newAt hp_3
      have hn_3 := sb.newAt hp_3
      have s_4 : Stp F_5 [] H_3 F_6 [(p_sums_2, .lst us_sums_2)] H_4 := by exact s_4
      have r_sums_4 : RA K F_6 us_sums_2 (sums_3.map eI) := by subst hx_sums_3; exact r_sums_4
      have st := st.trans s_4
      have sb := sb.trans s_4
      have r_notes := r_notes.mono s_4.gr
      have r_2 := r_2.mono s_4.gr
      have gz_2 : Gr F_6 (upd F_6 p_sums_2 (.lst us_sums_2)) := Gr.upd (st.ok.at_ (k := 0) rfl).2
      have r_sums_5 : R K (upd F_6 p_sums_2 (.lst us_sums_2)) (.ref p_sums_2) (eL eI sums_3) := (r_sums_4.mono gz_2).lst upd_same
      have st : Stp _ _ _ (upd F_6 p_sums_2 (.lst us_sums_2)) [] H_4 := st.freezeAt 0 rfl hn_2
      have sb : Stp _ _ _ (upd F_6 p_sums_2 (.lst us_sums_2)) [] H_4 := sb.freezeAt 0 rfl hn_3
      have r_notes := r_notes.mono gz_2
      have r_2 := r_2.mono gz_2
      show ZS _ _ [some v_notes, some (.ref p_sums_2), some v, none] H_4 _
      have hfb : sums_ofL_L1 sums_2 note = sums_ofL_2 sums_3 := by subst hx_sums_3; exact hfb
      refine zs_nil ?_
      exact ⟨_, _, sb, by (try rw [hfb]); exact ⟨(.ref p_sums_2), some v, rfl, rfl, r_sums_5, (show sums_3.length ≤ 2 ^ (i + 1) from by rw [hx_sums_3, List.length_append, List.length_map, Nat.pow_succ]; omega)⟩⟩
    · skip
      obtain ⟨b_2, hb⟩ : ∃ z : ((List Int)), z = List.foldl sums_ofL_L1 sums notes := ⟨_, rfl⟩
      try rw [← hb] at rel_2
      obtain ⟨sums_4, rfl⟩ : ∃ z, z = b_2 := ⟨_, rfl⟩
      obtain ⟨v_sums_4, z_note_2, rfl, rfl, r_sums_6, hinv_2⟩ := rel_2
      have r_sums_6 : R K _ v_sums_4 ((eL eI) sums_4) := r_sums_6
      have st := st.trans s_5
      have r_notes := r_notes.mono s_5.gr
      have hinv_2 : sums_4.length ≤ 2 ^ notes.length := hinv_2
      have hf : sums_ofL notes = sums_ofL_3 sums_4 := by rw [hb]; exact hf
      show ZS _ _ [some v_notes, some v_sums_4, z_note_2, none] H_5 _
      refine zs_ret st.ok (ze_var 1 rfl r_sums_6) fun v_2 F_9 H_6 s_6 r_3 => ?_
      exact q v_2 F_9 H_6 (st.trans s_6) (by rw [hf]; exact r_3)
/-! ### the law's own sums -/
theorem sub_perm {xs ys as : List Int} (h : as.Sublist xs) (p : xs.Perm ys) : ∃ bs : List Int, bs.Sublist ys ∧ bs.Perm as := by
  obtain ⟨l, h1, h2⟩ := List.exists_perm_sublist h p
  exact ⟨l, h2, h1⟩
theorem ss_iff {xs : List Int} {t : Int} : SS xs t ↔ ∃ ys : List Int, ys.Sublist xs ∧ ys.sum = t := by
  constructor
  · rintro ⟨ys, hy, e⟩
    obtain ⟨bs, h1, h2⟩ := sub_perm hy (sortI_perm xs)
    exact ⟨bs, h1, (sum_perm h2).trans e⟩
  · rintro ⟨ys, hy, e⟩
    obtain ⟨bs, h1, h2⟩ := sub_perm hy (sortI_perm xs).symm
    exact ⟨bs, h1, (sum_perm h2).trans e⟩
def sumsAt (pre : List Int) (s : List Int) : Prop := (∀ t, t ∈ s ↔ ∃ ys : List Int, ys.Sublist pre ∧ ys.sum = t) ∧ s.length = 2 ^ pre.length ∧
  ((pre = [] ∧ s = [0]) ∨ ∃ m, s = 0 :: m ++ [pre.sum] ∧ ∀ x ∈ m, 0 < x ∧ x < pre.sum)
theorem sums_step {pre s : List Int} {a : Int} (h : sumsAt pre s) (ha : 1 ≤ a) (hp : ∀ x ∈ pre, 1 ≤ x) : sumsAt (pre ++ [a]) (sums_ofL_L1 s a) := by
  obtain ⟨h1, h2, h3⟩ := h
  have e : sums_ofL_L1 s a = s ++ s.map (fun t => t + a) := rfl
  rw [e]
  have es : (pre ++ [a]).sum = pre.sum + a := by rw [List.sum_append]; simp
  refine ⟨fun t => ?_, by rw [List.length_append, List.length_map, List.length_append, h2, List.length_singleton, Nat.pow_succ]; omega, .inr ?_⟩
  · rw [List.mem_append, h1, List.mem_map]
    constructor
    · rintro (⟨ys, hy, e⟩ | ⟨u, hu, e⟩)
      · exact ⟨ys, hy.trans (List.sublist_append_left _ _), e⟩
      · obtain ⟨ys, hy, e2⟩ := (h1 u).mp hu
        exact ⟨ys ++ [a], hy.append (List.Sublist.refl _), by rw [List.sum_append, e2]; simpa using e⟩
    · rintro ⟨ys, hy, e⟩
      rcases sublist_snoc hy with z | ⟨zs, hz, z⟩
      · exact .inl ⟨ys, z, e⟩
      · refine .inr ⟨zs.sum, (h1 _).mpr ⟨zs, hz, rfl⟩, ?_⟩
        rw [z, List.sum_append] at e; simpa using e
  · rcases h3 with ⟨rfl, rfl⟩ | ⟨m, rfl, hm⟩
    · exact ⟨[], by simp, fun x hx => nomatch hx⟩
    · have h0 : 0 ≤ pre.sum := sub_nonneg hp
      refine ⟨m ++ [pre.sum] ++ (0 + a) :: m.map (fun t => t + a), by rw [es]; simp, fun x hx => ?_⟩
      rw [es]
      have hpos : pre.sum ≠ 0 := fun z => by
        have := (h1 pre.sum).mp (by simp)
        have h4 : (0 :: m ++ [pre.sum]).length = 2 ^ pre.length := h2
        cases pre with
        | nil => simp at h4
        | cons y ys =>
          have := sum_pos hp (by simp)
          omega
      rcases List.mem_append.mp hx with z | z
      · rcases List.mem_append.mp z with z | z
        · have := hm x z; omega
        · rw [List.mem_singleton.mp z]; omega
      · rcases List.mem_cons.mp z with z | z
        · rw [z]; omega
        · obtain ⟨y, hy, e⟩ := List.mem_map.mp z
          have := hm y hy; omega
theorem sums_loop : ∀ (xs pre s : List Int), sumsAt pre s → (∀ x ∈ pre ++ xs, 1 ≤ x) → sumsAt (pre ++ xs) (xs.foldl sums_ofL_L1 s)
  | [], pre, s, h, _ => by rw [List.append_nil]; exact h
  | x :: xs, pre, s, h, hp => by
    have e : pre ++ x :: xs = (pre ++ [x]) ++ xs := by simp
    rw [List.foldl_cons, e]
    refine sums_loop xs (pre ++ [x]) _ (sums_step h (hp x (by simp)) fun y hy => hp y (by simp [hy])) fun y hy => hp y (by rw [e]; exact hy)
theorem sums_at {xs : List Int} (hp : ∀ x ∈ xs, 1 ≤ x) : sumsAt xs (sums_ofL xs) := by
  have h0 : sumsAt [] [0] := ⟨fun t => by
    rw [List.mem_singleton]
    constructor
    · intro e; exact ⟨[], List.Sublist.refl _, by rw [e]; rfl⟩
    · rintro ⟨ys, hy, e⟩; rw [List.sublist_nil.mp hy] at e; exact e.symm, rfl, .inl ⟨rfl, rfl⟩⟩
  exact sums_loop xs [] _ h0 (by simpa using hp)
theorem sums_len8 : ∀ (xs s : List Int), (xs.foldl sums_ofL_L1 s).length = s.length * 2 ^ xs.length
  | [], s => by simp
  | x :: xs, s => by
    rw [List.foldl_cons, sums_len8 xs]
    show (s ++ s.map _).length * _ = _
    rw [List.length_append, List.length_map, List.length_cons, Nat.pow_succ, ← Nat.two_mul, Nat.mul_comm 2, Nat.mul_assoc, Nat.mul_comm 2]
theorem sums_len {xs : List Int} (h : xs.length ≤ 8) : (sums_ofL xs).length ≤ 256 := by
  have := sums_len8 xs [0]
  have e : (sums_ofL xs).length = 1 * 2 ^ xs.length := this
  rw [e, Nat.one_mul]
  exact Nat.pow_le_pow_right (by decide) h
theorem cutD_mid {m : List Int} {t : Int} : Z.cutD (0 :: m ++ [t]) (some 1) (some (-1)) = m := by
  have a : HT.sIx (m.length + 1 + 1) (m.length + 1 + 1) (some (-1)) = m.length + 1 := by simp [HT.sIx]; omega
  have b : HT.sIx (m.length + 1 + 1) 0 (some 1) = 1 := by simp [HT.sIx]
  unfold Z.cutD
  simp [a, b]
theorem mid_iff {xs : List Int} (hp : ∀ x ∈ xs, 1 ≤ x) (hn : xs ≠ []) {t : Int} : t ∈ Z.cutD (sums_ofL xs) (some 1) (some (-1)) ↔ SS xs t ∧ 0 < t ∧ t < xs.sum := by
  obtain ⟨h1, h2, h3⟩ := sums_at hp
  rcases h3 with ⟨z, _⟩ | ⟨m, e, hm⟩
  · exact absurd z hn
  · rw [e, cutD_mid, ss_iff, ← h1, e]
    constructor
    · intro h; exact ⟨by simp [h], hm t h⟩
    · rintro ⟨h, h4, h5⟩
      rcases List.mem_append.mp h with z | z
      · rcases List.mem_cons.mp z with z | z
        · omega
        · exact z
      · rw [List.mem_singleton.mp z] at h5; omega

/-! _law_primitive -/
abbrev s_primitiveL : Stmt := topS 23
theorem sc_primitiveL : FnScope ["first", "second", "inner", "total"] ["first", "second"] (defScope s_primitiveL) := ⟨rfl, rfl, rfl, by decide +kernel, rfl, by decide +kernel, by decide +kernel⟩
def primitiveL_2 (inner_3 : (List (Int × Bool))) : ((List (Int × Bool))) :=
  inner_3
def primitiveL_L1b (inner_2 : (List (Int × Bool))) (total : Int) : ((List (Int × Bool))) :=
  primitiveL_2 (putM inner_2 total true)
def primitiveL_L1 (b : ((List (Int × Bool)))) (a : Int) : ((List (Int × Bool))) :=
  primitiveL_L1b b a
def primitiveL_3 (second : (List Int)) (b : ((List (Int × Bool)))) : Bool :=
  (!(((Z.cutD (sums_ofL second) (some (1 : Int)) (some (-(1 : Int)))).map (fun a_total : Int => (getM b a_total).isSome)).any id))
def primitiveL_1 (first : (List Int)) (second : (List Int)) (inner : (List (Int × Bool))) : Bool :=
  (primitiveL_3 second) (List.foldl primitiveL_L1 inner (Z.cutD (sums_ofL first) (some (1 : Int)) (some (-(1 : Int)))))
def primitiveL (first : (List Int)) (second : (List Int)) : Bool :=
  (cond ((!(!first.isEmpty)) || ((!(!second.isEmpty)) || (!decide (first.sum = second.sum)))) false (primitiveL_1 first second ([] : (List (Int × Bool)))))
def A_primitiveL : List PyData → PyData → Prop := fun ds r => ∃ (first : (List Int)) (second : (List Int)), ds = [(eL eI) first, (eL eI) second] ∧ (first.length ≤ 8 ∧ second.length ≤ 8) ∧ r = eB (primitiveL first second)
set_option maxHeartbeats 4000000 in
theorem ok_primitiveL {P : Program} {w : World} {K : PySem.W.Frag} {mg : Str → Option Value} {base : Heap} (T : Top K mg) : Fn P w K mg base 2 "_law_primitive" ["first", "second"] (spD K A_primitiveL) := by
  obtain ⟨f, fd, F, gm⟩ := T.f_primitiveL
  have sc := sc_primitiveL
  refine ⟨f, fd, F.ok sc (fun vs H Q E h => ?_) (fun cdv A outer s0 H vs Q E hr h => ⟨_, PSs.nox pss_w, ?_⟩), gm, F.kp, F.bindsN (fun _ _ _ _ _ _ us hl => match us, hl with | [_, _], _ => rfl)⟩
  · obtain ⟨F, ds, r, w, ra, ⟨first, second, rfl, hpre, rfl⟩, q⟩ := h
    exact ra.len
  · obtain ⟨F, ds, r, w, ra, ⟨first, second, rfl, hpre, rfl⟩, q⟩ := h
    obtain ⟨v_first, ws, rfl, r_first, ra⟩ := ra.cons_inv
    obtain ⟨v_second, ws, rfl, r_second, ra⟩ := ra.cons_inv
    obtain rfl := ra.nil_inv
    have st := Stp.refl w
    have hf : primitiveL first second = primitiveL first second := rfl
    show ZS _ _ [some v_first, some v_second, none, none] H _
    refine zs_if st.ok (zt_w (zw_or (zt_not (zt_trLt (ze_var 0 rfl r_first))) fun hb => (zw_or (zt_not (zt_trLt (ze_var 1 rfl r_second))) fun hb => (zw_or1 (zt_cm cm_neI (ze_sum rfl T.b_sum (ze_var 0 rfl r_first)) (ze_sum rfl T.b_sum (ze_var 1 rfl r_second))))))) (fun hb F_2 H_2 s_2 => ?_) (fun hb F_2 H_2 s_2 => ?_)
    · have s_2 : Stp F [] H F_2 [] H_2 := by exact s_2
      have st := st.trans s_2
      have r_first := r_first.mono s_2.gr
      have r_second := r_second.mono s_2.gr
      have hf := hf.trans (cond_t hb)
      refine zs_ret st.ok ze_bl fun v F_3 H_3 s_3 r_2 => ?_
      exact q v F_3 H_3 (st.trans s_3) (by rw [hf]; exact r_2)
    · have s_2 : Stp F [] H F_2 [] H_2 := by exact s_2
      have st := st.trans s_2
      have r_first := r_first.mono s_2.gr
      have r_second := r_second.mono s_2.gr
      have hf := hf.trans (cond_f hb)
      refine zs_nil ?_
      show ZS _ _ [some v_first, some v_second, none, none] H_2 _
      refine zs_setM (n := 2) st.ok (zm_new (kk := kI) (enc := eB)) sc.nd rfl (by first | exact Or.inl rfl | exact Or.inr rfl) fun p_inner us_inner F_4 H_4 hp_2 s_4 r_inner => ?_
      obtain ⟨inner, hx_inner⟩ : ∃ z : (List (Int × Bool)), z = ([] : (List (Int × Bool))) := ⟨_, rfl⟩
      have hn := st.newAt hp_2
      have s_4 : Stp F_2 [] H_2 F_4 [(p_inner, .dK us_inner)] H_4 := by exact s_4
      have r_inner : RM K F_4 kI eB us_inner inner := by subst hx_inner; exact r_inner
      have st := st.trans s_4
      have r_first := r_first.mono s_4.gr
      have r_second := r_second.mono s_4.gr
      show ZS _ _ [some v_first, some v_second, some (.ref p_inner), none] H_4 _
      have hf : primitiveL first second = primitiveL_1 first second inner := by subst hx_inner; exact hf
      refine zs_forF (f := primitiveL_L1) (b0 := inner) st.ok PassesOwn.never rfl (zi_list (zn_ze (zn_slt (ze_callD (ok_sums_ofL T) (hr.mono (by decide)) (za_cons (ze_var 0 rfl r_first) za_nil) ⟨first, rfl, (by /-1-/ first | (first | omega | (simp only [List.length_append, List.length_cons, List.length_nil, List.length_map, rangeI_length]; omega)) | (first | omega | (rw [← szL]; omega) | (simp only [List.length_append, List.length_cons, List.length_nil, List.length_map, rangeI_length, ← szL]; omega))), rfl⟩) (zo_some ze_int) (zo_some (ze_neg ze_int))))) (fun iq b σ F O => ∃ (z1 : Option V) (w2 : List (Key × V)), σ = [some v_first, some v_second, some (.ref p_inner), z1] ∧ O = [(p_inner, .dK w2)] ∧ RM K F kI eB w2 b ∧ (b.length ≤ iq)) (fun F_11 H_9 s_9 => ⟨none, us_inner, rfl, rfl, r_inner.mono s_9.gr, by rw [hx_inner]; exact Nat.zero_le _⟩) (fun i b total v_2 σ F_5 F_6 O_2 H_5 ha hbe hz rel g s_5 r_3 => ?_) (fun σ_2 F_8 O_3 H_7 s_7 rel_2 => ?_)
      · skip
        obtain ⟨inner_2, rfl⟩ : ∃ z, z = b := ⟨_, rfl⟩
        obtain ⟨z_total, us_inner_2, rfl, rfl, r_inner_2, hinv⟩ := rel
        have r_inner_2 : RM K _ kI eB us_inner_2 inner_2 := r_inner_2
        have st := st.trans s_5
        have r_first := r_first.mono s_5.gr
        have r_second := r_second.mono s_5.gr
        have r_inner_2 := r_inner_2.mono g
        have hinv : inner_2.length ≤ i := hinv
        have hlt_i := (List.getElem?_eq_some_iff.mp ha).1
        have sb : Stp F_6 [(p_inner, .dK us_inner_2)] H_5 F_6 [(p_inner, .dK us_inner_2)] H_5 := Stp.refl st.ok
        have hfb : primitiveL_L1 inner_2 total = primitiveL_L1b inner_2 total := rfl
        refine zg_name (n := 3) sc.nd rfl (by first | exact Or.inl rfl | exact Or.inr rfl) ?_
        have hq := hinv
        have hi256 : i < 256 := by have h8 := sums_len (xs := first) hpre.1; have h9 := cutD_len (xs := sums_ofL first) (lo := some 1) (hi := some (-1)); omega
        show ZS _ _ [some v_first, some v_second, some (.ref p_inner), some v_2] H_5 _
        refine zs_putM (kk := kI) (k := total) (enc := eB) (v := true) st.ok 2 0 hr rfl ze_bl (ze_var 3 rfl r_3) rfl r_inner_2 (by /-2-/ omega) fun us_inner_3 F_7 H_6 s_6 r_inner_3 => ?_
        obtain ⟨inner_3, hx_inner_3⟩ : ∃ z : (List (Int × Bool)), z = putM inner_2 total true := ⟨_, rfl⟩
        have s_6 : Stp F_6 [(p_inner, .dK us_inner_2)] H_5 F_7 [(p_inner, .dK us_inner_3)] H_6 := by exact s_6
        have r_inner_3 : RM K F_7 kI eB us_inner_3 inner_3 := by subst hx_inner_3; exact r_inner_3
        have st := st.trans s_6
        have sb := sb.trans s_6
        have r_first := r_first.mono s_6.gr
        have r_second := r_second.mono s_6.gr
        have r_3 := r_3.mono s_6.gr
        show ZS _ _ [some v_first, some v_second, some (.ref p_inner), some v_2] H_6 _
        have hfb : primitiveL_L1 inner_2 total = primitiveL_2 inner_3 := by subst hx_inner_3; exact hfb
        refine zs_nil ?_
        exact ⟨_, _, sb, by (try rw [hfb]); exact ⟨some v_2, us_inner_3, rfl, rfl, r_inner_3, (show inner_3.length ≤ (i + 1) from by rw [hx_inner_3]; exact Nat.le_trans putM_length (Nat.succ_le_succ hq))⟩⟩
      · skip
        obtain ⟨b_2, hb_2⟩ : ∃ z : ((List (Int × Bool))), z = List.foldl primitiveL_L1 inner (Z.cutD (sums_ofL first) (some (1 : Int)) (some (-(1 : Int)))) := ⟨_, rfl⟩
        try rw [← hb_2] at rel_2
        obtain ⟨inner_4, rfl⟩ : ∃ z, z = b_2 := ⟨_, rfl⟩
        obtain ⟨z_total_2, us_inner_4, rfl, rfl, r_inner_4, hinv_2⟩ := rel_2
        have r_inner_4 : RM K _ kI eB us_inner_4 inner_4 := r_inner_4
        have st := st.trans s_7
        have r_first := r_first.mono s_7.gr
        have r_second := r_second.mono s_7.gr
        have hinv_2 : inner_4.length ≤ (Z.cutD (sums_ofL first) (some (1 : Int)) (some (-(1 : Int)))).length := hinv_2
        have hf : primitiveL first second = (primitiveL_3 second) inner_4 := by rw [hb_2]; exact hf
        show ZS _ _ [some v_first, some v_second, some (.ref p_inner), z_total_2] H_7 _
        have gz : Gr F_8 (upd F_8 p_inner (.dK us_inner_4)) := Gr.upd (st.ok.at_ (k := 0) rfl).2
        have r_inner_5 : R K (upd F_8 p_inner (.dK us_inner_4)) (.ref p_inner) ((eM kI eB) inner_4) := (r_inner_4.mono gz).data upd_same
        have st : Stp _ _ _ (upd F_8 p_inner (.dK us_inner_4)) [] H_7 := st.freezeAt 0 rfl hn
        have r_first := r_first.mono gz
        have r_second := r_second.mono gz
        show ZS _ _ [some v_first, some v_second, some (.ref p_inner), z_total_2] H_7 _
        refine zs_ret st.ok (ze_not (ze_any rfl T.b_any (zn_ze (zn_lcM (n := 3) (f0 := (fun a_total : Int => (getM inner_4 a_total).isSome)) (encR := eB) rfl sc.nd (zi_list (zn_ze (zn_slt (ze_callD (ok_sums_ofL T) (hr.mono (by decide)) (za_cons (ze_var 1 rfl r_second) za_nil) ⟨second, rfl, (by /-3-/ first | (first | omega | (simp only [List.length_append, List.length_cons, List.length_nil, List.length_map, rangeI_length]; omega)) | (first | omega | (rw [← szL]; omega) | (simp only [List.length_append, List.length_cons, List.length_nil, List.length_map, rangeI_length, ← szL]; omega))), rfl⟩) (zo_some ze_int) (zo_some (ze_neg ze_int))))) (fun _ _ _ _ _ a_total v_a_total _ h_a_total g_c r_a_total => (ze_cm (cm_inM (kk := kI) (k := a_total) (enc := eB) hr) (ze_var 3 rfl r_a_total) (ze_var 2 rfl (r_inner_5.mono g_c)))) (blkOk_by (N := ["first", "second", "inner", "total"]) (sc := defScope (topS 23)) (by decide +kernel)) (fun _ _ _ _ _ => pg_name (i := 3) sc.nd rfl (Or.inl rfl)))))) fun v_3 F_10 H_8 s_8 r_4 => ?_
        exact q v_3 F_10 H_8 (st.trans s_8) (by rw [hf]; exact r_4)
theorem inner_is : ∀ (ts : List Int) (m : List (Int × Bool)) (k : Int), (getM (ts.foldl primitiveL_L1 m) k).isSome = true ↔ (getM m k).isSome = true ∨ k ∈ ts
  | [], m, k => by simp
  | t :: ts, m, k => by
    rw [List.foldl_cons, inner_is ts]
    have e : primitiveL_L1 m t = putM m t true := rfl
    rw [e, getM_put]
    by_cases h : k = t
    · simp [h]
    · rw [if_neg h]; simp [h]
theorem prim_iff {xs ys : List Int} (h : okX xs ys) (h1 : 1 ≤ xs.length) (h2 : 1 ≤ ys.length) : primitiveL xs ys = true ↔ Prm xs ys := by
  have nx : xs ≠ [] := fun z => by rw [z] at h1; cases h1
  have ny : ys ≠ [] := fun z => by rw [z] at h2; cases h2
  have e1 : xs.isEmpty = false := by cases xs with | nil => exact absurd rfl nx | cons a b => rfl
  have e2 : ys.isEmpty = false := by cases ys with | nil => exact absurd rfl ny | cons a b => rfl
  have e : primitiveL xs ys = primitiveL_1 xs ys [] := by
    unfold primitiveL
    rw [e1, e2, decide_eq_true h.2.2.1]; rfl
  rw [e]
  show (!(((Z.cutD (sums_ofL ys) (some (1 : Int)) (some (-(1 : Int)))).map (fun a_total : Int => (getM ((Z.cutD (sums_ofL xs) (some (1 : Int)) (some (-(1 : Int)))).foldl primitiveL_L1 []) a_total).isSome)).any id)) = true ↔ _
  rw [Bool.not_eq_true', List.any_map, List.any_eq_false]
  constructor
  · intro hh u hu s1 s2
    by_cases hl : u < xs.sum
    · exfalso
      refine hh u ((mid_iff h.2.1 ny).mpr ⟨s2, hu, by rw [← h.2.2.1]; exact hl⟩) ?_
      exact (inner_is _ _ _).mpr (.inr ((mid_iff h.1 nx).mpr ⟨s1, hu, hl⟩))
    · omega
  · intro hh u hm hi
    have h3 := (mid_iff h.2.1 ny).mp hm
    rcases (inner_is _ _ _).mp hi with z | z
    · cases z
    · have h4 := (mid_iff h.1 nx).mp z
      have := hh u h4.2.1 h4.1 h3.1
      omega
theorem prm_symm {xs ys : List Int} (e : xs.sum = ys.sum) (h : Prm xs ys) : Prm ys xs := fun u hu a b => by rw [← e]; exact h u hu b a
theorem okX_symm {xs ys : List Int} (h : okX xs ys) : okX ys xs := ⟨h.2.1, h.1, h.2.2.1.symm, h.2.2.2.2, h.2.2.2.1⟩
theorem note_ok {x : Int} : is_noteP x = true ↔ 1 ≤ x ∧ x ≤ 1000000 := by
  unfold is_noteP
  simp
theorem is_prim_eq {xs ys : List Int} (h : okX xs ys) (h1 : 1 ≤ xs.length) (h2 : 1 ≤ ys.length) (hb : ∀ y ∈ ys, y ≤ 1000000) : is_primitiveP xs ys = primitiveL xs ys := by
  have e : is_primitiveP xs ys = has_no_partsP xs ys := by
    unfold is_primitiveP
    have a1 : ((ys.map (fun a_thing : Int => (is_noteP a_thing))).all id) = true := by
      rw [List.all_map, List.all_eq_true]
      intro y hy
      exact note_ok.mpr ⟨h.2.1 y hy, hb y hy⟩
    rw [a1, cond_f (by rfl), decide_eq_false (by omega : ¬ (xs.length : Int) = 0), decide_eq_false (by omega : ¬ (ys.length : Int) = 0), decide_eq_true h.2.2.1]; rfl
  rw [e]
  have hs := sum_pos h.1 (fun z => by rw [z] at h1; cases h1)
  have i1 := parts_iff (by omega) h.2.2.1
  have i2 := prim_iff h h1 h2
  cases a : has_no_partsP xs ys <;> cases b : primitiveL xs ys
  · rfl
  · have := i1.mpr (i2.mp b); rw [a] at this; cases this
  · have := i2.mpr (i1.mp a); rw [b] at this; cases this
  · rfl
theorem prim_symm {xs ys : List Int} (h : okX xs ys) (h1 : 1 ≤ xs.length) (h2 : 1 ≤ ys.length) : primitiveL ys xs = primitiveL xs ys := by
  have i1 := prim_iff h h1 h2
  have i2 := prim_iff (okX_symm h) h2 h1
  cases a : primitiveL xs ys <;> cases b : primitiveL ys xs
  · rfl
  · have := i1.mpr (prm_symm h.2.2.1.symm (i2.mp b)); rw [a] at this; cases this
  · have := i2.mpr (prm_symm h.2.2.1 (i1.mp a)); rw [b] at this; cases this
  · rfl
theorem is_prim_ne {xs ys : List Int} (h : xs.sum ≠ ys.sum) : is_primitiveP xs ys = false := by
  unfold is_primitiveP
  rw [decide_eq_false h]
  cases (!((ys.map (fun a_thing : Int => (is_noteP a_thing))).all id)) with
  | true => rfl
  | false =>
    rw [cond_f rfl]
    cases decide ((xs.length : Int) = 0) <;> cases decide ((ys.length : Int) = 0) <;> rfl
theorem pickA {cs : List Int} {s : Sto} : (pickT cs s ([(3 : Int), (9 : Int), (100000 : Int)] : List Int)).1 = 3 ∨ (pickT cs s ([(3 : Int), (9 : Int), (100000 : Int)] : List Int)).1 = 9 ∨ (pickT cs s ([(3 : Int), (9 : Int), (100000 : Int)] : List Int)).1 = 100000 := by
  have h := pickT_mem (cs := cs) (s := s) (xs := ([(3 : Int), (9 : Int), (100000 : Int)] : List Int)) (by simp)
  simp only [List.mem_cons, List.not_mem_nil, or_false] at h
  omega
theorem pickB {cs : List Int} {s : Sto} : (pickT cs s ([(3 : Int), (9 : Int), (1000 : Int), (140000 : Int)] : List Int)).1 = 3 ∨ (pickT cs s ([(3 : Int), (9 : Int), (1000 : Int), (140000 : Int)] : List Int)).1 = 9 ∨ (pickT cs s ([(3 : Int), (9 : Int), (1000 : Int), (140000 : Int)] : List Int)).1 = 1000 ∨ (pickT cs s ([(3 : Int), (9 : Int), (1000 : Int), (140000 : Int)] : List Int)).1 = 140000 := by
  have h := pickT_mem (cs := cs) (s := s) (xs := ([(3 : Int), (9 : Int), (1000 : Int), (140000 : Int)] : List Int)) (by simp)
  simp only [List.mem_cons, List.not_mem_nil, or_false] at h
  omega
theorem pickW {cs : List Int} {s : Sto} : (pickT cs s ([(1 : Int), (1 : Int), (10 : Int), (50000 : Int)] : List Int)).1 = 1 ∨ (pickT cs s ([(1 : Int), (1 : Int), (10 : Int), (50000 : Int)] : List Int)).1 = 10 ∨ (pickT cs s ([(1 : Int), (1 : Int), (10 : Int), (50000 : Int)] : List Int)).1 = 50000 := by
  have h := pickT_mem (cs := cs) (s := s) (xs := ([(1 : Int), (1 : Int), (10 : Int), (50000 : Int)] : List Int)) (by simp)
  simp only [List.mem_cons, List.not_mem_nil, or_false] at h
  omega
theorem pick3k {cs : List Int} {s : Sto} : 1 ≤ (pickT cs s ([(3 : Int), (9 : Int), (100000 : Int)] : List Int)).1 ∧ (pickT cs s ([(3 : Int), (9 : Int), (100000 : Int)] : List Int)).1 ≤ 140000 := by
  rcases pickA (cs := cs) (s := s) with h | h | h <;> (rw [h]; decide)
theorem pick4k {cs : List Int} {s : Sto} : 1 ≤ (pickT cs s ([(3 : Int), (9 : Int), (1000 : Int), (140000 : Int)] : List Int)).1 ∧ (pickT cs s ([(3 : Int), (9 : Int), (1000 : Int), (140000 : Int)] : List Int)).1 ≤ 140000 := by
  rcases pickB (cs := cs) (s := s) with h | h | h | h <;> (rw [h]; decide)
theorem pair_in {p : Int × Int} (h : p ∈ ([((2 : Int), (3 : Int)), ((3 : Int), (4 : Int)), ((2 : Int), (5 : Int)), ((6 : Int), (4 : Int)), ((1 : Int), (7 : Int)), ((7 : Int), (6 : Int)), ((5 : Int), (6 : Int)), ((3 : Int), (6 : Int))] : List (Int × Int))) : 1 ≤ p.1 ∧ p.1 ≤ 7 ∧ 1 ≤ p.2 ∧ p.2 ≤ 7 := by
  simp only [List.mem_cons, List.not_mem_nil, or_false] at h
  rcases h with rfl | rfl | rfl | rfl | rfl | rfl | rfl | rfl <;> decide
theorem repL_one {a n : Int} : (∀ x ∈ repL [a] n, x = a) ∧ (repL [a] n).length = n.toNat ∧ (repL [a] n).sum = a * n.toNat := by
  unfold repL
  generalize n.toNat = k
  induction k with
  | zero => exact ⟨fun x h => by simp at h, rfl, by simp⟩
  | succ k ih =>
    obtain ⟨h1, h2, h3⟩ := ih
    rw [List.replicate_succ, List.flatten_cons]
    refine ⟨fun x h => ?_, by rw [List.length_append, h2]; simp; omega, ?_⟩
    · rcases List.mem_append.mp h with z | z
      · exact List.mem_singleton.mp z
      · exact h1 x z
    · rw [List.sum_append, h3]
      have e : a * ((k + 1 : Nat) : Int) = a * k + a := by rw [Int.natCast_add, Int.mul_add]; simp
      rw [e]; simp; omega
theorem worth_ok {cs : List Int} {s : Sto} : 1 ≤ (pickT cs s ([(1 : Int), (1 : Int), (10 : Int), (50000 : Int)] : List Int)).1 ∧ (pickT cs s ([(1 : Int), (1 : Int), (10 : Int), (50000 : Int)] : List Int)).1 ≤ 50000 := by
  rcases pickW (cs := cs) (s := s) with h | h | h <;> (rw [h]; decide)
theorem pick8_in {cs : List Int} {s : Sto} : 1 ≤ (pickT cs s ([((2 : Int), (3 : Int)), ((3 : Int), (4 : Int)), ((2 : Int), (5 : Int)), ((6 : Int), (4 : Int)), ((1 : Int), (7 : Int)), ((7 : Int), (6 : Int)), ((5 : Int), (6 : Int)), ((3 : Int), (6 : Int))] : List (Int × Int))).1.1 ∧ (pickT cs s ([((2 : Int), (3 : Int)), ((3 : Int), (4 : Int)), ((2 : Int), (5 : Int)), ((6 : Int), (4 : Int)), ((1 : Int), (7 : Int)), ((7 : Int), (6 : Int)), ((5 : Int), (6 : Int)), ((3 : Int), (6 : Int))] : List (Int × Int))).1.1 ≤ 7 ∧ 1 ≤ (pickT cs s ([((2 : Int), (3 : Int)), ((3 : Int), (4 : Int)), ((2 : Int), (5 : Int)), ((6 : Int), (4 : Int)), ((1 : Int), (7 : Int)), ((7 : Int), (6 : Int)), ((5 : Int), (6 : Int)), ((3 : Int), (6 : Int))] : List (Int × Int))).1.2 ∧ (pickT cs s ([((2 : Int), (3 : Int)), ((3 : Int), (4 : Int)), ((2 : Int), (5 : Int)), ((6 : Int), (4 : Int)), ((1 : Int), (7 : Int)), ((7 : Int), (6 : Int)), ((5 : Int), (6 : Int)), ((3 : Int), (6 : Int))] : List (Int × Int))).1.2 ≤ 7 := pair_in (pickT_mem (Nat.succ_le_succ (Nat.zero_le _)))

/-! _law_case -/
abbrev s_caseL : Stmt := topS 25
theorem sc_caseL : FnScope ["store", "mode", "first", "second", "k", "one", "two", "worth", "more"] ["store"] (defScope s_caseL) := ⟨rfl, rfl, rfl, by decide +kernel, rfl, by decide +kernel, by decide +kernel⟩
def caseL_4 (cs : List Int) (j_first : (List Int)) (j_second : (List Int)) (s_9 : Sto) : ((List Int) × (List Int)) × Sto :=
  (((shufT cs s_9 j_second).1, (shufT cs ((shufT cs s_9 j_second).2) j_first).1), (shufT cs ((shufT cs s_9 j_second).2) j_first).2)
def caseL_5 (cs : List Int) (j_first : (List Int)) (j_second : (List Int)) (s_11 : Sto) : ((List Int) × (List Int)) × Sto :=
  (((shufT cs s_11 j_first).1, (shufT cs ((shufT cs s_11 j_first).2) j_second).1), (shufT cs ((shufT cs s_11 j_first).2) j_second).2)
def caseL_3 (cs : List Int) (j_first : (List Int)) (j_second : (List Int)) (j_s : Sto) : ((List Int) × (List Int)) × Sto :=
  (cond ((odds cs j_s (2 : Int)).1) (caseL_4 cs j_first j_second ((odds cs j_s (2 : Int)).2)) (caseL_5 cs j_first j_second ((odds cs j_s (2 : Int)).2)))
def caseL_8 (first_3 : (List Int)) (second_3 : (List Int)) (s_16 : Sto) : ((List Int) × (List Int) × Sto) :=
  (first_3, second_3, s_16)
def caseL_7 (first_3 : (List Int)) (second_2 : (List Int)) (two : (List Int)) (s_16 : Sto) : ((List Int) × (List Int) × Sto) :=
  caseL_8 first_3 (second_2 ++ two) s_16
def caseL_6 (first_2 : (List Int)) (second_2 : (List Int)) (one : (List Int)) (two : (List Int)) (s_16 : Sto) : ((List Int) × (List Int) × Sto) :=
  (cond (decide ((if ((second_2.length : Int) + (two.length : Int)) > ((first_2.length : Int) + (one.length : Int)) then ((second_2.length : Int) + (two.length : Int)) else ((first_2.length : Int) + (one.length : Int))) ≤ (7 : Int))) (caseL_7 (first_2 ++ one) second_2 two s_16) (first_2, second_2, s_16))
def caseL_L1b (cs : List Int) (first_2 : (List Int)) (second_2 : (List Int)) (s_14 : Sto) : ((List Int) × (List Int) × Sto) :=
  caseL_6 first_2 second_2 ((exchangeL cs ((pickT cs s_14 ([(3 : Int), (9 : Int), (100000 : Int)] : List Int)).2) (3 : Int) ((pickT cs s_14 ([(3 : Int), (9 : Int), (100000 : Int)] : List Int)).1)).1.1) ((exchangeL cs ((pickT cs s_14 ([(3 : Int), (9 : Int), (100000 : Int)] : List Int)).2) (3 : Int) ((pickT cs s_14 ([(3 : Int), (9 : Int), (100000 : Int)] : List Int)).1)).1.2) ((exchangeL cs ((pickT cs s_14 ([(3 : Int), (9 : Int), (100000 : Int)] : List Int)).2) (3 : Int) ((pickT cs s_14 ([(3 : Int), (9 : Int), (100000 : Int)] : List Int)).1)).2)
def caseL_L1 (cs : List Int) (b : ((List Int) × (List Int) × Sto)) (a : Int) : ((List Int) × (List Int) × Sto) :=
  caseL_L1b cs b.1 b.2.1 b.2.2
def caseL_9 (cs : List Int) (b : ((List Int) × (List Int) × Sto)) : ((List Int) × (List Int)) × Sto :=
  caseL_3 cs b.1 b.2.1 b.2.2
def caseL_10 (cs : List Int) (first : (List Int)) (second_5 : (List Int)) (s_5 : Sto) : ((List Int) × (List Int)) × Sto :=
  caseL_3 cs first second_5 s_5
def caseL_11 (cs : List Int) (j_first_2 : (List Int)) (j_second_2 : (List Int)) (j_s_2 : Sto) : ((List Int) × (List Int)) × Sto :=
  caseL_3 cs j_first_2 j_second_2 j_s_2
def caseL_18 (cs : List Int) (first_6 : (List Int)) (second_7 : (List Int)) (s_35 : Sto) : ((List Int) × (List Int)) × Sto :=
  caseL_11 cs first_6 second_7 s_35
def caseL_17 (cs : List Int) (first_6 : (List Int)) (second_6 : (List Int)) (more : Int) (s_35 : Sto) : ((List Int) × (List Int)) × Sto :=
  caseL_18 cs first_6 (second_6 ++ ([more] : List Int)) s_35
def caseL_16 (cs : List Int) (first_5 : (List Int)) (second_6 : (List Int)) (more : Int) (s_35 : Sto) : ((List Int) × (List Int)) × Sto :=
  caseL_17 cs (first_5 ++ ([more] : List Int)) second_6 more s_35
def caseL_15 (cs : List Int) (first_5 : (List Int)) (second_6 : (List Int)) (one_2 : Int) (two_2 : Int) (worth : Int) (s_30 : Sto) : ((List Int) × (List Int)) × Sto :=
  (cond (decide ((if two_2 > one_2 then two_2 else one_2) < (7 : Int))) (caseL_16 cs first_5 second_6 ((pickT cs s_30 ([worth, (one_2 * worth), (two_2 * worth)] : List Int)).1) ((pickT cs s_30 ([worth, (one_2 * worth), (two_2 * worth)] : List Int)).2)) (caseL_11 cs first_5 second_6 s_30))
def caseL_14 (cs : List Int) (first_5 : (List Int)) (one_2 : Int) (two_2 : Int) (worth : Int) (s_30 : Sto) : ((List Int) × (List Int)) × Sto :=
  caseL_15 cs first_5 (repL ([(two_2 * worth)] : List Int) one_2) one_2 two_2 worth s_30
def caseL_13 (cs : List Int) (one_2 : Int) (two_2 : Int) (worth : Int) (s_30 : Sto) : ((List Int) × (List Int)) × Sto :=
  caseL_14 cs (repL ([(one_2 * worth)] : List Int) two_2) one_2 two_2 worth s_30
def caseL_12 (cs : List Int) (one_2 : Int) (two_2 : Int) (s_28 : Sto) : ((List Int) × (List Int)) × Sto :=
  caseL_13 cs one_2 two_2 ((pickT cs s_28 ([(1 : Int), (1 : Int), (10 : Int), (50000 : Int)] : List Int)).1) ((pickT cs s_28 ([(1 : Int), (1 : Int), (10 : Int), (50000 : Int)] : List Int)).2)
def caseL_20 (cs : List Int) (first_7 : (List Int)) (second_8 : (List Int)) (s_40 : Sto) : ((List Int) × (List Int)) × Sto :=
  caseL_11 cs first_7 second_8 s_40
def caseL_19 (cs : List Int) (first_7 : (List Int)) (s_40 : Sto) : ((List Int) × (List Int)) × Sto :=
  caseL_20 cs first_7 ([first_7.sum] : List Int) s_40
def caseL_2 (cs : List Int) (mode : Int) (first : (List Int)) (second : (List Int)) (s_5 : Sto) : ((List Int) × (List Int)) × Sto :=
  (cond (decide (mode = (0 : Int))) ((caseL_9 cs) (List.foldl (caseL_L1 cs) (first, second, s_5) (rangeI 0 (3 : Int)))) (cond (decide (mode = (1 : Int))) (caseL_10 cs first first s_5) (cond (decide (mode = (2 : Int))) (caseL_12 cs ((pickT cs s_5 ([((2 : Int), (3 : Int)), ((3 : Int), (4 : Int)), ((2 : Int), (5 : Int)), ((6 : Int), (4 : Int)), ((1 : Int), (7 : Int)), ((7 : Int), (6 : Int)), ((5 : Int), (6 : Int)), ((3 : Int), (6 : Int))] : List (Int × Int))).1.1) ((pickT cs s_5 ([((2 : Int), (3 : Int)), ((3 : Int), (4 : Int)), ((2 : Int), (5 : Int)), ((6 : Int), (4 : Int)), ((1 : Int), (7 : Int)), ((7 : Int), (6 : Int)), ((5 : Int), (6 : Int)), ((3 : Int), (6 : Int))] : List (Int × Int))).1.2) ((pickT cs s_5 ([((2 : Int), (3 : Int)), ((3 : Int), (4 : Int)), ((2 : Int), (5 : Int)), ((6 : Int), (4 : Int)), ((1 : Int), (7 : Int)), ((7 : Int), (6 : Int)), ((5 : Int), (6 : Int)), ((3 : Int), (6 : Int))] : List (Int × Int))).2)) (cond (decide (mode = (3 : Int))) (caseL_19 cs ((mapS (fun (z : Sto) (a_k : Int) => ((number cs z (1 : Int) (140000 : Int)).1, (number cs z (1 : Int) (140000 : Int)).2)) s_5 (rangeI 0 (7 : Int))).1) ((mapS (fun (z : Sto) (a_k : Int) => ((number cs z (1 : Int) (140000 : Int)).1, (number cs z (1 : Int) (140000 : Int)).2)) s_5 (rangeI 0 (7 : Int))).2)) (caseL_11 cs first second s_5)))))
def caseL_1 (cs : List Int) (mode : Int) (s_3 : Sto) : ((List Int) × (List Int)) × Sto :=
  caseL_2 cs mode ((exchangeL cs ((pickT cs s_3 ([(3 : Int), (9 : Int), (1000 : Int), (140000 : Int)] : List Int)).2) (7 : Int) ((pickT cs s_3 ([(3 : Int), (9 : Int), (1000 : Int), (140000 : Int)] : List Int)).1)).1.1) ((exchangeL cs ((pickT cs s_3 ([(3 : Int), (9 : Int), (1000 : Int), (140000 : Int)] : List Int)).2) (7 : Int) ((pickT cs s_3 ([(3 : Int), (9 : Int), (1000 : Int), (140000 : Int)] : List Int)).1)).1.2) ((exchangeL cs ((pickT cs s_3 ([(3 : Int), (9 : Int), (1000 : Int), (140000 : Int)] : List Int)).2) (7 : Int) ((pickT cs s_3 ([(3 : Int), (9 : Int), (1000 : Int), (140000 : Int)] : List Int)).1)).2)
def caseL (cs : List Int) (s : Sto) : ((List Int) × (List Int)) × Sto :=
  caseL_1 cs ((take cs s (6 : Int)).1) ((take cs s (6 : Int)).2)
def A_caseL : List Int → Sto → List PyData → PyData → Sto → Prop := fun cs s ds r s' => ds = [] ∧ r = (eT2 (eL eI) (eL eI)) (caseL cs s).1 ∧ s' = (caseL cs s).2
set_option maxHeartbeats 4000000 in
theorem ok_caseL {P : Program} {w : World} {K : PySem.W.Frag} {mg : Str → Option Value} {base : Heap} (T : Top K mg) : Fn P w K mg base 7 "_law_case" ["store"] (spS K A_caseL) := by
  obtain ⟨f, fd, F, gm⟩ := T.f_caseL
  have sc := sc_caseL
  refine ⟨f, fd, F.ok sc (fun vs H Q E h => ?_) (fun cdv A outer s0 H vs Q E hr h => ⟨_, PSs.nox pss_w, ?_⟩), gm, F.kp, F.bindsN (fun _ _ _ _ _ _ us hl => match us, hl with | [_], _ => rfl)⟩
  · obtain ⟨F, a_st, c_st, cs, s, ws, ds, r, s', rfl, w, rc, ra, ⟨rfl, rfl, rfl⟩, q⟩ := h
    have h := ra.len
    show ws.length + 1 = 1
    rw [h]; rfl
  · obtain ⟨F, a_st, c_st, cs, s, ws, ds, r, s', rfl, w, r_st, ra, ⟨rfl, rfl, rfl⟩, q⟩ := h
    obtain rfl := ra.nil_inv
    have st := Stp.refl w
    have hf : caseL cs s = caseL cs s := rfl
    show ZS _ _ [some (.ref a_st), none, none, none, none, none, none, none, none] H _
    refine zs_set (n := 1) st.ok (ze_callS 0 0 (ok_take T) (hr.mono (by decide)) rfl r_st (za_cons ze_int za_nil) rfl ⟨(6 : Int), rfl, (by /-1-/ first | (first | omega | (simp only [List.length_append, List.length_cons, List.length_nil, List.length_map, rangeI_length]; omega)) | (first | omega | (rw [← szL]; omega) | (simp only [List.length_append, List.length_cons, List.length_nil, List.length_map, rangeI_length, ← szL]; omega))), rfl, rfl⟩) sc.nd rfl (by first | exact Or.inl rfl | exact Or.inr rfl) fun v_mode F_2 H_2 s_2 r_mode => ?_
    obtain ⟨mode, hx_mode⟩ : ∃ z : Int, z = (take cs s (6 : Int)).1 := ⟨_, rfl⟩
    obtain ⟨s_3, hx_s_3⟩ : ∃ z : Sto, z = (take cs s (6 : Int)).2 := ⟨_, rfl⟩
    have s_2 : Stp F [stoO a_st c_st s] H F_2 [stoO a_st c_st s_3] H_2 := by subst hx_s_3; exact s_2
    have r_mode : R K F_2 v_mode (eI mode) := by subst hx_mode; exact r_mode
    have st := st.trans s_2
    have r_st := r_st.mono s_2.gr
    show ZS _ _ [some (.ref a_st), some v_mode, none, none, none, none, none, none, none] H_2 _
    have hf : caseL cs s = caseL_1 cs mode s_3 := by subst hx_mode; subst hx_s_3; exact hf
    refine zs_asg st.ok (ze_callS 0 0 (ok_exchangeL T) (hr.mono (by decide)) rfl r_st (za_cons ze_int (za_cons (ze_callS 0 0 (ok_pick T) (hr.mono (by decide)) rfl r_st (za_cons (zn_ze (zn_lstt (enc := eI) (xs := ([(3 : Int), (9 : Int), (1000 : Int), (140000 : Int)] : List Int)) (za_cd 8 (by kernel_rfl)))) za_nil) rfl (A_pick_of eI (by /-2-/ first | (first | (simp only [List.length_append, List.length_cons, List.length_nil, List.length_map, rangeI_length]; omega) | omega) | (first | omega | (rw [← szL]; omega) | (simp only [List.length_append, List.length_cons, List.length_nil, List.length_map, rangeI_length, ← szL]; omega))))) za_nil)) rfl ⟨(7 : Int), (pickT cs s_3 ([(3 : Int), (9 : Int), (1000 : Int), (140000 : Int)] : List Int)).1, rfl, (by /-3-/ exact ⟨by decide, by decide, pick4k.1, pick4k.2⟩), rfl, rfl⟩) fun v F_3 H_3 s_4 r_2 => ?_
    obtain ⟨first, hx_first⟩ : ∃ z : (List Int), z = (exchangeL cs ((pickT cs s_3 ([(3 : Int), (9 : Int), (1000 : Int), (140000 : Int)] : List Int)).2) (7 : Int) ((pickT cs s_3 ([(3 : Int), (9 : Int), (1000 : Int), (140000 : Int)] : List Int)).1)).1.1 := ⟨_, rfl⟩
    obtain ⟨second, hx_second⟩ : ∃ z : (List Int), z = (exchangeL cs ((pickT cs s_3 ([(3 : Int), (9 : Int), (1000 : Int), (140000 : Int)] : List Int)).2) (7 : Int) ((pickT cs s_3 ([(3 : Int), (9 : Int), (1000 : Int), (140000 : Int)] : List Int)).1)).1.2 := ⟨_, rfl⟩
    obtain ⟨s_5, hx_s_5⟩ : ∃ z : Sto, z = (exchangeL cs ((pickT cs s_3 ([(3 : Int), (9 : Int), (1000 : Int), (140000 : Int)] : List Int)).2) (7 : Int) ((pickT cs s_3 ([(3 : Int), (9 : Int), (1000 : Int), (140000 : Int)] : List Int)).1)).2 := ⟨_, rfl⟩
    have s_4 : Stp F_2 [stoO a_st c_st s_3] H_2 F_3 [stoO a_st c_st s_5] H_3 := by subst hx_s_5; exact s_4
    have st := st.trans s_4
    have r_st := r_st.mono s_4.gr
    have r_mode := r_mode.mono s_4.gr
    refine zg_tup2 (n := 2) (m := 3) (F := F_3) rfl sc.nd rfl (by first | exact Or.inl rfl | exact Or.inr rfl) rfl (by first | exact Or.inl rfl | exact Or.inr rfl) (show R K F_3 v (.tuple [(eL eI) first, (eL eI) second]) from by subst hx_first; subst hx_second; exact r_2) st.ok fun v_first v_second r_first r_second => ?_
    show ZS _ _ [some (.ref a_st), some v_mode, some v_first, some v_second, none, none, none, none, none] H_3 _
    have hf : caseL cs s = caseL_2 cs mode first second s_5 := by subst hx_first; subst hx_second; subst hx_s_5; exact hf
    have hE : okC first second := by rw [hx_first, hx_second]; exact (exch_ok (cs := cs) (by decide : (1 : Int) ≤ 7) (by decide) pick4k.1 pick4k.2).1
    have hE1 := hE.2.2.1
    have hE2 := hE.2.2.2.2.1
    refine zs_ifJ st.ok (zt_cm cm_eqI (ze_var 1 rfl r_mode) ze_int) (fun σ H' => ∃ (j_first : (List Int)) (j_second : (List Int)) (j_s : Sto) (F : Hp) (O : Own), caseL cs s = caseL_3 cs j_first j_second j_s ∧ Stp F_3 [stoO a_st c_st s_5] H_3 F O H' ∧ ∃ (w1 : V) (w2 : V) (z3 : Option V) (z4 : Option V) (z5 : Option V) (z6 : Option V) (z7 : Option V), σ = [some (.ref a_st), some v_mode, some w1, some w2, z3, z4, z5, z6, z7] ∧ O = [stoO a_st c_st j_s] ∧ R K F w1 ((eL eI) j_first) ∧ R K F w2 ((eL eI) j_second) ∧ (j_first.length ≤ 64 ∧ j_second.length ≤ 64)) (fun hb F_4 H_4 s_6 => ?_) (fun hb F_4 H_4 s_6 => ?_) (fun σ H_5 hJ => ?_)
    · have s_6 : Stp F_3 [stoO a_st c_st s_5] H_3 F_4 [stoO a_st c_st s_5] H_4 := by exact s_6
      have sj := s_6
      have st := st.trans s_6
      have r_st := r_st.mono s_6.gr
      have r_mode := r_mode.mono s_6.gr
      have r_first := r_first.mono s_6.gr
      have r_second := r_second.mono s_6.gr
      have hf := hf.trans (cond_t hb)
      refine zs_forF (f := (caseL_L1 cs)) (b0 := (first, second, s_5)) st.ok PassesOwn.never rfl (zi_range1 T.b_range ze_int (by decide)) (fun iq b σ F O => ∃ (w1 : V) (w2 : V) (z3 : Option V) (z4 : Option V) (z5 : Option V), σ = [some (.ref a_st), some v_mode, some w1, some w2, z3, z4, z5, none, none] ∧ O = [stoO a_st c_st b.2.2] ∧ R K F w1 ((eL eI) b.1) ∧ R K F w2 ((eL eI) b.2.1) ∧ (b.1.length ≤ 7 ∧ b.2.1.length ≤ 7)) (fun F_18 H_15 s_22 => ⟨v_first, v_second, none, none, none, rfl, rfl, r_first.mono s_22.gr, r_second.mono s_22.gr, ⟨by omega, by omega⟩⟩) (fun i b k v_4 σ_2 F_9 F_10 O_3 H_9 ha hbe hz rel g s_13 r_5 => ?_) (fun σ_3 F_17 O_4 H_14 s_21 rel_2 => ?_)
      · skip
        obtain ⟨first_2, second_2, s_14⟩ := b
        obtain ⟨v_first_3, v_second_3, z_k_2, z_one_2, z_two_2, rfl, rfl, r_first_3, r_second_3, hinv_2⟩ := rel
        have r_first_3 : R K _ v_first_3 ((eL eI) first_2) := r_first_3
        have r_second_3 : R K _ v_second_3 ((eL eI) second_2) := r_second_3
        have st := st.trans s_13
        have sj := sj.trans s_13
        have r_st := r_st.mono s_13.gr
        have r_mode := r_mode.mono s_13.gr
        have r_first_3 := r_first_3.mono g
        have r_second_3 := r_second_3.mono g
        have hinv_2 : first_2.length ≤ 7 ∧ second_2.length ≤ 7 := hinv_2
        have hlt_i := (List.getElem?_eq_some_iff.mp ha).1
        rw [rangeI_length] at hlt_i
        have hat_i := rangeI_at ha
        have sb : Stp F_10 [stoO a_st c_st s_14] H_9 F_10 [stoO a_st c_st s_14] H_9 := Stp.refl st.ok
        have hfb : caseL_L1 cs (first_2, second_2, s_14) k = caseL_L1b cs first_2 second_2 s_14 := rfl
        refine zg_name (n := 4) sc.nd rfl (by first | exact Or.inl rfl | exact Or.inr rfl) ?_
        have hq := hinv_2
        show ZS _ _ [some (.ref a_st), some v_mode, some v_first_3, some v_second_3, some v_4, z_one_2, z_two_2, none, none] H_9 _
        refine zs_asg st.ok (ze_callS 0 0 (ok_exchangeL T) (hr.mono (by decide)) rfl r_st (za_cons ze_int (za_cons (ze_callS 0 0 (ok_pick T) (hr.mono (by decide)) rfl r_st (za_cons (zn_ze (zn_lstt (enc := eI) (xs := ([(3 : Int), (9 : Int), (100000 : Int)] : List Int)) (za_cons ze_int (za_cons ze_int (za_cons ze_int za_nil))))) za_nil) rfl (A_pick_of eI (by /-9-/ first | (first | (simp only [List.length_append, List.length_cons, List.length_nil, List.length_map, rangeI_length]; omega) | omega) | (first | omega | (rw [← szL]; omega) | (simp only [List.length_append, List.length_cons, List.length_nil, List.length_map, rangeI_length, ← szL]; omega))))) za_nil)) rfl ⟨(3 : Int), (pickT cs s_14 ([(3 : Int), (9 : Int), (100000 : Int)] : List Int)).1, rfl, (by /-10-/ exact ⟨by decide, by decide, pick3k.1, pick3k.2⟩), rfl, rfl⟩) fun v_5 F_11 H_10 s_15 r_6 => ?_
        obtain ⟨one, hx_one⟩ : ∃ z : (List Int), z = (exchangeL cs ((pickT cs s_14 ([(3 : Int), (9 : Int), (100000 : Int)] : List Int)).2) (3 : Int) ((pickT cs s_14 ([(3 : Int), (9 : Int), (100000 : Int)] : List Int)).1)).1.1 := ⟨_, rfl⟩
        obtain ⟨two, hx_two⟩ : ∃ z : (List Int), z = (exchangeL cs ((pickT cs s_14 ([(3 : Int), (9 : Int), (100000 : Int)] : List Int)).2) (3 : Int) ((pickT cs s_14 ([(3 : Int), (9 : Int), (100000 : Int)] : List Int)).1)).1.2 := ⟨_, rfl⟩
        obtain ⟨s_16, hx_s_16⟩ : ∃ z : Sto, z = (exchangeL cs ((pickT cs s_14 ([(3 : Int), (9 : Int), (100000 : Int)] : List Int)).2) (3 : Int) ((pickT cs s_14 ([(3 : Int), (9 : Int), (100000 : Int)] : List Int)).1)).2 := ⟨_, rfl⟩
        have s_15 : Stp F_10 [stoO a_st c_st s_14] H_9 F_11 [stoO a_st c_st s_16] H_10 := by subst hx_s_16; exact s_15
        have st := st.trans s_15
        have sj := sj.trans s_15
        have sb := sb.trans s_15
        have r_st := r_st.mono s_15.gr
        have r_mode := r_mode.mono s_15.gr
        have r_first_3 := r_first_3.mono s_15.gr
        have r_second_3 := r_second_3.mono s_15.gr
        have r_5 := r_5.mono s_15.gr
        refine zg_tup2 (n := 5) (m := 6) (F := F_11) rfl sc.nd rfl (by first | exact Or.inl rfl | exact Or.inr rfl) rfl (by first | exact Or.inl rfl | exact Or.inr rfl) (show R K F_11 v_5 (.tuple [(eL eI) one, (eL eI) two]) from by subst hx_one; subst hx_two; exact r_6) st.ok fun v_one v_two r_one r_two => ?_
        show ZS _ _ [some (.ref a_st), some v_mode, some v_first_3, some v_second_3, some v_4, some v_one, some v_two, none, none] H_10 _
        have hfb : caseL_L1 cs (first_2, second_2, s_14) k = caseL_6 first_2 second_2 one two s_16 := by subst hx_one; subst hx_two; subst hx_s_16; exact hfb
        have hD : okC one two := by rw [hx_one, hx_two]; exact (exch_ok (cs := cs) (by decide : (1 : Int) ≤ 3) (by decide) pick3k.1 pick3k.2).1
        have hD1 := hD.2.2.1
        have hD2 := hD.2.2.2.2.1
        refine zs_if st.ok (zt_cm cm_le (ze_max2 rfl T.b_max (ze_add (ze_lenLt T.b_len (ze_var 2 rfl r_first_3)) (ze_lenLt T.b_len (ze_var 5 rfl r_one))) (ze_add (ze_lenLt T.b_len (ze_var 3 rfl r_second_3)) (ze_lenLt T.b_len (ze_var 6 rfl r_two)))) ze_int) (fun hb_3 F_12 H_11 s_17 => ?_) (fun hb_3 F_12 H_11 s_17 => ?_)
        · have s_17 : Stp F_11 [stoO a_st c_st s_16] H_10 F_12 [stoO a_st c_st s_16] H_11 := by exact s_17
          have st := st.trans s_17
          have sj := sj.trans s_17
          have sb := sb.trans s_17
          have r_st := r_st.mono s_17.gr
          have r_mode := r_mode.mono s_17.gr
          have r_first_3 := r_first_3.mono s_17.gr
          have r_second_3 := r_second_3.mono s_17.gr
          have r_5 := r_5.mono s_17.gr
          have r_one := r_one.mono s_17.gr
          have r_two := r_two.mono s_17.gr
          have hfb := hfb.trans (cond_t hb_3)
          have hgd := of_decide_eq_true hb_3
          have hg1 : (first_2.length : Int) + (one.length : Int) ≤ 7 := by split at hgd <;> omega
          have hg2 : (second_2.length : Int) + (two.length : Int) ≤ 7 := by split at hgd <;> omega
          refine zs_setN (n := 2) st.ok (zn_catt (ze_var 2 rfl r_first_3) (ze_var 5 rfl r_one) (by /-11-/ rw [← szL]; omega)) sc.nd rfl (by first | exact Or.inl rfl | exact Or.inr rfl) fun p_first us_first F_13 H_12 hp_2 s_18 r_first_4 => ?_
          obtain ⟨first_3, hx_first_3⟩ : ∃ z : (List Int), z = (first_2 ++ one) := ⟨_, rfl⟩
          have hn := st.newAt hp_2
          have hn_2 := sj.newAt hp_2
          have hn_3 := sb.newAt hp_2
          have s_18 : Stp F_12 [stoO a_st c_st s_16] H_11 F_13 [(p_first, .lst us_first), stoO a_st c_st s_16] H_12 := by exact s_18
          have r_first_4 : RA K F_13 us_first (first_3.map eI) := by subst hx_first_3; exact r_first_4
          have st := st.trans s_18
          have sj := sj.trans s_18
          have sb := sb.trans s_18
          have r_st := r_st.mono s_18.gr
          have r_mode := r_mode.mono s_18.gr
          have r_second_3 := r_second_3.mono s_18.gr
          have r_5 := r_5.mono s_18.gr
          have r_one := r_one.mono s_18.gr
          have r_two := r_two.mono s_18.gr
          have gz : Gr F_13 (upd F_13 p_first (.lst us_first)) := Gr.upd (st.ok.at_ (k := 0) rfl).2
          have r_first_5 : R K (upd F_13 p_first (.lst us_first)) (.ref p_first) (eL eI first_3) := (r_first_4.mono gz).lst upd_same
          have st : Stp _ _ _ (upd F_13 p_first (.lst us_first)) [stoO a_st c_st s_16] H_12 := st.freezeAt 0 rfl hn
          have sj : Stp _ _ _ (upd F_13 p_first (.lst us_first)) [stoO a_st c_st s_16] H_12 := sj.freezeAt 0 rfl hn_2
          have sb : Stp _ _ _ (upd F_13 p_first (.lst us_first)) [stoO a_st c_st s_16] H_12 := sb.freezeAt 0 rfl hn_3
          have r_st := r_st.mono gz
          have r_mode := r_mode.mono gz
          have r_second_3 := r_second_3.mono gz
          have r_5 := r_5.mono gz
          have r_one := r_one.mono gz
          have r_two := r_two.mono gz
          show ZS _ _ [some (.ref a_st), some v_mode, some (.ref p_first), some v_second_3, some v_4, some v_one, some v_two, none, none] H_12 _
          have hfb : caseL_L1 cs (first_2, second_2, s_14) k = caseL_7 first_3 second_2 two s_16 := by subst hx_first_3; exact hfb
          refine zs_setN (n := 3) st.ok (zn_catt (ze_var 3 rfl r_second_3) (ze_var 6 rfl r_two) (by /-12-/ rw [← szL]; omega)) sc.nd rfl (by first | exact Or.inl rfl | exact Or.inr rfl) fun p_second us_second F_15 H_13 hp_3 s_19 r_second_4 => ?_
          obtain ⟨second_3, hx_second_3⟩ : ∃ z : (List Int), z = (second_2 ++ two) := ⟨_, rfl⟩
          have hn_4 := st.newAt hp_3
          have hn_5 := sj.newAt hp_3
          have hn_6 := sb.newAt hp_3
          have s_19 : Stp (upd F_13 p_first (.lst us_first)) [stoO a_st c_st s_16] H_12 F_15 [(p_second, .lst us_second), stoO a_st c_st s_16] H_13 := by exact s_19
          have r_second_4 : RA K F_15 us_second (second_3.map eI) := by subst hx_second_3; exact r_second_4
          have st := st.trans s_19
          have sj := sj.trans s_19
          have sb := sb.trans s_19
          have r_st := r_st.mono s_19.gr
          have r_mode := r_mode.mono s_19.gr
          have r_5 := r_5.mono s_19.gr
          have r_one := r_one.mono s_19.gr
          have r_two := r_two.mono s_19.gr
          have r_first_5 := r_first_5.mono s_19.gr
          have gz_2 : Gr F_15 (upd F_15 p_second (.lst us_second)) := Gr.upd (st.ok.at_ (k := 0) rfl).2
          have r_second_5 : R K (upd F_15 p_second (.lst us_second)) (.ref p_second) (eL eI second_3) := (r_second_4.mono gz_2).lst upd_same
          have st : Stp _ _ _ (upd F_15 p_second (.lst us_second)) [stoO a_st c_st s_16] H_13 := st.freezeAt 0 rfl hn_4
          have sj : Stp _ _ _ (upd F_15 p_second (.lst us_second)) [stoO a_st c_st s_16] H_13 := sj.freezeAt 0 rfl hn_5
          have sb : Stp _ _ _ (upd F_15 p_second (.lst us_second)) [stoO a_st c_st s_16] H_13 := sb.freezeAt 0 rfl hn_6
          have r_st := r_st.mono gz_2
          have r_mode := r_mode.mono gz_2
          have r_5 := r_5.mono gz_2
          have r_one := r_one.mono gz_2
          have r_two := r_two.mono gz_2
          have r_first_5 := r_first_5.mono gz_2
          show ZS _ _ [some (.ref a_st), some v_mode, some (.ref p_first), some (.ref p_second), some v_4, some v_one, some v_two, none, none] H_13 _
          have hfb : caseL_L1 cs (first_2, second_2, s_14) k = caseL_8 first_3 second_3 s_16 := by subst hx_second_3; exact hfb
          refine zs_nil ?_
          show ZS _ _ [some (.ref a_st), some v_mode, some (.ref p_first), some (.ref p_second), some v_4, some v_one, some v_two, none, none] H_13 _
          refine zs_nil ?_
          exact ⟨_, _, sb, by (try rw [hfb]); exact ⟨(.ref p_first), (.ref p_second), some v_4, some v_one, some v_two, rfl, rfl, r_first_5, r_second_5, (show first_3.length ≤ 7 ∧ second_3.length ≤ 7 from by first | exact hq | (rw [hx_first_3, hx_second_3, List.length_append, List.length_append]; exact ⟨by omega, by omega⟩))⟩⟩
        · have s_17 : Stp F_11 [stoO a_st c_st s_16] H_10 F_12 [stoO a_st c_st s_16] H_11 := by exact s_17
          have st := st.trans s_17
          have sj := sj.trans s_17
          have sb := sb.trans s_17
          have r_st := r_st.mono s_17.gr
          have r_mode := r_mode.mono s_17.gr
          have r_first_3 := r_first_3.mono s_17.gr
          have r_second_3 := r_second_3.mono s_17.gr
          have r_5 := r_5.mono s_17.gr
          have r_one := r_one.mono s_17.gr
          have r_two := r_two.mono s_17.gr
          have hfb := hfb.trans (cond_f hb_3)
          refine zs_nil ?_
          show ZS _ _ [some (.ref a_st), some v_mode, some v_first_3, some v_second_3, some v_4, some v_one, some v_two, none, none] H_11 _
          refine zs_nil ?_
          exact ⟨_, _, sb, by (try rw [hfb]); exact ⟨v_first_3, v_second_3, some v_4, some v_one, some v_two, rfl, rfl, r_first_3, r_second_3, (show first_2.length ≤ 7 ∧ second_2.length ≤ 7 from by first | exact hq | (rw [hx_first_2, hx_second_2, List.length_append, List.length_append]; exact ⟨by omega, by omega⟩))⟩⟩
      · skip
        obtain ⟨b_2, hb_4⟩ : ∃ z : ((List Int) × (List Int) × Sto), z = List.foldl (caseL_L1 cs) (first, second, s_5) (rangeI 0 (3 : Int)) := ⟨_, rfl⟩
        try rw [← hb_4] at rel_2
        obtain ⟨first_4, second_4, s_20⟩ := b_2
        obtain ⟨v_first_5, v_second_5, z_k_3, z_one_3, z_two_3, rfl, rfl, r_first_6, r_second_6, hinv_3⟩ := rel_2
        have r_first_6 : R K _ v_first_5 ((eL eI) first_4) := r_first_6
        have r_second_6 : R K _ v_second_5 ((eL eI) second_4) := r_second_6
        have st := st.trans s_21
        have sj := sj.trans s_21
        have r_st := r_st.mono s_21.gr
        have r_mode := r_mode.mono s_21.gr
        have hinv_3 : first_4.length ≤ 7 ∧ second_4.length ≤ 7 := hinv_3
        have hf : caseL cs s = (caseL_9 cs) (first_4, second_4, s_20) := by rw [hb_4]; exact hf
        have hlq := hinv_3
        show ZS _ _ [some (.ref a_st), some v_mode, some v_first_5, some v_second_5, z_k_3, z_one_3, z_two_3, none, none] H_14 _
        refine zs_nil ?_
        exact ⟨first_4, second_4, s_20, _, _, hf, sj, v_first_5, v_second_5, z_k_3, z_one_3, z_two_3, none, none, rfl, rfl, r_first_6, r_second_6, ⟨by omega, by omega⟩⟩
    · have s_6 : Stp F_3 [stoO a_st c_st s_5] H_3 F_4 [stoO a_st c_st s_5] H_4 := by exact s_6
      have sj := s_6
      have st := st.trans s_6
      have r_st := r_st.mono s_6.gr
      have r_mode := r_mode.mono s_6.gr
      have r_first := r_first.mono s_6.gr
      have r_second := r_second.mono s_6.gr
      have hf := hf.trans (cond_f hb)
      refine zs_if st.ok (zt_cm cm_eqI (ze_var 1 rfl r_mode) ze_int) (fun hb_5 F_19 H_16 s_23 => ?_) (fun hb_5 F_19 H_16 s_23 => ?_)
      · have s_23 : Stp F_4 [stoO a_st c_st s_5] H_4 F_19 [stoO a_st c_st s_5] H_16 := by exact s_23
        have st := st.trans s_23
        have sj := sj.trans s_23
        have r_st := r_st.mono s_23.gr
        have r_mode := r_mode.mono s_23.gr
        have r_first := r_first.mono s_23.gr
        have r_second := r_second.mono s_23.gr
        have hf := hf.trans (cond_t hb_5)
        refine zs_setN (n := 3) st.ok (zn_list T.b_list (ze_var 2 rfl r_first)) sc.nd rfl (by first | exact Or.inl rfl | exact Or.inr rfl) fun p_second_2 us_second_2 F_20 H_17 hp_4 s_24 r_second_7 => ?_
        obtain ⟨second_5, hx_second_5⟩ : ∃ z : (List Int), z = first := ⟨_, rfl⟩
        have hn_7 := st.newAt hp_4
        have hn_8 := sj.newAt hp_4
        have s_24 : Stp F_19 [stoO a_st c_st s_5] H_16 F_20 [(p_second_2, .lst us_second_2), stoO a_st c_st s_5] H_17 := by exact s_24
        have r_second_7 : RA K F_20 us_second_2 (second_5.map eI) := by subst hx_second_5; exact r_second_7
        have st := st.trans s_24
        have sj := sj.trans s_24
        have r_st := r_st.mono s_24.gr
        have r_mode := r_mode.mono s_24.gr
        have r_first := r_first.mono s_24.gr
        have gz_3 : Gr F_20 (upd F_20 p_second_2 (.lst us_second_2)) := Gr.upd (st.ok.at_ (k := 0) rfl).2
        have r_second_8 : R K (upd F_20 p_second_2 (.lst us_second_2)) (.ref p_second_2) (eL eI second_5) := (r_second_7.mono gz_3).lst upd_same
        have st : Stp _ _ _ (upd F_20 p_second_2 (.lst us_second_2)) [stoO a_st c_st s_5] H_17 := st.freezeAt 0 rfl hn_7
        have sj : Stp _ _ _ (upd F_20 p_second_2 (.lst us_second_2)) [stoO a_st c_st s_5] H_17 := sj.freezeAt 0 rfl hn_8
        have r_st := r_st.mono gz_3
        have r_mode := r_mode.mono gz_3
        have r_first := r_first.mono gz_3
        show ZS _ _ [some (.ref a_st), some v_mode, some v_first, some (.ref p_second_2), none, none, none, none, none] H_17 _
        have hf : caseL cs s = caseL_10 cs first second_5 s_5 := by subst hx_second_5; exact hf
        refine zs_nil ?_
        show ZS _ _ [some (.ref a_st), some v_mode, some v_first, some (.ref p_second_2), none, none, none, none, none] H_17 _
        refine zs_nil ?_
        exact ⟨first, second_5, s_5, _, _, hf, sj, v_first, (.ref p_second_2), none, none, none, none, none, rfl, rfl, r_first, r_second_8, by first | exact ⟨by omega, by omega⟩ | (rw [hx_second_5]; exact ⟨by omega, by omega⟩) | (rw [hx_second_5, List.length_append]; exact ⟨by omega, by show _ + 1 ≤ 64; omega⟩) | (rw [hx_second_5]; exact ⟨by omega, by show 1 ≤ 64; decide⟩)⟩
      · have s_23 : Stp F_4 [stoO a_st c_st s_5] H_4 F_19 [stoO a_st c_st s_5] H_16 := by exact s_23
        have st := st.trans s_23
        have sj := sj.trans s_23
        have r_st := r_st.mono s_23.gr
        have r_mode := r_mode.mono s_23.gr
        have r_first := r_first.mono s_23.gr
        have r_second := r_second.mono s_23.gr
        have hf := hf.trans (cond_f hb_5)
        refine zs_ifJ st.ok (zt_cm cm_eqI (ze_var 1 rfl r_mode) ze_int) (fun σ H' => ∃ (j_first_2 : (List Int)) (j_second_2 : (List Int)) (j_s_2 : Sto) (F : Hp) (O : Own), caseL cs s = caseL_11 cs j_first_2 j_second_2 j_s_2 ∧ Stp F_19 [stoO a_st c_st s_5] H_16 F O H' ∧ ∃ (w1 : V) (w2 : V) (z3 : Option V) (z4 : Option V) (z5 : Option V) (z6 : Option V), σ = [some (.ref a_st), some v_mode, some w1, some w2, none, z3, z4, z5, z6] ∧ O = [stoO a_st c_st j_s_2] ∧ R K F w1 ((eL eI) j_first_2) ∧ R K F w2 ((eL eI) j_second_2) ∧ (j_first_2.length ≤ 64 ∧ j_second_2.length ≤ 64)) (fun hb_6 F_22 H_18 s_25 => ?_) (fun hb_6 F_22 H_18 s_25 => ?_) (fun σ_4 H_19 hJ_2 => ?_)
        · have s_25 : Stp F_19 [stoO a_st c_st s_5] H_16 F_22 [stoO a_st c_st s_5] H_18 := by exact s_25
          have sj_2 := s_25
          have st := st.trans s_25
          have sj := sj.trans s_25
          have r_st := r_st.mono s_25.gr
          have r_mode := r_mode.mono s_25.gr
          have r_first := r_first.mono s_25.gr
          have r_second := r_second.mono s_25.gr
          have hf := hf.trans (cond_t hb_6)
          refine zs_asg st.ok (ze_callS 0 0 (ok_pick T) (hr.mono (by decide)) rfl r_st (za_cons (zn_ze (zn_lstt (enc := (eT2 eI eI)) (xs := ([((2 : Int), (3 : Int)), ((3 : Int), (4 : Int)), ((2 : Int), (5 : Int)), ((6 : Int), (4 : Int)), ((1 : Int), (7 : Int)), ((7 : Int), (6 : Int)), ((5 : Int), (6 : Int)), ((3 : Int), (6 : Int))] : List (Int × Int))) (za_cd 8 (by kernel_rfl)))) za_nil) rfl (A_pick_of (eT2 eI eI) (by /-13-/ first | (first | (simp only [List.length_append, List.length_cons, List.length_nil, List.length_map, rangeI_length]; omega) | omega) | (first | omega | (rw [← szL]; omega) | (simp only [List.length_append, List.length_cons, List.length_nil, List.length_map, rangeI_length, ← szL]; omega))))) fun v_6 F_24 H_20 s_27 r_7 => ?_
          obtain ⟨one_2, hx_one_2⟩ : ∃ z : Int, z = (pickT cs s_5 ([((2 : Int), (3 : Int)), ((3 : Int), (4 : Int)), ((2 : Int), (5 : Int)), ((6 : Int), (4 : Int)), ((1 : Int), (7 : Int)), ((7 : Int), (6 : Int)), ((5 : Int), (6 : Int)), ((3 : Int), (6 : Int))] : List (Int × Int))).1.1 := ⟨_, rfl⟩
          obtain ⟨two_2, hx_two_2⟩ : ∃ z : Int, z = (pickT cs s_5 ([((2 : Int), (3 : Int)), ((3 : Int), (4 : Int)), ((2 : Int), (5 : Int)), ((6 : Int), (4 : Int)), ((1 : Int), (7 : Int)), ((7 : Int), (6 : Int)), ((5 : Int), (6 : Int)), ((3 : Int), (6 : Int))] : List (Int × Int))).1.2 := ⟨_, rfl⟩
          obtain ⟨s_28, hx_s_28⟩ : ∃ z : Sto, z = (pickT cs s_5 ([((2 : Int), (3 : Int)), ((3 : Int), (4 : Int)), ((2 : Int), (5 : Int)), ((6 : Int), (4 : Int)), ((1 : Int), (7 : Int)), ((7 : Int), (6 : Int)), ((5 : Int), (6 : Int)), ((3 : Int), (6 : Int))] : List (Int × Int))).2 := ⟨_, rfl⟩
          have s_27 : Stp F_22 [stoO a_st c_st s_5] H_18 F_24 [stoO a_st c_st s_28] H_20 := by subst hx_s_28; exact s_27
          have st := st.trans s_27
          have sj := sj.trans s_27
          have sj_2 := sj_2.trans s_27
          have r_st := r_st.mono s_27.gr
          have r_mode := r_mode.mono s_27.gr
          have r_first := r_first.mono s_27.gr
          have r_second := r_second.mono s_27.gr
          refine zg_tup2 (n := 5) (m := 6) (F := F_24) rfl sc.nd rfl (by first | exact Or.inl rfl | exact Or.inr rfl) rfl (by first | exact Or.inl rfl | exact Or.inr rfl) (show R K F_24 v_6 (.tuple [eI one_2, eI two_2]) from by subst hx_one_2; subst hx_two_2; exact r_7) st.ok fun v_one_2 v_two_2 r_one_2 r_two_2 => ?_
          show ZS _ _ [some (.ref a_st), some v_mode, some v_first, some v_second, none, some v_one_2, some v_two_2, none, none] H_20 _
          have hf : caseL cs s = caseL_12 cs one_2 two_2 s_28 := by subst hx_one_2; subst hx_two_2; subst hx_s_28; exact hf
          have hp8 : 1 ≤ one_2 ∧ one_2 ≤ 7 ∧ 1 ≤ two_2 ∧ two_2 ≤ 7 := by rw [hx_one_2, hx_two_2]; exact pick8_in
          refine zs_set (n := 7) st.ok (ze_callS 0 0 (ok_pick T) (hr.mono (by decide)) rfl r_st (za_cons (zn_ze (zn_lstt (enc := eI) (xs := ([(1 : Int), (1 : Int), (10 : Int), (50000 : Int)] : List Int)) (za_cd 8 (by kernel_rfl)))) za_nil) rfl (A_pick_of eI (by /-14-/ first | (first | (simp only [List.length_append, List.length_cons, List.length_nil, List.length_map, rangeI_length]; omega) | omega) | (first | omega | (rw [← szL]; omega) | (simp only [List.length_append, List.length_cons, List.length_nil, List.length_map, rangeI_length, ← szL]; omega))))) sc.nd rfl (by first | exact Or.inl rfl | exact Or.inr rfl) fun v_worth F_25 H_21 s_29 r_worth => ?_
          obtain ⟨worth, hx_worth⟩ : ∃ z : Int, z = (pickT cs s_28 ([(1 : Int), (1 : Int), (10 : Int), (50000 : Int)] : List Int)).1 := ⟨_, rfl⟩
          obtain ⟨s_30, hx_s_30⟩ : ∃ z : Sto, z = (pickT cs s_28 ([(1 : Int), (1 : Int), (10 : Int), (50000 : Int)] : List Int)).2 := ⟨_, rfl⟩
          have s_29 : Stp F_24 [stoO a_st c_st s_28] H_20 F_25 [stoO a_st c_st s_30] H_21 := by subst hx_s_30; exact s_29
          have r_worth : R K F_25 v_worth (eI worth) := by subst hx_worth; exact r_worth
          have st := st.trans s_29
          have sj := sj.trans s_29
          have sj_2 := sj_2.trans s_29
          have r_st := r_st.mono s_29.gr
          have r_mode := r_mode.mono s_29.gr
          have r_first := r_first.mono s_29.gr
          have r_second := r_second.mono s_29.gr
          have r_one_2 := r_one_2.mono s_29.gr
          have r_two_2 := r_two_2.mono s_29.gr
          show ZS _ _ [some (.ref a_st), some v_mode, some v_first, some v_second, none, some v_one_2, some v_two_2, some v_worth, none] H_21 _
          have hf : caseL cs s = caseL_13 cs one_2 two_2 worth s_30 := by subst hx_worth; subst hx_s_30; exact hf
          have hw : 1 ≤ worth ∧ worth ≤ 50000 := by rw [hx_worth]; exact worth_ok
          refine zs_setN (n := 2) st.ok (zn_rept (zn_ze (zn_lstt (enc := eI) (xs := ([(one_2 * worth)] : List Int)) (za_cons (ze_mulL (ze_var 5 rfl r_one_2) (ze_var 7 rfl r_worth) (by /-15-/ first | (first | omega | (simp only [List.length_append, List.length_cons, List.length_nil, List.length_map, rangeI_length]; omega)) | (first | omega | (rw [← szL]; omega) | (simp only [List.length_append, List.length_cons, List.length_nil, List.length_map, rangeI_length, ← szL]; omega)))) za_nil))) (ze_var 6 rfl r_two_2) (by /-16-/ first | (first | omega | (simp only [List.length_append, List.length_cons, List.length_nil, List.length_map, rangeI_length]; omega)) | (first | omega | (rw [← szL]; omega) | (simp only [List.length_append, List.length_cons, List.length_nil, List.length_map, rangeI_length, ← szL]; omega))) (by /-17-/ first | (first | omega | (simp only [List.length_append, List.length_cons, List.length_nil, List.length_map, rangeI_length]; omega)) | (first | omega | (rw [← szL]; omega) | (simp only [List.length_append, List.length_cons, List.length_nil, List.length_map, rangeI_length, ← szL]; omega))) (by /-18-/ first | ((rw [← szL]; first | omega | (simp only [List.length_append, List.length_cons, List.length_nil, List.length_map, rangeI_length]; omega))) | (first | omega | (rw [← szL]; omega) | (simp only [List.length_append, List.length_cons, List.length_nil, List.length_map, rangeI_length, ← szL]; omega)))) sc.nd rfl (by first | exact Or.inl rfl | exact Or.inr rfl) fun p_first_2 us_first_2 F_26 H_22 hp_5 s_31 r_first_8 => ?_
          obtain ⟨first_5, hx_first_5⟩ : ∃ z : (List Int), z = (repL ([(one_2 * worth)] : List Int) two_2) := ⟨_, rfl⟩
          have hn_9 := st.newAt hp_5
          have hn_10 := sj.newAt hp_5
          have hn_11 := sj_2.newAt hp_5
          have s_31 : Stp F_25 [stoO a_st c_st s_30] H_21 F_26 [(p_first_2, .lst us_first_2), stoO a_st c_st s_30] H_22 := by exact s_31
          have r_first_8 : RA K F_26 us_first_2 (first_5.map eI) := by subst hx_first_5; exact r_first_8
          have st := st.trans s_31
          have sj := sj.trans s_31
          have sj_2 := sj_2.trans s_31
          have r_st := r_st.mono s_31.gr
          have r_mode := r_mode.mono s_31.gr
          have r_second := r_second.mono s_31.gr
          have r_one_2 := r_one_2.mono s_31.gr
          have r_two_2 := r_two_2.mono s_31.gr
          have r_worth := r_worth.mono s_31.gr
          have gz_4 : Gr F_26 (upd F_26 p_first_2 (.lst us_first_2)) := Gr.upd (st.ok.at_ (k := 0) rfl).2
          have r_first_9 : R K (upd F_26 p_first_2 (.lst us_first_2)) (.ref p_first_2) (eL eI first_5) := (r_first_8.mono gz_4).lst upd_same
          have st : Stp _ _ _ (upd F_26 p_first_2 (.lst us_first_2)) [stoO a_st c_st s_30] H_22 := st.freezeAt 0 rfl hn_9
          have sj : Stp _ _ _ (upd F_26 p_first_2 (.lst us_first_2)) [stoO a_st c_st s_30] H_22 := sj.freezeAt 0 rfl hn_10
          have sj_2 : Stp _ _ _ (upd F_26 p_first_2 (.lst us_first_2)) [stoO a_st c_st s_30] H_22 := sj_2.freezeAt 0 rfl hn_11
          have r_st := r_st.mono gz_4
          have r_mode := r_mode.mono gz_4
          have r_second := r_second.mono gz_4
          have r_one_2 := r_one_2.mono gz_4
          have r_two_2 := r_two_2.mono gz_4
          have r_worth := r_worth.mono gz_4
          show ZS _ _ [some (.ref a_st), some v_mode, some (.ref p_first_2), some v_second, none, some v_one_2, some v_two_2, some v_worth, none] H_22 _
          have hf : caseL cs s = caseL_14 cs first_5 one_2 two_2 worth s_30 := by subst hx_first_5; exact hf
          have hl5 : first_5.length ≤ 7 := by rw [hx_first_5, repL_one.2.1]; omega
          refine zs_setN (n := 3) st.ok (zn_rept (zn_ze (zn_lstt (enc := eI) (xs := ([(two_2 * worth)] : List Int)) (za_cons (ze_mulL (ze_var 6 rfl r_two_2) (ze_var 7 rfl r_worth) (by /-19-/ first | (first | omega | (simp only [List.length_append, List.length_cons, List.length_nil, List.length_map, rangeI_length]; omega)) | (first | omega | (rw [← szL]; omega) | (simp only [List.length_append, List.length_cons, List.length_nil, List.length_map, rangeI_length, ← szL]; omega)))) za_nil))) (ze_var 5 rfl r_one_2) (by /-20-/ first | (first | omega | (simp only [List.length_append, List.length_cons, List.length_nil, List.length_map, rangeI_length]; omega)) | (first | omega | (rw [← szL]; omega) | (simp only [List.length_append, List.length_cons, List.length_nil, List.length_map, rangeI_length, ← szL]; omega))) (by /-21-/ first | (first | omega | (simp only [List.length_append, List.length_cons, List.length_nil, List.length_map, rangeI_length]; omega)) | (first | omega | (rw [← szL]; omega) | (simp only [List.length_append, List.length_cons, List.length_nil, List.length_map, rangeI_length, ← szL]; omega))) (by /-22-/ first | ((rw [← szL]; first | omega | (simp only [List.length_append, List.length_cons, List.length_nil, List.length_map, rangeI_length]; omega))) | (first | omega | (rw [← szL]; omega) | (simp only [List.length_append, List.length_cons, List.length_nil, List.length_map, rangeI_length, ← szL]; omega)))) sc.nd rfl (by first | exact Or.inl rfl | exact Or.inr rfl) fun p_second_3 us_second_3 F_28 H_23 hp_6 s_32 r_second_10 => ?_
          obtain ⟨second_6, hx_second_6⟩ : ∃ z : (List Int), z = (repL ([(two_2 * worth)] : List Int) one_2) := ⟨_, rfl⟩
          have hn_12 := st.newAt hp_6
          have hn_13 := sj.newAt hp_6
          have hn_14 := sj_2.newAt hp_6
          have s_32 : Stp (upd F_26 p_first_2 (.lst us_first_2)) [stoO a_st c_st s_30] H_22 F_28 [(p_second_3, .lst us_second_3), stoO a_st c_st s_30] H_23 := by exact s_32
          have r_second_10 : RA K F_28 us_second_3 (second_6.map eI) := by subst hx_second_6; exact r_second_10
          have st := st.trans s_32
          have sj := sj.trans s_32
          have sj_2 := sj_2.trans s_32
          have r_st := r_st.mono s_32.gr
          have r_mode := r_mode.mono s_32.gr
          have r_one_2 := r_one_2.mono s_32.gr
          have r_two_2 := r_two_2.mono s_32.gr
          have r_worth := r_worth.mono s_32.gr
          have r_first_9 := r_first_9.mono s_32.gr
          have gz_5 : Gr F_28 (upd F_28 p_second_3 (.lst us_second_3)) := Gr.upd (st.ok.at_ (k := 0) rfl).2
          have r_second_11 : R K (upd F_28 p_second_3 (.lst us_second_3)) (.ref p_second_3) (eL eI second_6) := (r_second_10.mono gz_5).lst upd_same
          have st : Stp _ _ _ (upd F_28 p_second_3 (.lst us_second_3)) [stoO a_st c_st s_30] H_23 := st.freezeAt 0 rfl hn_12
          have sj : Stp _ _ _ (upd F_28 p_second_3 (.lst us_second_3)) [stoO a_st c_st s_30] H_23 := sj.freezeAt 0 rfl hn_13
          have sj_2 : Stp _ _ _ (upd F_28 p_second_3 (.lst us_second_3)) [stoO a_st c_st s_30] H_23 := sj_2.freezeAt 0 rfl hn_14
          have r_st := r_st.mono gz_5
          have r_mode := r_mode.mono gz_5
          have r_one_2 := r_one_2.mono gz_5
          have r_two_2 := r_two_2.mono gz_5
          have r_worth := r_worth.mono gz_5
          have r_first_9 := r_first_9.mono gz_5
          show ZS _ _ [some (.ref a_st), some v_mode, some (.ref p_first_2), some (.ref p_second_3), none, some v_one_2, some v_two_2, some v_worth, none] H_23 _
          have hf : caseL cs s = caseL_15 cs first_5 second_6 one_2 two_2 worth s_30 := by subst hx_second_6; exact hf
          have hl6 : second_6.length ≤ 7 := by rw [hx_second_6, repL_one.2.1]; omega
          refine zs_if st.ok (zt_cm cm_lt (ze_max2 rfl T.b_max (ze_var 5 rfl r_one_2) (ze_var 6 rfl r_two_2)) ze_int) (fun hb_7 F_30 H_24 s_33 => ?_) (fun hb_7 F_30 H_24 s_33 => ?_)
          · have s_33 : Stp (upd F_28 p_second_3 (.lst us_second_3)) [stoO a_st c_st s_30] H_23 F_30 [stoO a_st c_st s_30] H_24 := by exact s_33
            have st := st.trans s_33
            have sj := sj.trans s_33
            have sj_2 := sj_2.trans s_33
            have r_st := r_st.mono s_33.gr
            have r_mode := r_mode.mono s_33.gr
            have r_one_2 := r_one_2.mono s_33.gr
            have r_two_2 := r_two_2.mono s_33.gr
            have r_worth := r_worth.mono s_33.gr
            have r_first_9 := r_first_9.mono s_33.gr
            have r_second_11 := r_second_11.mono s_33.gr
            have hf := hf.trans (cond_t hb_7)
            refine zs_set (n := 8) st.ok (ze_callS 0 0 (ok_pick T) (hr.mono (by decide)) rfl r_st (za_cons (zn_ze (zn_lstt (enc := eI) (xs := ([worth, (one_2 * worth), (two_2 * worth)] : List Int)) (za_cons (ze_var 7 rfl r_worth) (za_cons (ze_mulL (ze_var 5 rfl r_one_2) (ze_var 7 rfl r_worth) (by /-23-/ first | (first | omega | (simp only [List.length_append, List.length_cons, List.length_nil, List.length_map, rangeI_length]; omega)) | (first | omega | (rw [← szL]; omega) | (simp only [List.length_append, List.length_cons, List.length_nil, List.length_map, rangeI_length, ← szL]; omega)))) (za_cons (ze_mulL (ze_var 6 rfl r_two_2) (ze_var 7 rfl r_worth) (by /-24-/ first | (first | omega | (simp only [List.length_append, List.length_cons, List.length_nil, List.length_map, rangeI_length]; omega)) | (first | omega | (rw [← szL]; omega) | (simp only [List.length_append, List.length_cons, List.length_nil, List.length_map, rangeI_length, ← szL]; omega)))) za_nil))))) za_nil) rfl (A_pick_of eI (by /-25-/ first | (first | (simp only [List.length_append, List.length_cons, List.length_nil, List.length_map, rangeI_length]; omega) | omega) | (first | omega | (rw [← szL]; omega) | (simp only [List.length_append, List.length_cons, List.length_nil, List.length_map, rangeI_length, ← szL]; omega))))) sc.nd rfl (by first | exact Or.inl rfl | exact Or.inr rfl) fun v_more F_31 H_25 s_34 r_more => ?_
            obtain ⟨more, hx_more⟩ : ∃ z : Int, z = (pickT cs s_30 ([worth, (one_2 * worth), (two_2 * worth)] : List Int)).1 := ⟨_, rfl⟩
            obtain ⟨s_35, hx_s_35⟩ : ∃ z : Sto, z = (pickT cs s_30 ([worth, (one_2 * worth), (two_2 * worth)] : List Int)).2 := ⟨_, rfl⟩
            have s_34 : Stp F_30 [stoO a_st c_st s_30] H_24 F_31 [stoO a_st c_st s_35] H_25 := by subst hx_s_35; exact s_34
            have r_more : R K F_31 v_more (eI more) := by subst hx_more; exact r_more
            have st := st.trans s_34
            have sj := sj.trans s_34
            have sj_2 := sj_2.trans s_34
            have r_st := r_st.mono s_34.gr
            have r_mode := r_mode.mono s_34.gr
            have r_one_2 := r_one_2.mono s_34.gr
            have r_two_2 := r_two_2.mono s_34.gr
            have r_worth := r_worth.mono s_34.gr
            have r_first_9 := r_first_9.mono s_34.gr
            have r_second_11 := r_second_11.mono s_34.gr
            show ZS _ _ [some (.ref a_st), some v_mode, some (.ref p_first_2), some (.ref p_second_3), none, some v_one_2, some v_two_2, some v_worth, some v_more] H_25 _
            have hf : caseL cs s = caseL_16 cs first_5 second_6 more s_35 := by subst hx_more; subst hx_s_35; exact hf
            refine zs_setN (n := 2) st.ok (zn_catt (ze_var 2 rfl r_first_9) (zn_ze (zn_lstt (enc := eI) (xs := ([more] : List Int)) (za_cons (ze_var 8 rfl r_more) za_nil))) (by /-26-/ first | ((rw [← szL]; first | omega | (simp only [List.length_append, List.length_cons, List.length_nil, List.length_map, rangeI_length]; omega))) | (first | omega | (rw [← szL]; omega) | (simp only [List.length_append, List.length_cons, List.length_nil, List.length_map, rangeI_length, ← szL]; omega)))) sc.nd rfl (by first | exact Or.inl rfl | exact Or.inr rfl) fun p_first_3 us_first_3 F_32 H_26 hp_7 s_36 r_first_10 => ?_
            obtain ⟨first_6, hx_first_6⟩ : ∃ z : (List Int), z = (first_5 ++ ([more] : List Int)) := ⟨_, rfl⟩
            have hn_15 := st.newAt hp_7
            have hn_16 := sj.newAt hp_7
            have hn_17 := sj_2.newAt hp_7
            have s_36 : Stp F_31 [stoO a_st c_st s_35] H_25 F_32 [(p_first_3, .lst us_first_3), stoO a_st c_st s_35] H_26 := by exact s_36
            have r_first_10 : RA K F_32 us_first_3 (first_6.map eI) := by subst hx_first_6; exact r_first_10
            have st := st.trans s_36
            have sj := sj.trans s_36
            have sj_2 := sj_2.trans s_36
            have r_st := r_st.mono s_36.gr
            have r_mode := r_mode.mono s_36.gr
            have r_one_2 := r_one_2.mono s_36.gr
            have r_two_2 := r_two_2.mono s_36.gr
            have r_worth := r_worth.mono s_36.gr
            have r_second_11 := r_second_11.mono s_36.gr
            have r_more := r_more.mono s_36.gr
            have gz_6 : Gr F_32 (upd F_32 p_first_3 (.lst us_first_3)) := Gr.upd (st.ok.at_ (k := 0) rfl).2
            have r_first_11 : R K (upd F_32 p_first_3 (.lst us_first_3)) (.ref p_first_3) (eL eI first_6) := (r_first_10.mono gz_6).lst upd_same
            have st : Stp _ _ _ (upd F_32 p_first_3 (.lst us_first_3)) [stoO a_st c_st s_35] H_26 := st.freezeAt 0 rfl hn_15
            have sj : Stp _ _ _ (upd F_32 p_first_3 (.lst us_first_3)) [stoO a_st c_st s_35] H_26 := sj.freezeAt 0 rfl hn_16
            have sj_2 : Stp _ _ _ (upd F_32 p_first_3 (.lst us_first_3)) [stoO a_st c_st s_35] H_26 := sj_2.freezeAt 0 rfl hn_17
            have r_st := r_st.mono gz_6
            have r_mode := r_mode.mono gz_6
            have r_one_2 := r_one_2.mono gz_6
            have r_two_2 := r_two_2.mono gz_6
            have r_worth := r_worth.mono gz_6
            have r_second_11 := r_second_11.mono gz_6
            have r_more := r_more.mono gz_6
            show ZS _ _ [some (.ref a_st), some v_mode, some (.ref p_first_3), some (.ref p_second_3), none, some v_one_2, some v_two_2, some v_worth, some v_more] H_26 _
            have hf : caseL cs s = caseL_17 cs first_6 second_6 more s_35 := by subst hx_first_6; exact hf
            have hl7 : first_6.length ≤ 8 := by rw [hx_first_6, List.length_append]; show _ + 1 ≤ 8; omega
            refine zs_setN (n := 3) st.ok (zn_catt (ze_var 3 rfl r_second_11) (zn_ze (zn_lstt (enc := eI) (xs := ([more] : List Int)) (za_cons (ze_var 8 rfl r_more) za_nil))) (by /-27-/ first | ((rw [← szL]; first | omega | (simp only [List.length_append, List.length_cons, List.length_nil, List.length_map, rangeI_length]; omega))) | (first | omega | (rw [← szL]; omega) | (simp only [List.length_append, List.length_cons, List.length_nil, List.length_map, rangeI_length, ← szL]; omega)))) sc.nd rfl (by first | exact Or.inl rfl | exact Or.inr rfl) fun p_second_4 us_second_4 F_34 H_27 hp_8 s_37 r_second_12 => ?_
            obtain ⟨second_7, hx_second_7⟩ : ∃ z : (List Int), z = (second_6 ++ ([more] : List Int)) := ⟨_, rfl⟩
            have hn_18 := st.newAt hp_8
            have hn_19 := sj.newAt hp_8
            have hn_20 := sj_2.newAt hp_8
            have s_37 : Stp (upd F_32 p_first_3 (.lst us_first_3)) [stoO a_st c_st s_35] H_26 F_34 [(p_second_4, .lst us_second_4), stoO a_st c_st s_35] H_27 := by exact s_37
            have r_second_12 : RA K F_34 us_second_4 (second_7.map eI) := by subst hx_second_7; exact r_second_12
            have st := st.trans s_37
            have sj := sj.trans s_37
            have sj_2 := sj_2.trans s_37
            have r_st := r_st.mono s_37.gr
            have r_mode := r_mode.mono s_37.gr
            have r_one_2 := r_one_2.mono s_37.gr
            have r_two_2 := r_two_2.mono s_37.gr
            have r_worth := r_worth.mono s_37.gr
            have r_more := r_more.mono s_37.gr
            have r_first_11 := r_first_11.mono s_37.gr
            have gz_7 : Gr F_34 (upd F_34 p_second_4 (.lst us_second_4)) := Gr.upd (st.ok.at_ (k := 0) rfl).2
            have r_second_13 : R K (upd F_34 p_second_4 (.lst us_second_4)) (.ref p_second_4) (eL eI second_7) := (r_second_12.mono gz_7).lst upd_same
            have st : Stp _ _ _ (upd F_34 p_second_4 (.lst us_second_4)) [stoO a_st c_st s_35] H_27 := st.freezeAt 0 rfl hn_18
            have sj : Stp _ _ _ (upd F_34 p_second_4 (.lst us_second_4)) [stoO a_st c_st s_35] H_27 := sj.freezeAt 0 rfl hn_19
            have sj_2 : Stp _ _ _ (upd F_34 p_second_4 (.lst us_second_4)) [stoO a_st c_st s_35] H_27 := sj_2.freezeAt 0 rfl hn_20
            have r_st := r_st.mono gz_7
            have r_mode := r_mode.mono gz_7
            have r_one_2 := r_one_2.mono gz_7
            have r_two_2 := r_two_2.mono gz_7
            have r_worth := r_worth.mono gz_7
            have r_more := r_more.mono gz_7
            have r_first_11 := r_first_11.mono gz_7
            show ZS _ _ [some (.ref a_st), some v_mode, some (.ref p_first_3), some (.ref p_second_4), none, some v_one_2, some v_two_2, some v_worth, some v_more] H_27 _
            have hf : caseL cs s = caseL_18 cs first_6 second_7 s_35 := by subst hx_second_7; exact hf
            refine zs_nil ?_
            show ZS _ _ [some (.ref a_st), some v_mode, some (.ref p_first_3), some (.ref p_second_4), none, some v_one_2, some v_two_2, some v_worth, some v_more] H_27 _
            refine zs_nil ?_
            exact ⟨first_6, second_7, s_35, _, _, hf, sj_2, (.ref p_first_3), (.ref p_second_4), some v_one_2, some v_two_2, some v_worth, some v_more, rfl, rfl, r_first_11, r_second_13, by first | exact ⟨by omega, by omega⟩ | (rw [hx_second_7, List.length_append]; exact ⟨by omega, by show _ + 1 ≤ 64; omega⟩) | (rw [hx_second_7]; exact ⟨by omega, by show 1 ≤ 64; decide⟩)⟩
          · have s_33 : Stp (upd F_28 p_second_3 (.lst us_second_3)) [stoO a_st c_st s_30] H_23 F_30 [stoO a_st c_st s_30] H_24 := by exact s_33
            have st := st.trans s_33
            have sj := sj.trans s_33
            have sj_2 := sj_2.trans s_33
            have r_st := r_st.mono s_33.gr
            have r_mode := r_mode.mono s_33.gr
            have r_one_2 := r_one_2.mono s_33.gr
            have r_two_2 := r_two_2.mono s_33.gr
            have r_worth := r_worth.mono s_33.gr
            have r_first_9 := r_first_9.mono s_33.gr
            have r_second_11 := r_second_11.mono s_33.gr
            have hf := hf.trans (cond_f hb_7)
            refine zs_nil ?_
            show ZS _ _ [some (.ref a_st), some v_mode, some (.ref p_first_2), some (.ref p_second_3), none, some v_one_2, some v_two_2, some v_worth, none] H_24 _
            refine zs_nil ?_
            exact ⟨first_5, second_6, s_30, _, _, hf, sj_2, (.ref p_first_2), (.ref p_second_3), some v_one_2, some v_two_2, some v_worth, none, rfl, rfl, r_first_9, r_second_11, by first | exact ⟨by omega, by omega⟩ | (rw [hx_second_6, List.length_append]; exact ⟨by omega, by show _ + 1 ≤ 64; omega⟩) | (rw [hx_second_6]; exact ⟨by omega, by show 1 ≤ 64; decide⟩)⟩
        · have s_25 : Stp F_19 [stoO a_st c_st s_5] H_16 F_22 [stoO a_st c_st s_5] H_18 := by exact s_25
          have sj_2 := s_25
          have st := st.trans s_25
          have sj := sj.trans s_25
          have r_st := r_st.mono s_25.gr
          have r_mode := r_mode.mono s_25.gr
          have r_first := r_first.mono s_25.gr
          have r_second := r_second.mono s_25.gr
          have hf := hf.trans (cond_f hb_6)
          refine zs_if st.ok (zt_cm cm_eqI (ze_var 1 rfl r_mode) ze_int) (fun hb_8 F_36 H_28 s_38 => ?_) (fun hb_8 F_36 H_28 s_38 => ?_)
          · have s_38 : Stp F_22 [stoO a_st c_st s_5] H_18 F_36 [stoO a_st c_st s_5] H_28 := by exact s_38
            have st := st.trans s_38
            have sj := sj.trans s_38
            have sj_2 := sj_2.trans s_38
            have r_st := r_st.mono s_38.gr
            have r_mode := r_mode.mono s_38.gr
            have r_first := r_first.mono s_38.gr
            have r_second := r_second.mono s_38.gr
            have hf := hf.trans (cond_t hb_8)
            refine zs_setLcS (i0 := 2) (w := st.ok) (n := 4) (G := (fun z => [stoO a_st c_st z])) (st0 := s_5) (f0 := (fun (z : Sto) (a_k : Int) => ((number cs z (1 : Int) (140000 : Int)).1, (number cs z (1 : Int) (140000 : Int)).2))) (encR := eI) rfl sc.nd (zi_range1 T.b_range ze_int (by decide)) (fun _ _ _ _ _ z a_k v_a_k _ h_a_k g_c r_a_k => ze_to (ze_callS 0 0 (ok_number T) (hr.mono (by decide)) rfl (r_st.mono g_c) (za_cons ze_int (za_cons ze_int za_nil)) rfl ⟨(1 : Int), (140000 : Int), rfl, (by /-28-/ first | (first | omega | (simp only [List.length_append, List.length_cons, List.length_nil, List.length_map, rangeI_length]; omega)) | (first | omega | (rw [← szL]; omega) | (simp only [List.length_append, List.length_cons, List.length_nil, List.length_map, rangeI_length, ← szL]; omega))), rfl, rfl⟩) rfl rfl) (blkOk_by (N := ["store", "mode", "first", "second", "k", "one", "two", "worth", "more"]) (sc := defScope (topS 25)) (by decide +kernel)) (fun _ _ _ _ _ => pg_name (i := 4) sc.nd rfl (Or.inl rfl)) rfl rfl (sw_true rfl rfl rfl (by decide +kernel)) fun p_first_4 us_first_4 F_37 H_29 hp_9 s_39 r_first_12 => ?_
            obtain ⟨first_7, hx_first_7⟩ : ∃ z : (List Int), z = (mapS (fun (z : Sto) (a_k : Int) => ((number cs z (1 : Int) (140000 : Int)).1, (number cs z (1 : Int) (140000 : Int)).2)) s_5 (rangeI 0 (7 : Int))).1 := ⟨_, rfl⟩
            obtain ⟨s_40, hx_s_40⟩ : ∃ z : Sto, z = (mapS (fun (z : Sto) (a_k : Int) => ((number cs z (1 : Int) (140000 : Int)).1, (number cs z (1 : Int) (140000 : Int)).2)) s_5 (rangeI 0 (7 : Int))).2 := ⟨_, rfl⟩
            have hn_21 := st.newAt hp_9
            have hn_22 := sj.newAt hp_9
            have hn_23 := sj_2.newAt hp_9
            have s_39 : Stp F_36 [stoO a_st c_st s_5] H_28 F_37 [(p_first_4, .lst us_first_4), stoO a_st c_st s_40] H_29 := by subst hx_s_40; exact s_39
            have r_first_12 : RA K F_37 us_first_4 (first_7.map eI) := by subst hx_first_7; exact r_first_12
            have st := st.trans s_39
            have sj := sj.trans s_39
            have sj_2 := sj_2.trans s_39
            have r_st := r_st.mono s_39.gr
            have r_mode := r_mode.mono s_39.gr
            have r_second := r_second.mono s_39.gr
            have gz_8 : Gr F_37 (upd F_37 p_first_4 (.lst us_first_4)) := Gr.upd (st.ok.at_ (k := 0) rfl).2
            have r_first_13 : R K (upd F_37 p_first_4 (.lst us_first_4)) (.ref p_first_4) (eL eI first_7) := (r_first_12.mono gz_8).lst upd_same
            have st : Stp _ _ _ (upd F_37 p_first_4 (.lst us_first_4)) [stoO a_st c_st s_40] H_29 := st.freezeAt 0 rfl hn_21
            have sj : Stp _ _ _ (upd F_37 p_first_4 (.lst us_first_4)) [stoO a_st c_st s_40] H_29 := sj.freezeAt 0 rfl hn_22
            have sj_2 : Stp _ _ _ (upd F_37 p_first_4 (.lst us_first_4)) [stoO a_st c_st s_40] H_29 := sj_2.freezeAt 0 rfl hn_23
            have r_st := r_st.mono gz_8
            have r_mode := r_mode.mono gz_8
            have r_second := r_second.mono gz_8
            show ZS _ _ [some (.ref a_st), some v_mode, some (.ref p_first_4), some v_second, none, none, none, none, none] H_29 _
            have hf : caseL cs s = caseL_19 cs first_7 s_40 := by subst hx_first_7; subst hx_s_40; exact hf
            have hl9 : first_7.length ≤ 7 := by rw [hx_first_7, mapS_length]; decide
            refine zs_setN (n := 3) st.ok (zn_lstt (enc := eI) (xs := ([first_7.sum] : List Int)) (za_cons (ze_sum rfl T.b_sum (ze_var 2 rfl r_first_13)) za_nil)) sc.nd rfl (by first | exact Or.inl rfl | exact Or.inr rfl) fun p_second_5 us_second_5 F_39 H_30 hp_10 s_41 r_second_14 => ?_
            obtain ⟨second_8, hx_second_8⟩ : ∃ z : (List Int), z = ([first_7.sum] : List Int) := ⟨_, rfl⟩
            have hn_24 := st.newAt hp_10
            have hn_25 := sj.newAt hp_10
            have hn_26 := sj_2.newAt hp_10
            have s_41 : Stp (upd F_37 p_first_4 (.lst us_first_4)) [stoO a_st c_st s_40] H_29 F_39 [(p_second_5, .lst us_second_5), stoO a_st c_st s_40] H_30 := by exact s_41
            have r_second_14 : RA K F_39 us_second_5 (second_8.map eI) := by subst hx_second_8; exact r_second_14
            have st := st.trans s_41
            have sj := sj.trans s_41
            have sj_2 := sj_2.trans s_41
            have r_st := r_st.mono s_41.gr
            have r_mode := r_mode.mono s_41.gr
            have r_first_13 := r_first_13.mono s_41.gr
            have gz_9 : Gr F_39 (upd F_39 p_second_5 (.lst us_second_5)) := Gr.upd (st.ok.at_ (k := 0) rfl).2
            have r_second_15 : R K (upd F_39 p_second_5 (.lst us_second_5)) (.ref p_second_5) (eL eI second_8) := (r_second_14.mono gz_9).lst upd_same
            have st : Stp _ _ _ (upd F_39 p_second_5 (.lst us_second_5)) [stoO a_st c_st s_40] H_30 := st.freezeAt 0 rfl hn_24
            have sj : Stp _ _ _ (upd F_39 p_second_5 (.lst us_second_5)) [stoO a_st c_st s_40] H_30 := sj.freezeAt 0 rfl hn_25
            have sj_2 : Stp _ _ _ (upd F_39 p_second_5 (.lst us_second_5)) [stoO a_st c_st s_40] H_30 := sj_2.freezeAt 0 rfl hn_26
            have r_st := r_st.mono gz_9
            have r_mode := r_mode.mono gz_9
            have r_first_13 := r_first_13.mono gz_9
            show ZS _ _ [some (.ref a_st), some v_mode, some (.ref p_first_4), some (.ref p_second_5), none, none, none, none, none] H_30 _
            have hf : caseL cs s = caseL_20 cs first_7 second_8 s_40 := by subst hx_second_8; exact hf
            refine zs_nil ?_
            show ZS _ _ [some (.ref a_st), some v_mode, some (.ref p_first_4), some (.ref p_second_5), none, none, none, none, none] H_30 _
            refine zs_nil ?_
            exact ⟨first_7, second_8, s_40, _, _, hf, sj_2, (.ref p_first_4), (.ref p_second_5), none, none, none, none, rfl, rfl, r_first_13, r_second_15, by first | exact ⟨by omega, by omega⟩ | (rw [hx_second_8, List.length_append]; exact ⟨by omega, by show _ + 1 ≤ 64; omega⟩) | (rw [hx_second_8]; exact ⟨by omega, by show 1 ≤ 64; decide⟩)⟩
          · have s_38 : Stp F_22 [stoO a_st c_st s_5] H_18 F_36 [stoO a_st c_st s_5] H_28 := by exact s_38
            have st := st.trans s_38
            have sj := sj.trans s_38
            have sj_2 := sj_2.trans s_38
            have r_st := r_st.mono s_38.gr
            have r_mode := r_mode.mono s_38.gr
            have r_first := r_first.mono s_38.gr
            have r_second := r_second.mono s_38.gr
            have hf := hf.trans (cond_f hb_8)
            refine zs_nil ?_
            show ZS _ _ [some (.ref a_st), some v_mode, some v_first, some v_second, none, none, none, none, none] H_28 _
            refine zs_nil ?_
            exact ⟨first, second, s_5, _, _, hf, sj_2, v_first, v_second, none, none, none, none, rfl, rfl, r_first, r_second, by first | exact ⟨by omega, by omega⟩ | (rw [hx_second, List.length_append]; exact ⟨by omega, by show _ + 1 ≤ 64; omega⟩) | (rw [hx_second]; exact ⟨by omega, by show 1 ≤ 64; decide⟩)⟩
        · obtain ⟨j_first_2, j_second_2, j_s_2, F_23, O_5, hf, s_26, hJ_2⟩ := hJ_2
          obtain ⟨v_first_6, v_second_7, z_one_4, z_two_4, z_worth_2, z_more_2, rfl, rfl, r_first_7, r_second_9, hinv_4⟩ := hJ_2
          have r_first_7 : R K _ v_first_6 ((eL eI) j_first_2) := r_first_7
          have r_second_9 : R K _ v_second_7 ((eL eI) j_second_2) := r_second_9
          have st := st.trans s_26
          have sj := sj.trans s_26
          have r_st := r_st.mono s_26.gr
          have r_mode := r_mode.mono s_26.gr
          have hjq := hinv_4
          show ZS _ _ [some (.ref a_st), some v_mode, some v_first_6, some v_second_7, none, z_one_4, z_two_4, z_worth_2, z_more_2] H_19 _
          refine zs_nil ?_
          show ZS _ _ [some (.ref a_st), some v_mode, some v_first_6, some v_second_7, none, z_one_4, z_two_4, z_worth_2, z_more_2] H_19 _
          refine zs_nil ?_
          exact ⟨j_first_2, j_second_2, j_s_2, _, _, hf, sj, v_first_6, v_second_7, none, z_one_4, z_two_4, z_worth_2, z_more_2, rfl, rfl, r_first_7, r_second_9, by first | exact ⟨by omega, by omega⟩ | (rw [hx_j_second_2]; exact ⟨by omega, by omega⟩) | (rw [hx_j_second_2, List.length_append]; exact ⟨by omega, by show _ + 1 ≤ 64; omega⟩) | (rw [hx_j_second_2]; exact ⟨by omega, by show 1 ≤ 64; decide⟩)⟩
    · obtain ⟨j_first, j_second, j_s, F_5, O_2, hf, s_7, hJ⟩ := hJ
      obtain ⟨v_first_2, v_second_2, z_k, z_one, z_two, z_worth, z_more, rfl, rfl, r_first_2, r_second_2, hinv⟩ := hJ
      have r_first_2 : R K _ v_first_2 ((eL eI) j_first) := r_first_2
      have r_second_2 : R K _ v_second_2 ((eL eI) j_second) := r_second_2
      have st := st.trans s_7
      have r_st := r_st.mono s_7.gr
      have r_mode := r_mode.mono s_7.gr
      have hjl := hinv
      show ZS _ _ [some (.ref a_st), some v_mode, some v_first_2, some v_second_2, z_k, z_one, z_two, z_worth, z_more] H_5 _
      refine zs_if st.ok (zt_val (ze_callS 0 0 (ok_odds T) (hr.mono (by decide)) rfl r_st (za_cons ze_int za_nil) rfl ⟨(2 : Int), rfl, (by /-4-/ first | (first | omega | (simp only [List.length_append, List.length_cons, List.length_nil, List.length_map, rangeI_length]; omega)) | (first | omega | (rw [← szL]; omega) | (simp only [List.length_append, List.length_cons, List.length_nil, List.length_map, rangeI_length, ← szL]; omega))), rfl, rfl⟩)) (fun hb_2 F_6 H_6 s_8 => ?_) (fun hb_2 F_6 H_6 s_8 => ?_)
      · obtain ⟨s_9, hx_s_9⟩ : ∃ z : Sto, z = (odds cs j_s (2 : Int)).2 := ⟨_, rfl⟩
        have s_8 : Stp F_5 [stoO a_st c_st j_s] H_5 F_6 [stoO a_st c_st s_9] H_6 := by subst hx_s_9; exact s_8
        have st := st.trans s_8
        have r_st := r_st.mono s_8.gr
        have r_mode := r_mode.mono s_8.gr
        have r_first_2 := r_first_2.mono s_8.gr
        have r_second_2 := r_second_2.mono s_8.gr
        have hf := hf.trans (cond_t hb_2)
        have hf : caseL cs s = caseL_4 cs j_first j_second s_9 := by subst hx_s_9; exact hf
        refine zs_ret st.ok (ze_tup2 (e1 := (eL eI)) (e2 := (eL eI)) (a := (shufT cs s_9 j_second).1) (b := (shufT cs ((shufT cs s_9 j_second).2) j_first).1) (ze_callS 0 0 (ok_shuffleL T) (hr.mono (by decide)) rfl r_st (za_cons (ze_var 3 rfl r_second_2) za_nil) rfl (A_shuf_of eI (by /-5-/ first | ((rw [← szL]; first | omega | (simp only [List.length_append, List.length_cons, List.length_nil, List.length_map, rangeI_length]; omega))) | (first | omega | (rw [← szL]; omega) | (simp only [List.length_append, List.length_cons, List.length_nil, List.length_map, rangeI_length, ← szL]; omega))))) (ze_callS 0 0 (ok_shuffleL T) (hr.mono (by decide)) rfl r_st (za_cons (ze_var 2 rfl r_first_2) za_nil) rfl (A_shuf_of eI (by /-6-/ first | ((rw [← szL]; first | omega | (simp only [List.length_append, List.length_cons, List.length_nil, List.length_map, rangeI_length]; omega))) | (first | omega | (rw [← szL]; omega) | (simp only [List.length_append, List.length_cons, List.length_nil, List.length_map, rangeI_length, ← szL]; omega)))))) fun v_2 F_7 H_7 s_10 r_3 => ?_
        exact q v_2 F_7 H_7 (by rw [hf]; exact (st.trans s_10)) (by rw [hf]; exact r_3)
      · obtain ⟨s_11, hx_s_11⟩ : ∃ z : Sto, z = (odds cs j_s (2 : Int)).2 := ⟨_, rfl⟩
        have s_8 : Stp F_5 [stoO a_st c_st j_s] H_5 F_6 [stoO a_st c_st s_11] H_6 := by subst hx_s_11; exact s_8
        have st := st.trans s_8
        have r_st := r_st.mono s_8.gr
        have r_mode := r_mode.mono s_8.gr
        have r_first_2 := r_first_2.mono s_8.gr
        have r_second_2 := r_second_2.mono s_8.gr
        have hf := hf.trans (cond_f hb_2)
        have hf : caseL cs s = caseL_5 cs j_first j_second s_11 := by subst hx_s_11; exact hf
        refine zs_nil ?_
        show ZS _ _ [some (.ref a_st), some v_mode, some v_first_2, some v_second_2, z_k, z_one, z_two, z_worth, z_more] H_6 _
        refine zs_ret st.ok (ze_tup2 (e1 := (eL eI)) (e2 := (eL eI)) (a := (shufT cs s_11 j_first).1) (b := (shufT cs ((shufT cs s_11 j_first).2) j_second).1) (ze_callS 0 0 (ok_shuffleL T) (hr.mono (by decide)) rfl r_st (za_cons (ze_var 2 rfl r_first_2) za_nil) rfl (A_shuf_of eI (by /-7-/ first | ((rw [← szL]; first | omega | (simp only [List.length_append, List.length_cons, List.length_nil, List.length_map, rangeI_length]; omega))) | (first | omega | (rw [← szL]; omega) | (simp only [List.length_append, List.length_cons, List.length_nil, List.length_map, rangeI_length, ← szL]; omega))))) (ze_callS 0 0 (ok_shuffleL T) (hr.mono (by decide)) rfl r_st (za_cons (ze_var 3 rfl r_second_2) za_nil) rfl (A_shuf_of eI (by /-8-/ first | ((rw [← szL]; first | omega | (simp only [List.length_append, List.length_cons, List.length_nil, List.length_map, rangeI_length]; omega))) | (first | omega | (rw [← szL]; omega) | (simp only [List.length_append, List.length_cons, List.length_nil, List.length_map, rangeI_length, ← szL]; omega)))))) fun v_3 F_8 H_8 s_12 r_4 => ?_
        exact q v_3 F_8 H_8 (by rw [hf]; exact (st.trans s_12)) (by rw [hf]; exact r_4)
theorem okC_perm {xs ys xs' ys' : List Int} (h : okC xs ys) (p : xs'.Perm xs) (q : ys'.Perm ys) : okC xs' ys' := by
  obtain ⟨⟨h1, h2, h3, h4, h5⟩, l1, l2, l3, l4, b1, b2⟩ := h
  exact ⟨⟨fun x m => h1 x (p.mem_iff.mp m), fun x m => h2 x (q.mem_iff.mp m), by rw [sum_perm p, sum_perm q]; exact h3, by rw [p.length_eq]; exact h4, by rw [q.length_eq]; exact h5⟩, by rw [p.length_eq]; exact l1, by rw [p.length_eq]; exact l2, by rw [q.length_eq]; exact l3, by rw [q.length_eq]; exact l4, fun x m => b1 x (p.mem_iff.mp m), fun x m => b2 x (q.mem_iff.mp m)⟩
theorem okC_symm {xs ys : List Int} (h : okC xs ys) : okC ys xs := ⟨okX_symm h.1, h.2.2.2.1, h.2.2.2.2.1, h.2.1, h.2.2.1, h.2.2.2.2.2.2, h.2.2.2.2.2.1⟩
theorem okC_app {xs ys as bs : List Int} (h : okC xs ys) (g : okC as bs) (l1 : (xs.length : Int) + (as.length : Int) ≤ 7) (l2 : (ys.length : Int) + (bs.length : Int) ≤ 7) : okC (xs ++ as) (ys ++ bs) := by
  obtain ⟨⟨h1, h2, h3, h4, h5⟩, k1, k2, k3, k4, b1, b2⟩ := h
  obtain ⟨⟨g1, g2, g3, g4, g5⟩, m1, m2, m3, m4, c1, c2⟩ := g
  refine ⟨⟨fun x m => (List.mem_append.mp m).elim (h1 x) (g1 x), fun x m => (List.mem_append.mp m).elim (h2 x) (g2 x), by rw [List.sum_append, List.sum_append]; omega, ?_, ?_⟩, ?_, ?_, ?_, ?_, fun x m => (List.mem_append.mp m).elim (b1 x) (c1 x), fun x m => (List.mem_append.mp m).elim (b2 x) (c2 x)⟩ <;> rw [List.length_append] <;> omega
theorem case3_ok {cs : List Int} {f g : List Int} {s : Sto} (h : okC f g) : okC (caseL_3 cs f g s).1.1 (caseL_3 cs f g s).1.2 := by
  unfold caseL_3
  cases (odds cs s 2).1 with
  | true => exact okC_perm (okC_symm h) shufT_perm shufT_perm
  | false => exact okC_perm h shufT_perm shufT_perm
theorem case6_ok {xs ys as bs : List Int} {s : Sto} (h : okC xs ys) (g : okC as bs) : okC (caseL_6 xs ys as bs s).1 (caseL_6 xs ys as bs s).2.1 := by
  unfold caseL_6
  cases e : decide ((if ((ys.length : Int) + (bs.length : Int)) > ((xs.length : Int) + (as.length : Int)) then ((ys.length : Int) + (bs.length : Int)) else ((xs.length : Int) + (as.length : Int))) ≤ (7 : Int)) with
  | true =>
    have := of_decide_eq_true e
    refine okC_app h g ?_ ?_ <;> (split at this <;> omega)
  | false => exact h
theorem caseloop_ok {cs : List Int} : ∀ (ks : List Int) (b : List Int × List Int × Sto), okC b.1 b.2.1 → okC (ks.foldl (caseL_L1 cs) b).1 (ks.foldl (caseL_L1 cs) b).2.1
  | [], b, h => h
  | k :: ks, b, h => by
    rw [List.foldl_cons]
    refine caseloop_ok ks _ ?_
    exact case6_ok h (exch_ok (cs := cs) (s := (pickT cs b.2.2 ([(3 : Int), (9 : Int), (100000 : Int)] : List Int)).2) (by decide : (1 : Int) ≤ 3) (by decide) pick3k.1 pick3k.2).1
theorem okC_cond {c : Bool} {A B : (List Int × List Int) × Sto} (hA : okC A.1.1 A.1.2) (hB : okC B.1.1 B.1.2) : okC (cond c A B).1.1 (cond c A B).1.2 := by cases c <;> assumption
theorem mul_le7 {o w : Int} (h1 : 1 ≤ o) (h7 : o ≤ 7) (w1 : 1 ≤ w) (wM : w ≤ 50000) : 1 ≤ o * w ∧ o * w ≤ 350000 := by
  have h : o = 1 ∨ o = 2 ∨ o = 3 ∨ o = 4 ∨ o = 5 ∨ o = 6 ∨ o = 7 := by omega
  rcases h with rfl | rfl | rfl | rfl | rfl | rfl | rfl <;> omega
theorem rep_ok {o t w : Int} (o1 : 1 ≤ o) (o7 : o ≤ 7) (t1 : 1 ≤ t) (t7 : t ≤ 7) (w1 : 1 ≤ w) (wM : w ≤ 50000) : okC (repL [o * w] t) (repL [t * w] o) := by
  obtain ⟨a1, a2, a3⟩ := repL_one (a := o * w) (n := t)
  obtain ⟨b1, b2, b3⟩ := repL_one (a := t * w) (n := o)
  have m1 := mul_le7 o1 o7 w1 wM
  have m2 := mul_le7 t1 t7 w1 wM
  have e1 : (t.toNat : Int) = t := by omega
  have e2 : (o.toNat : Int) = o := by omega
  refine ⟨⟨fun x h => by rw [a1 x h]; exact m1.1, fun x h => by rw [b1 x h]; exact m2.1, ?_, by omega, by omega⟩, by omega, by omega, by omega, by omega, fun x h => by rw [a1 x h]; omega, fun x h => by rw [b1 x h]; omega⟩
  rw [a3, b3, e1, e2, Int.mul_comm o w, Int.mul_comm t w, Int.mul_assoc, Int.mul_assoc, Int.mul_comm o t]
theorem okC_more {xs ys : List Int} {m : Int} (h : okC xs ys) (m1 : 1 ≤ m) (mM : m ≤ 1000000) (l1 : xs.length ≤ 6) (l2 : ys.length ≤ 6) : okC (xs ++ [m]) (ys ++ [m]) := by
  obtain ⟨⟨h1, h2, h3, h4, h5⟩, k1, k2, k3, k4, b1, b2⟩ := h
  have s : ∀ {p : Int → Prop} {l : List Int}, (∀ x ∈ l, p x) → p m → ∀ x ∈ l ++ [m], p x := fun {p l} h hm x hx => (List.mem_append.mp hx).elim (h x) fun z => by rw [List.mem_singleton.mp z]; exact hm
  refine ⟨⟨s h1 m1, s h2 m1, by rw [List.sum_append, List.sum_append]; omega, ?_, ?_⟩, ?_, ?_, ?_, ?_, s b1 mM, s b2 mM⟩ <;> rw [List.length_append, List.length_singleton] <;> omega
theorem three_mem {cs : List Int} {s : Sto} {a b c : Int} : (pickT cs s ([a, b, c] : List Int)).1 = a ∨ (pickT cs s ([a, b, c] : List Int)).1 = b ∨ (pickT cs s ([a, b, c] : List Int)).1 = c := by
  have h := pickT_mem (cs := cs) (s := s) (xs := ([a, b, c] : List Int)) (by simp)
  simpa using h
theorem case15_ok {cs : List Int} {o t w : Int} {s : Sto} (o1 : 1 ≤ o) (o7 : o ≤ 7) (t1 : 1 ≤ t) (t7 : t ≤ 7) (w1 : 1 ≤ w) (wM : w ≤ 50000) : okC (caseL_15 cs (repL [o * w] t) (repL [t * w] o) o t w s).1.1 (caseL_15 cs (repL [o * w] t) (repL [t * w] o) o t w s).1.2 := by
  have h := rep_ok o1 o7 t1 t7 w1 wM
  unfold caseL_15
  cases e : decide ((if t > o then t else o) < (7 : Int)) with
  | true =>
    have g := of_decide_eq_true e
    have m1 := mul_le7 o1 o7 w1 wM
    have m2 := mul_le7 t1 t7 w1 wM
    have hm : 1 ≤ (pickT cs s ([w, (o * w), (t * w)] : List Int)).1 ∧ (pickT cs s ([w, (o * w), (t * w)] : List Int)).1 ≤ 1000000 := by
      rcases three_mem (cs := cs) (s := s) (a := w) (b := o * w) (c := t * w) with z | z | z <;> (rw [z]; omega)
    obtain ⟨_, a2, _⟩ := repL_one (a := o * w) (n := t)
    obtain ⟨_, b2, _⟩ := repL_one (a := t * w) (n := o)
    refine case3_ok (okC_more h hm.1 hm.2 ?_ ?_) <;> (split at g <;> omega)
  | false => exact case3_ok h
theorem case19_ok {cs F : List Int} {s2 : Sto} (d1 : ∀ x ∈ F, 1 ≤ x ∧ x ≤ 140000) (d2 : F.length = 7) : okC (caseL_19 cs F s2).1.1 (caseL_19 cs F s2).1.2 := by
  have p := sum_pos (fun x h => (d1 x h).1) (fun z => by rw [z] at d2; cases d2)
  have q := sum_le (c := 140000) fun x h => (d1 x h).2
  refine case3_ok ⟨⟨fun x h => (d1 x h).1, fun x h => by rw [List.mem_singleton.mp h]; exact p, by simp, by omega, by show 1 ≤ 8; decide⟩, by omega, by omega, by show 1 ≤ 1; decide, by show 1 ≤ 7; decide, fun x h => by have := (d1 x h).2; omega, fun x h => by rw [List.mem_singleton.mp h]; omega⟩
theorem case12_ok {cs : List Int} {s : Sto} {p : Int × Int} (h : 1 ≤ p.1 ∧ p.1 ≤ 7 ∧ 1 ≤ p.2 ∧ p.2 ≤ 7) : okC (caseL_12 cs p.1 p.2 s).1.1 (caseL_12 cs p.1 p.2 s).1.2 := by
  unfold caseL_12 caseL_13 caseL_14
  exact case15_ok h.1 h.2.1 h.2.2.1 h.2.2.2 worth_ok.1 worth_ok.2
theorem case2_ok {cs : List Int} {mode : Int} {first second : List Int} {s : Sto} (hE : okC first second) : okC (caseL_2 cs mode first second s).1.1 (caseL_2 cs mode first second s).1.2 := by
  unfold caseL_2
  refine okC_cond (case3_ok (caseloop_ok _ _ hE)) (okC_cond ?_ (okC_cond ?_ (okC_cond ?_ ?_)))
  · exact case3_ok ⟨⟨hE.1.1, hE.1.1, rfl, hE.1.2.2.2.1, hE.1.2.2.2.1⟩, hE.2.1, hE.2.2.1, hE.2.1, hE.2.2.1, hE.2.2.2.2.2.1, hE.2.2.2.2.2.1⟩
  · exact case12_ok pick8_in
  · refine case19_ok (fun x hx => ?_) ?_
    · obtain ⟨s', a, _, e⟩ := mapS_mem hx
      rw [e]
      exact number_range cs s' 1 140000 (by decide)
    · rw [mapS_length, rangeI_length]; rfl
  · exact case3_ok hE
theorem case_ok {cs : List Int} {s : Sto} : okC (caseL cs s).1.1 (caseL cs s).1.2 := by
  unfold caseL caseL_1
  exact case2_ok (exch_ok (cs := cs) (by decide : (1 : Int) ≤ 7) (by decide) pick4k.1 pick4k.2).1

/-! _law_cut_right -/
abbrev s_cut_rightL : Stmt := topS 26
theorem sc_cut_rightL : FnScope ["first", "second", "value", "left", "right", "pair", "row", "note"] ["first", "second", "value"] (defScope s_cut_rightL) := ⟨rfl, rfl, rfl, by decide +kernel, rfl, by decide +kernel, by decide +kernel⟩
def cut_rightL_L2b (row : (List Int)) : Turn Unit Bool :=
  (cond ((!true) || (!(decide ((1 : Int) ≤ (row.length : Int)) && decide ((row.length : Int) ≤ (7 : Int))))) (.rt false) (cond ((!((row.map (fun a_note : Int => (is_numberL a_note))).all id)) || (!decide (row = (sortI row)))) (.rt false) (.nx ())))
def cut_rightL_L2 (b : Unit) (a : (List Int)) : Turn Unit Bool :=
  cut_rightL_L2b a
def cut_rightL_5 (left_3 : (List Int)) (right_3 : (List Int)) : Turn ((List Int) × (List Int)) Bool :=
  .nx (left_3, right_3)
def cut_rightL_4 (left_3 : (List Int)) (right_2 : (List Int)) (pair : ((List Int) × (List Int))) : Turn ((List Int) × (List Int)) Bool :=
  cut_rightL_5 left_3 (right_2 ++ pair.2)
def cut_rightL_3 (left_2 : (List Int)) (right_2 : (List Int)) (pair : ((List Int) × (List Int))) (b : Unit) : Turn ((List Int) × (List Int)) Bool :=
  (cond (!(primitiveL pair.1 pair.2)) (.rt false) (cut_rightL_4 (left_2 ++ pair.1) right_2 pair))
def cut_rightL_L1b (left_2 : (List Int)) (right_2 : (List Int)) (pair : ((List Int) × (List Int))) : Turn ((List Int) × (List Int)) Bool :=
  (cond ((!true) || (!decide ((2 : Int) = (2 : Int)))) (.rt false) (outE (loopT cut_rightL_L2 () ([pair.1, pair.2] : List (List Int))) (cut_rightL_3 left_2 right_2 pair) (fun r => .rt r)))
def cut_rightL_L1 (b : ((List Int) × (List Int))) (a : ((List Int) × (List Int))) : Turn ((List Int) × (List Int)) Bool :=
  cut_rightL_L1b b.1 b.2 a
def cut_rightL_6 (first : (List Int)) (second : (List Int)) (b : ((List Int) × (List Int))) : Bool :=
  (decide ((sortI b.1) = (sortI first)) && decide ((sortI b.2) = (sortI second)))
def cut_rightL_2 (first : (List Int)) (second : (List Int)) (value : (List ((List Int) × (List Int)))) (left : (List Int)) (right : (List Int)) : Bool :=
  outE (loopT cut_rightL_L1 (left, right) value) (cut_rightL_6 first second) (fun r => r)
def cut_rightL_1 (first : (List Int)) (second : (List Int)) (value : (List ((List Int) × (List Int)))) (left : (List Int)) : Bool :=
  cut_rightL_2 first second value left ([] : List Int)
def cut_rightL (first : (List Int)) (second : (List Int)) (value : (List ((List Int) × (List Int)))) : Bool :=
  (cond ((!true) || (!(decide ((1 : Int) ≤ (value.length : Int)) && decide ((value.length : Int) ≤ (7 : Int))))) false (cut_rightL_1 first second value ([] : List Int)))
def A_cut_rightL : List PyData → PyData → Prop := fun ds r => ∃ (first : (List Int)) (second : (List Int)) (value : (List ((List Int) × (List Int)))), ds = [(eL eI) first, (eL eI) second, (eL (eT2 (eL eI) (eL eI))) value] ∧ (first.length ≤ 8 ∧ second.length ≤ 8 ∧ value.length ≤ 8 ∧ ∀ p : List Int × List Int, p ∈ value → p.1.length ≤ 8 ∧ p.2.length ≤ 8) ∧ r = eB (cut_rightL first second value)
set_option maxHeartbeats 4000000 in
theorem ok_cut_rightL {P : Program} {w : World} {K : PySem.W.Frag} {mg : Str → Option Value} {base : Heap} (T : Top K mg) : Fn P w K mg base 3 "_law_cut_right" ["first", "second", "value"] (spD K A_cut_rightL) := by
  obtain ⟨f, fd, F, gm⟩ := T.f_cut_rightL
  have sc := sc_cut_rightL
  refine ⟨f, fd, F.ok sc (fun vs H Q E h => ?_) (fun cdv A outer s0 H vs Q E hr h => ⟨_, PSs.nox pss_w, ?_⟩), gm, F.kp, F.bindsN (fun _ _ _ _ _ _ us hl => match us, hl with | [_, _, _], _ => rfl)⟩
  · obtain ⟨F, ds, r, w, ra, ⟨first, second, value, rfl, hpre, rfl⟩, q⟩ := h
    exact ra.len
  · obtain ⟨F, ds, r, w, ra, ⟨first, second, value, rfl, hpre, rfl⟩, q⟩ := h
    obtain ⟨v_first, ws, rfl, r_first, ra⟩ := ra.cons_inv
    obtain ⟨v_second, ws, rfl, r_second, ra⟩ := ra.cons_inv
    obtain ⟨v_value, ws, rfl, r_value, ra⟩ := ra.cons_inv
    obtain rfl := ra.nil_inv
    have st := Stp.refl w
    have hf : cut_rightL first second value = cut_rightL first second value := rfl
    show ZS _ _ [some v_first, some v_second, some v_value, none, none, none, none, none] H _
    refine zs_if st.ok (zt_w (zw_or (zt_not (zt_val (ze_isi (T := "list") (k := true) T.b_isinstance T.b_list (ze_var 2 rfl r_value) (show kitB "list" "list" = some true by decide +kernel)))) fun hb => (zw_or1 (zt_not (zt_chain cm_le cm_le ze_int (ze_lenLt T.b_len (ze_var 2 rfl r_value)) ze_int))))) (fun hb F_2 H_2 s_2 => ?_) (fun hb F_2 H_2 s_2 => ?_)
    · have s_2 : Stp F [] H F_2 [] H_2 := by exact s_2
      have st := st.trans s_2
      have r_first := r_first.mono s_2.gr
      have r_second := r_second.mono s_2.gr
      have r_value := r_value.mono s_2.gr
      have hf := hf.trans (cond_t hb)
      refine zs_ret st.ok ze_bl fun v F_3 H_3 s_3 r_2 => ?_
      exact q v F_3 H_3 (st.trans s_3) (by rw [hf]; exact r_2)
    · have s_2 : Stp F [] H F_2 [] H_2 := by exact s_2
      have st := st.trans s_2
      have r_first := r_first.mono s_2.gr
      have r_second := r_second.mono s_2.gr
      have r_value := r_value.mono s_2.gr
      have hf := hf.trans (cond_f hb)
      refine zs_nil ?_
      show ZS _ _ [some v_first, some v_second, some v_value, none, none, none, none, none] H_2 _
      refine zs_setN (n := 3) st.ok (zn_lstt (enc := eI) (xs := ([] : List Int)) za_nil) sc.nd rfl (by first | exact Or.inl rfl | exact Or.inr rfl) fun p_left us_left F_4 H_4 hp_2 s_4 r_left => ?_
      obtain ⟨left, hx_left⟩ : ∃ z : (List Int), z = ([] : List Int) := ⟨_, rfl⟩
      have hn := st.newAt hp_2
      have s_4 : Stp F_2 [] H_2 F_4 [(p_left, .lst us_left)] H_4 := by exact s_4
      have r_left : RA K F_4 us_left (left.map eI) := by subst hx_left; exact r_left
      have st := st.trans s_4
      have r_first := r_first.mono s_4.gr
      have r_second := r_second.mono s_4.gr
      have r_value := r_value.mono s_4.gr
      have gz : Gr F_4 (upd F_4 p_left (.lst us_left)) := Gr.upd (st.ok.at_ (k := 0) rfl).2
      have r_left_2 : R K (upd F_4 p_left (.lst us_left)) (.ref p_left) (eL eI left) := (r_left.mono gz).lst upd_same
      have st : Stp _ _ _ (upd F_4 p_left (.lst us_left)) [] H_4 := st.freezeAt 0 rfl hn
      have r_first := r_first.mono gz
      have r_second := r_second.mono gz
      have r_value := r_value.mono gz
      show ZS _ _ [some v_first, some v_second, some v_value, some (.ref p_left), none, none, none, none] H_4 _
      have hf : cut_rightL first second value = cut_rightL_1 first second value left := by subst hx_left; exact hf
      refine zs_setN (n := 4) st.ok (zn_lstt (enc := eI) (xs := ([] : List Int)) za_nil) sc.nd rfl (by first | exact Or.inl rfl | exact Or.inr rfl) fun p_right us_right F_6 H_5 hp_3 s_5 r_right => ?_
      obtain ⟨right, hx_right⟩ : ∃ z : (List Int), z = ([] : List Int) := ⟨_, rfl⟩
      have hn_2 := st.newAt hp_3
      have s_5 : Stp (upd F_4 p_left (.lst us_left)) [] H_4 F_6 [(p_right, .lst us_right)] H_5 := by exact s_5
      have r_right : RA K F_6 us_right (right.map eI) := by subst hx_right; exact r_right
      have st := st.trans s_5
      have r_first := r_first.mono s_5.gr
      have r_second := r_second.mono s_5.gr
      have r_value := r_value.mono s_5.gr
      have r_left_2 := r_left_2.mono s_5.gr
      have gz_2 : Gr F_6 (upd F_6 p_right (.lst us_right)) := Gr.upd (st.ok.at_ (k := 0) rfl).2
      have r_right_2 : R K (upd F_6 p_right (.lst us_right)) (.ref p_right) (eL eI right) := (r_right.mono gz_2).lst upd_same
      have st : Stp _ _ _ (upd F_6 p_right (.lst us_right)) [] H_5 := st.freezeAt 0 rfl hn_2
      have r_first := r_first.mono gz_2
      have r_second := r_second.mono gz_2
      have r_value := r_value.mono gz_2
      have r_left_2 := r_left_2.mono gz_2
      show ZS _ _ [some v_first, some v_second, some v_value, some (.ref p_left), some (.ref p_right), none, none, none] H_5 _
      have hf : cut_rightL first second value = cut_rightL_2 first second value left right := by subst hx_right; exact hf
      refine zs_forT (f := cut_rightL_L1) (b0 := (left, right)) st.ok PassesOwn.never rfl (zi_list (ze_var 2 rfl r_value)) (fun iq b σ F O => ∃ (w1 : V) (w2 : V) (z3 : Option V) (z4 : Option V), σ = [some v_first, some v_second, some v_value, some w1, some w2, z3, z4, none] ∧ O = [] ∧ R K F w1 ((eL eI) b.1) ∧ R K F w2 ((eL eI) b.2) ∧ (b.1.length ≤ 8 * iq ∧ b.2.length ≤ 8 * iq)) (fun F_28 H_22 s_22 => ⟨(.ref p_left), (.ref p_right), none, none, rfl, rfl, r_left_2.mono s_22.gr, r_right_2.mono s_22.gr, by rw [hx_left, hx_right]; exact ⟨Nat.zero_le _, Nat.zero_le _⟩⟩) (fun i b pair v_2 σ F_8 F_9 O_2 H_6 ha hbe hz rel g s_6 r_3 => ?_) (fun j_2 b_4 σ_4 F_26 O_5 H_20 hb_7 s_20 rel_4 => ?_)
      · skip
        obtain ⟨left_2, right_2⟩ := b
        obtain ⟨v_left_2, v_right_2, z_pair, z_row, rfl, rfl, r_left_3, r_right_3, hinv⟩ := rel
        have r_left_3 : R K _ v_left_2 ((eL eI) left_2) := r_left_3
        have r_right_3 : R K _ v_right_2 ((eL eI) right_2) := r_right_3
        have st := st.trans s_6
        have r_first := r_first.mono s_6.gr
        have r_second := r_second.mono s_6.gr
        have r_value := r_value.mono s_6.gr
        have r_left_3 := r_left_3.mono g
        have r_right_3 := r_right_3.mono g
        have hinv : left_2.length ≤ 8 * i ∧ right_2.length ≤ 8 * i := hinv
        have hlt_i := (List.getElem?_eq_some_iff.mp ha).1
        have sb : Stp F_9 [] H_6 F_9 [] H_6 := Stp.refl st.ok
        have hfb : cut_rightL_L1 (left_2, right_2) pair = cut_rightL_L1b left_2 right_2 pair := rfl
        refine zg_name (n := 5) sc.nd rfl (by first | exact Or.inl rfl | exact Or.inr rfl) ?_
        have hq := hinv
        have hp8 := hpre.2.2.2 _ (List.mem_of_getElem? ha)
        have hi8 : i < 8 := by have h8 := hpre.2.2.1; omega
        show ZS _ _ [some v_first, some v_second, some v_value, some v_left_2, some v_right_2, some v_2, z_row, none] H_6 _
        refine zs_if st.ok (zt_w (zw_or (zt_not (zt_val (ze_isi (T := "tuple") (k := true) T.b_isinstance T.b_tuple (ze_var 5 rfl r_3) (show kitB "tuple" "tuple" = some true by decide +kernel)))) fun hb => (zw_or1 (zt_cm cm_neI (ze_to (d' := eI 2) (ze_lenT T.b_len (ze_var 5 rfl r_3)) rfl rfl) ze_int)))) (fun hb_2 F_10 H_7 s_7 => ?_) (fun hb_2 F_10 H_7 s_7 => ?_)
        · have s_7 : Stp F_9 [] H_6 F_10 [] H_7 := by exact s_7
          have st := st.trans s_7
          have sb := sb.trans s_7
          have r_first := r_first.mono s_7.gr
          have r_second := r_second.mono s_7.gr
          have r_value := r_value.mono s_7.gr
          have r_left_3 := r_left_3.mono s_7.gr
          have r_right_3 := r_right_3.mono s_7.gr
          have r_3 := r_3.mono s_7.gr
          have hfb := hfb.trans (cond_t hb_2)
          refine zs_ret st.ok ze_bl fun v_3 F_11 H_8 s_8 r_4 => ?_
          have hret := hf.trans (outE_rt (hbe.trans (loopT_rt hfb)))
          have hret_2 : cut_rightL first second value = false := hret
          exact q v_3 F_11 H_8 (st.trans s_8) (by rw [hret_2]; exact r_4)
        · have s_7 : Stp F_9 [] H_6 F_10 [] H_7 := by exact s_7
          have st := st.trans s_7
          have sb := sb.trans s_7
          have r_first := r_first.mono s_7.gr
          have r_second := r_second.mono s_7.gr
          have r_value := r_value.mono s_7.gr
          have r_left_3 := r_left_3.mono s_7.gr
          have r_right_3 := r_right_3.mono s_7.gr
          have r_3 := r_3.mono s_7.gr
          have hfb := hfb.trans (cond_f hb_2)
          refine zs_nil ?_
          show ZS _ _ [some v_first, some v_second, some v_value, some v_left_2, some v_right_2, some v_2, z_row, none] H_7 _
          refine zs_forT (f := cut_rightL_L2) (b0 := ()) st.ok PassesOwn.never rfl (zi_list (zn_ze (zn_lstt (enc := (eL eI)) (xs := ([pair.1, pair.2] : List (List Int))) (za_cons (ze_ixT (ze_var 5 rfl r_3) ze_int atI_0) (za_cons (ze_ixT (ze_var 5 rfl r_3) ze_int atI_1) za_nil))))) (fun iq b σ F O => ∃ (z1 : Option V), σ = [some v_first, some v_second, some v_value, some v_left_2, some v_right_2, some v_2, z1, none] ∧ O = [] ∧ True) (fun F_25 H_19 s_19 => ⟨z_row, rfl, rfl, trivial⟩) (fun i_2 b_2 row v_4 σ_2 F_12 F_13 O_3 H_9 ha_2 hbe_2 hz_2 rel_2 g_2 s_9 r_5 => ?_) (fun j b_3 σ_3 F_18 O_4 H_14 hb_5 s_14 rel_3 => ?_)
          · skip
            obtain ⟨z_row_2, rfl, rfl, hinv_2⟩ := rel_2
            have st := st.trans s_9
            have sb := sb.trans s_9
            have r_first := r_first.mono s_9.gr
            have r_second := r_second.mono s_9.gr
            have r_value := r_value.mono s_9.gr
            have r_left_3 := r_left_3.mono s_9.gr
            have r_right_3 := r_right_3.mono s_9.gr
            have r_3 := r_3.mono s_9.gr
            have hlt_i_2 := (List.getElem?_eq_some_iff.mp ha_2).1
            have sb_2 : Stp F_13 [] H_9 F_13 [] H_9 := Stp.refl st.ok
            have hfb_2 : cut_rightL_L2 () row = cut_rightL_L2b row := rfl
            refine zg_name (n := 6) sc.nd rfl (by first | exact Or.inl rfl | exact Or.inr rfl) ?_
            show ZS _ _ [some v_first, some v_second, some v_value, some v_left_2, some v_right_2, some v_2, some v_4, none] H_9 _
            refine zs_if st.ok (zt_w (zw_or (zt_not (zt_val (ze_isi (T := "list") (k := true) T.b_isinstance T.b_list (ze_var 6 rfl r_5) (show kitB "list" "list" = some true by decide +kernel)))) fun hb => (zw_or1 (zt_not (zt_chain cm_le cm_le ze_int (ze_lenLt T.b_len (ze_var 6 rfl r_5)) ze_int))))) (fun hb_3 F_14 H_10 s_10 => ?_) (fun hb_3 F_14 H_10 s_10 => ?_)
            · have s_10 : Stp F_13 [] H_9 F_14 [] H_10 := by exact s_10
              have st := st.trans s_10
              have sb := sb.trans s_10
              have sb_2 := sb_2.trans s_10
              have r_first := r_first.mono s_10.gr
              have r_second := r_second.mono s_10.gr
              have r_value := r_value.mono s_10.gr
              have r_left_3 := r_left_3.mono s_10.gr
              have r_right_3 := r_right_3.mono s_10.gr
              have r_3 := r_3.mono s_10.gr
              have r_5 := r_5.mono s_10.gr
              have hfb_2 := hfb_2.trans (cond_t hb_3)
              refine zs_ret st.ok ze_bl fun v_5 F_15 H_11 s_11 r_6 => ?_
              have hret_3 := hfb.trans (outE_rt (hbe_2.trans (loopT_rt hfb_2)))
              have hret_4 := hf.trans (outE_rt (hbe.trans (loopT_rt hret_3)))
              have hret_5 : cut_rightL first second value = false := hret_4
              exact q v_5 F_15 H_11 (st.trans s_11) (by rw [hret_5]; exact r_6)
            · have s_10 : Stp F_13 [] H_9 F_14 [] H_10 := by exact s_10
              have st := st.trans s_10
              have sb := sb.trans s_10
              have sb_2 := sb_2.trans s_10
              have r_first := r_first.mono s_10.gr
              have r_second := r_second.mono s_10.gr
              have r_value := r_value.mono s_10.gr
              have r_left_3 := r_left_3.mono s_10.gr
              have r_right_3 := r_right_3.mono s_10.gr
              have r_3 := r_3.mono s_10.gr
              have r_5 := r_5.mono s_10.gr
              have hfb_2 := hfb_2.trans (cond_f hb_3)
              refine zs_nil ?_
              show ZS _ _ [some v_first, some v_second, some v_value, some v_left_2, some v_right_2, some v_2, some v_4, none] H_10 _
              refine zs_if st.ok (zt_w (zw_or (zt_not (zt_val (ze_all rfl T.b_all (zn_ze (zn_lcM (n := 7) (f0 := (fun a_note : Int => (is_numberL a_note))) (encR := eB) rfl sc.nd (zi_list (ze_var 6 rfl r_5)) (fun _ _ _ _ _ a_note v_a_note _ h_a_note g_c r_a_note => (ze_callD (ok_is_numberL T) (hr.mono (by decide)) (za_cons (ze_var 7 rfl r_a_note) za_nil) ⟨a_note, rfl, rfl⟩)) (blkOk_by (N := ["first", "second", "value", "left", "right", "pair", "row", "note"]) (sc := defScope (topS 26)) (by decide +kernel)) (fun _ _ _ _ _ => pg_name (i := 7) sc.nd rfl (Or.inl rfl))))))) fun hb => (zw_or1 (zt_cm (cm_neE (enc := (eL eI)) (a := row) (b := (sortI row)) hr) (ze_var 6 rfl r_5) (zn_ze (zn_sortI T.b_sorted (ze_var 6 rfl r_5))))))) (fun hb_4 F_16 H_12 s_12 => ?_) (fun hb_4 F_16 H_12 s_12 => ?_)
              · have s_12 : Stp F_14 [] H_10 F_16 [] H_12 := by exact s_12
                have st := st.trans s_12
                have sb := sb.trans s_12
                have sb_2 := sb_2.trans s_12
                have r_first := r_first.mono s_12.gr
                have r_second := r_second.mono s_12.gr
                have r_value := r_value.mono s_12.gr
                have r_left_3 := r_left_3.mono s_12.gr
                have r_right_3 := r_right_3.mono s_12.gr
                have r_3 := r_3.mono s_12.gr
                have r_5 := r_5.mono s_12.gr
                have hfb_2 := hfb_2.trans (cond_t hb_4)
                refine zs_ret st.ok ze_bl fun v_6 F_17 H_13 s_13 r_7 => ?_
                have hret_6 := hfb.trans (outE_rt (hbe_2.trans (loopT_rt hfb_2)))
                have hret_7 := hf.trans (outE_rt (hbe.trans (loopT_rt hret_6)))
                have hret_8 : cut_rightL first second value = false := hret_7
                exact q v_6 F_17 H_13 (st.trans s_13) (by rw [hret_8]; exact r_7)
              · have s_12 : Stp F_14 [] H_10 F_16 [] H_12 := by exact s_12
                have st := st.trans s_12
                have sb := sb.trans s_12
                have sb_2 := sb_2.trans s_12
                have r_first := r_first.mono s_12.gr
                have r_second := r_second.mono s_12.gr
                have r_value := r_value.mono s_12.gr
                have r_left_3 := r_left_3.mono s_12.gr
                have r_right_3 := r_right_3.mono s_12.gr
                have r_3 := r_3.mono s_12.gr
                have r_5 := r_5.mono s_12.gr
                have hfb_2 := hfb_2.trans (cond_f hb_4)
                refine zs_nil ?_
                show ZS _ _ [some v_first, some v_second, some v_value, some v_left_2, some v_right_2, some v_2, some v_4, none] H_12 _
                refine zs_nil ?_
                exact ⟨(), _, _, hfb_2, sb_2, some v_4, rfl, rfl, trivial⟩
          · skip
            obtain ⟨z_row_3, rfl, rfl, hinv_3⟩ := rel_3
            have st := st.trans s_14
            have sb := sb.trans s_14
            have r_first := r_first.mono s_14.gr
            have r_second := r_second.mono s_14.gr
            have r_value := r_value.mono s_14.gr
            have r_left_3 := r_left_3.mono s_14.gr
            have r_right_3 := r_right_3.mono s_14.gr
            have r_3 := r_3.mono s_14.gr
            have hfb : cut_rightL_L1 (left_2, right_2) pair = (cut_rightL_3 left_2 right_2 pair) () := hfb.trans (outE_nx hb_5)
            show ZS _ _ [some v_first, some v_second, some v_value, some v_left_2, some v_right_2, some v_2, z_row_3, none] H_14 _
            refine zs_if st.ok (zt_not (zt_val (ze_callD (ok_primitiveL T) (hr.mono (by decide)) (za_cons (ze_ixT (ze_var 5 rfl r_3) ze_int atI_0) (za_cons (ze_ixT (ze_var 5 rfl r_3) ze_int atI_1) za_nil)) ⟨pair.1, pair.2, rfl, (by /-1-/ exact hp8), rfl⟩))) (fun hb_6 F_19 H_15 s_15 => ?_) (fun hb_6 F_19 H_15 s_15 => ?_)
            · have s_15 : Stp F_18 [] H_14 F_19 [] H_15 := by exact s_15
              have st := st.trans s_15
              have sb := sb.trans s_15
              have r_first := r_first.mono s_15.gr
              have r_second := r_second.mono s_15.gr
              have r_value := r_value.mono s_15.gr
              have r_left_3 := r_left_3.mono s_15.gr
              have r_right_3 := r_right_3.mono s_15.gr
              have r_3 := r_3.mono s_15.gr
              have hfb := hfb.trans (cond_t hb_6)
              refine zs_ret st.ok ze_bl fun v_7 F_20 H_16 s_16 r_8 => ?_
              have hret_9 := hf.trans (outE_rt (hbe.trans (loopT_rt hfb)))
              have hret_10 : cut_rightL first second value = false := hret_9
              exact q v_7 F_20 H_16 (st.trans s_16) (by rw [hret_10]; exact r_8)
            · have s_15 : Stp F_18 [] H_14 F_19 [] H_15 := by exact s_15
              have st := st.trans s_15
              have sb := sb.trans s_15
              have r_first := r_first.mono s_15.gr
              have r_second := r_second.mono s_15.gr
              have r_value := r_value.mono s_15.gr
              have r_left_3 := r_left_3.mono s_15.gr
              have r_right_3 := r_right_3.mono s_15.gr
              have r_3 := r_3.mono s_15.gr
              have hfb := hfb.trans (cond_f hb_6)
              refine zs_nil ?_
              show ZS _ _ [some v_first, some v_second, some v_value, some v_left_2, some v_right_2, some v_2, z_row_3, none] H_15 _
              refine zs_setN (n := 3) st.ok (zn_catt (ze_var 3 rfl r_left_3) (ze_ixT (ze_var 5 rfl r_3) ze_int atI_0) (by /-2-/ rw [← szL]; omega)) sc.nd rfl (by first | exact Or.inl rfl | exact Or.inr rfl) fun p_left_2 us_left_2 F_21 H_17 hp_4 s_17 r_left_4 => ?_
              obtain ⟨left_3, hx_left_3⟩ : ∃ z : (List Int), z = (left_2 ++ pair.1) := ⟨_, rfl⟩
              have hn_3 := st.newAt hp_4
              have hn_4 := sb.newAt hp_4
              have s_17 : Stp F_19 [] H_15 F_21 [(p_left_2, .lst us_left_2)] H_17 := by exact s_17
              have r_left_4 : RA K F_21 us_left_2 (left_3.map eI) := by subst hx_left_3; exact r_left_4
              have st := st.trans s_17
              have sb := sb.trans s_17
              have r_first := r_first.mono s_17.gr
              have r_second := r_second.mono s_17.gr
              have r_value := r_value.mono s_17.gr
              have r_right_3 := r_right_3.mono s_17.gr
              have r_3 := r_3.mono s_17.gr
              have gz_3 : Gr F_21 (upd F_21 p_left_2 (.lst us_left_2)) := Gr.upd (st.ok.at_ (k := 0) rfl).2
              have r_left_5 : R K (upd F_21 p_left_2 (.lst us_left_2)) (.ref p_left_2) (eL eI left_3) := (r_left_4.mono gz_3).lst upd_same
              have st : Stp _ _ _ (upd F_21 p_left_2 (.lst us_left_2)) [] H_17 := st.freezeAt 0 rfl hn_3
              have sb : Stp _ _ _ (upd F_21 p_left_2 (.lst us_left_2)) [] H_17 := sb.freezeAt 0 rfl hn_4
              have r_first := r_first.mono gz_3
              have r_second := r_second.mono gz_3
              have r_value := r_value.mono gz_3
              have r_right_3 := r_right_3.mono gz_3
              have r_3 := r_3.mono gz_3
              show ZS _ _ [some v_first, some v_second, some v_value, some (.ref p_left_2), some v_right_2, some v_2, z_row_3, none] H_17 _
              have hfb : cut_rightL_L1 (left_2, right_2) pair = cut_rightL_4 left_3 right_2 pair := by subst hx_left_3; exact hfb
              refine zs_setN (n := 4) st.ok (zn_catt (ze_var 4 rfl r_right_3) (ze_ixT (ze_var 5 rfl r_3) ze_int atI_1) (by /-3-/ rw [← szL]; omega)) sc.nd rfl (by first | exact Or.inl rfl | exact Or.inr rfl) fun p_right_2 us_right_2 F_23 H_18 hp_5 s_18 r_right_4 => ?_
              obtain ⟨right_3, hx_right_3⟩ : ∃ z : (List Int), z = (right_2 ++ pair.2) := ⟨_, rfl⟩
              have hn_5 := st.newAt hp_5
              have hn_6 := sb.newAt hp_5
              have s_18 : Stp (upd F_21 p_left_2 (.lst us_left_2)) [] H_17 F_23 [(p_right_2, .lst us_right_2)] H_18 := by exact s_18
              have r_right_4 : RA K F_23 us_right_2 (right_3.map eI) := by subst hx_right_3; exact r_right_4
              have st := st.trans s_18
              have sb := sb.trans s_18
              have r_first := r_first.mono s_18.gr
              have r_second := r_second.mono s_18.gr
              have r_value := r_value.mono s_18.gr
              have r_3 := r_3.mono s_18.gr
              have r_left_5 := r_left_5.mono s_18.gr
              have gz_4 : Gr F_23 (upd F_23 p_right_2 (.lst us_right_2)) := Gr.upd (st.ok.at_ (k := 0) rfl).2
              have r_right_5 : R K (upd F_23 p_right_2 (.lst us_right_2)) (.ref p_right_2) (eL eI right_3) := (r_right_4.mono gz_4).lst upd_same
              have st : Stp _ _ _ (upd F_23 p_right_2 (.lst us_right_2)) [] H_18 := st.freezeAt 0 rfl hn_5
              have sb : Stp _ _ _ (upd F_23 p_right_2 (.lst us_right_2)) [] H_18 := sb.freezeAt 0 rfl hn_6
              have r_first := r_first.mono gz_4
              have r_second := r_second.mono gz_4
              have r_value := r_value.mono gz_4
              have r_3 := r_3.mono gz_4
              have r_left_5 := r_left_5.mono gz_4
              show ZS _ _ [some v_first, some v_second, some v_value, some (.ref p_left_2), some (.ref p_right_2), some v_2, z_row_3, none] H_18 _
              have hfb : cut_rightL_L1 (left_2, right_2) pair = cut_rightL_5 left_3 right_3 := by subst hx_right_3; exact hfb
              refine zs_nil ?_
              exact ⟨(left_3, right_3), _, _, hfb, sb, (.ref p_left_2), (.ref p_right_2), some v_2, z_row_3, rfl, rfl, r_left_5, r_right_5, (show left_3.length ≤ 8 * (i + 1) ∧ right_3.length ≤ 8 * (i + 1) from by rw [hx_left_3, hx_right_3, List.length_append, List.length_append]; exact ⟨by omega, by omega⟩)⟩
      · skip
        obtain ⟨left_4, right_4⟩ := b_4
        obtain ⟨v_left_4, v_right_4, z_pair_2, z_row_4, rfl, rfl, r_left_6, r_right_6, hinv_4⟩ := rel_4
        have r_left_6 : R K _ v_left_4 ((eL eI) left_4) := r_left_6
        have r_right_6 : R K _ v_right_4 ((eL eI) right_4) := r_right_6
        have st := st.trans s_20
        have r_first := r_first.mono s_20.gr
        have r_second := r_second.mono s_20.gr
        have r_value := r_value.mono s_20.gr
        have hinv_4 : left_4.length ≤ 8 * j_2 ∧ right_4.length ≤ 8 * j_2 := hinv_4
        have hf : cut_rightL first second value = (cut_rightL_6 first second) (left_4, right_4) := hf.trans (outE_nx hb_7)
        show ZS _ _ [some v_first, some v_second, some v_value, some v_left_4, some v_right_4, z_pair_2, z_row_4, none] H_20 _
        refine zs_ret st.ok (ze_and (ze_cm (cm_eqE (enc := (eL eI)) (a := (sortI left_4)) (b := (sortI first)) hr) (zn_ze (zn_sortI T.b_sorted (ze_var 3 rfl r_left_6))) (zn_ze (zn_sortI T.b_sorted (ze_var 0 rfl r_first)))) fun hb => (ze_one (ze_cm (cm_eqE (enc := (eL eI)) (a := (sortI right_4)) (b := (sortI second)) hr) (zn_ze (zn_sortI T.b_sorted (ze_var 4 rfl r_right_6))) (zn_ze (zn_sortI T.b_sorted (ze_var 1 rfl r_second)))))) fun v_8 F_27 H_21 s_21 r_9 => ?_
        exact q v_8 F_27 H_21 (st.trans s_21) (by rw [hf]; exact r_9)
/-! ### the law's judge of the cuts -/
theorem row_nx {row : List Int} (h1 : 1 ≤ row.length) (h2 : row.length ≤ 7) (h3 : row.Pairwise (· ≤ ·)) : cut_rightL_L2 () row = .nx () := by
  show cond ((!true) || (!(decide ((1 : Int) ≤ (row.length : Int)) && decide ((row.length : Int) ≤ (7 : Int))))) (Turn.rt false : Turn Unit Bool) (cond ((!((row.map (fun a_note : Int => (is_numberL a_note))).all id)) || (!decide (row = (sortI row)))) (Turn.rt false : Turn Unit Bool) (Turn.nx ())) = _
  have a : ((row.map (fun a_note : Int => (is_numberL a_note))).all id) = true := by rw [List.all_map, List.all_eq_true]; intro x _; rfl
  rw [decide_eq_true (by omega : (1 : Int) ≤ (row.length : Int)), decide_eq_true (by omega : (row.length : Int) ≤ 7), a, decide_eq_true (sortI_of h3).symm]; rfl
theorem pair_nx {left right : List Int} {q : List Int × List Int} (h : PairOk q) (h1 : q.1.length ≤ 7) (h2 : q.2.length ≤ 7) : cut_rightL_L1 (left, right) q = .nx (left ++ q.1, right ++ q.2) := by
  obtain ⟨hx, l1, l2, s1, s2, hp⟩ := h
  show cond ((!true) || (!decide ((2 : Int) = (2 : Int)))) (.rt false) (outE (loopT cut_rightL_L2 () ([q.1, q.2] : List (List Int))) (cut_rightL_3 left right q) (fun r => .rt r)) = _
  rw [loopT_nx (row_nx l1 h1 s1), loopT_nx (row_nx l2 h2 s2)]
  show cond (!(primitiveL q.1 q.2)) (.rt false) (cut_rightL_4 (left ++ q.1) right q) = _
  rw [(prim_iff hx l1 l2).mpr hp]; rfl
theorem right_loop {first second : List Int} : ∀ (cuts : Cuts) (left right : List Int), (∀ q ∈ cuts, PairOk q ∧ q.1.length ≤ 7 ∧ q.2.length ≤ 7) → outE (loopT cut_rightL_L1 (left, right) cuts) (cut_rightL_6 first second) (fun r => r) = cut_rightL_6 first second (left ++ cuts.flatMap (·.1), right ++ cuts.flatMap (·.2))
  | [], left, right, _ => by simp [loopT, outE]
  | q :: cuts, left, right, h => by
    obtain ⟨h1, h2, h3⟩ := h q List.mem_cons_self
    rw [loopT_nx (pair_nx h1 h2 h3), right_loop cuts _ _ fun r hr => h r (List.mem_cons_of_mem _ hr)]
    simp [List.append_assoc]
theorem flat_len {cuts : Cuts} (h : ∀ q ∈ cuts, PairOk q) : cuts.length ≤ (cuts.flatMap (·.1)).length := by
  induction cuts with
  | nil => exact Nat.le_refl _
  | cons q cuts ih =>
    have := ih fun r hr => h r (List.mem_cons_of_mem _ hr)
    have := (h q List.mem_cons_self).2.1
    rw [List.flatMap_cons, List.length_append, List.length_cons]; omega
theorem flat_part {α : Type} {cuts : Cuts} {f : List Int × List Int → List α} {q : List Int × List Int} (h : q ∈ cuts) : (f q).length ≤ (cuts.flatMap f).length := by
  induction cuts with
  | nil => cases h
  | cons r cuts ih =>
    rw [List.flatMap_cons, List.length_append]
    rcases List.mem_cons.mp h with rfl | z
    · exact Nat.le_add_right _ _
    · have := ih z; omega
/-- what is known of the cuts of a case -/
theorem cuts_case {first second : List Int} (h : okC first second) : (∀ q ∈ cut_exchangeP first second, PairOk q ∧ q.1.length ≤ 7 ∧ q.2.length ≤ 7 ∧ (∀ x ∈ q.1, x ≤ 1000000) ∧ ∀ x ∈ q.2, x ≤ 1000000) ∧ 1 ≤ (cut_exchangeP first second).length ∧ (cut_exchangeP first second).length ≤ 7 := by
  obtain ⟨hx, l1, l2, l3, l4, b1, b2⟩ := h
  have c := cuts_ok hx
  have p1 := c.p1
  have p2 := c.p2
  rw [List.append_nil] at p1 p2
  refine ⟨fun q hq => ?_, ?_, ?_⟩
  · have m1 : q.1.length ≤ _ := flat_part (f := fun q => q.1) hq
    have m2 : q.2.length ≤ _ := flat_part (f := fun q => q.2) hq
    rw [p1.length_eq] at m1
    rw [p2.length_eq] at m2
    exact ⟨c.each q hq, by omega, by omega, fun x hx => b1 x (p1.mem_iff.mp (List.mem_flatMap.mpr ⟨q, hq, hx⟩)), fun x hx => b2 x (p2.mem_iff.mp (List.mem_flatMap.mpr ⟨q, hq, hx⟩))⟩
  · cases e : cut_exchangeP first second with
    | nil => rw [e] at p1; have := p1.length_eq; simp at this; omega
    | cons a b => exact Nat.succ_le_succ (Nat.zero_le _)
  · have := flat_len c.each
    rw [p1.length_eq] at this; omega
theorem right_ok {first second : List Int} (h : okC first second) : cut_rightL first second (cut_exchangeP first second) = true := by
  obtain ⟨hq, h1, h2⟩ := cuts_case h
  have c := cuts_ok h.1
  have p1 := c.p1
  have p2 := c.p2
  rw [List.append_nil] at p1 p2
  unfold cut_rightL
  rw [decide_eq_true (by omega : (1 : Int) ≤ ((cut_exchangeP first second).length : Int)), decide_eq_true (by omega : ((cut_exchangeP first second).length : Int) ≤ 7)]
  show outE (loopT cut_rightL_L1 ([], []) (cut_exchangeP first second)) (cut_rightL_6 first second) (fun r => r) = true
  rw [right_loop _ _ _ fun q m => ⟨(hq q m).1, (hq q m).2.1, (hq q m).2.2.1⟩]
  have srt : ∀ {xs ys : List Int}, xs.Perm ys → sortI xs = sortI ys := fun {xs ys} h => sorted_unique (((sortI_perm xs).trans h).trans (sortI_perm ys).symm) (sortI_sorted _) (sortI_sorted _)
  show (decide (sortI ([] ++ (cut_exchangeP first second).flatMap (·.1)) = sortI first) && decide (sortI ([] ++ (cut_exchangeP first second).flatMap (·.2)) = sortI second)) = true
  rw [List.nil_append, List.nil_append, decide_eq_true (srt p1), decide_eq_true (srt p2)]; rfl
theorem whole_eq {xs ys : List Int} (h : okC xs ys) : primitiveL xs ys = decide (((cut_exchangeP xs ys).length : Int) = 1) := by
  have a := prim_iff h.1 h.2.1 h.2.2.2.1
  have b := cuts_one h.1 h.2.1
  cases e : primitiveL xs ys with
  | true => exact (decide_eq_true (by have := b.mpr (a.mp e); omega)).symm
  | false =>
    refine (decide_eq_false fun z => ?_).symm
    have := a.mpr (b.mp (by omega))
    rw [e] at this; cases this
theorem pair_judged {q : List Int × List Int} (h : PairOk q) (b1 : ∀ x ∈ q.1, x ≤ 1000000) (b2 : ∀ x ∈ q.2, x ≤ 1000000) : q.1.length ≤ 8 ∧ q.2.length ≤ 8 ∧ true = is_primitiveP q.1 q.2 ∧ true = is_primitiveP q.2 q.1 := by
  obtain ⟨hx, l1, l2, _, _, hp⟩ := h
  have e := (prim_iff hx l1 l2).mpr hp
  exact ⟨hx.2.2.2.1, hx.2.2.2.2, by rw [is_prim_eq hx l1 l2 b2, e], by rw [is_prim_eq (okX_symm hx) l2 l1 b1, prim_symm hx l1 l2, e]⟩
theorem one_more {xs ys : List Int} (h : okC xs ys) (h7 : (ys.length : Int) < 7) : xs.length ≤ 8 ∧ (ys ++ ([(1 : Int)] : List Int)).length ≤ 8 ∧ false = is_primitiveP xs (ys ++ ([(1 : Int)] : List Int)) ∧ false = is_primitiveP (ys ++ ([(1 : Int)] : List Int)) xs := by
  have e : (ys ++ ([(1 : Int)] : List Int)).sum = ys.sum + 1 := by rw [List.sum_append]; simp
  have s := h.1.2.2.1
  refine ⟨h.1.2.2.2.1, by rw [List.length_append]; show _ + 1 ≤ 8; omega, (is_prim_ne (by rw [e]; omega)).symm, (is_prim_ne (by rw [e]; omega)).symm⟩
theorem whole_judged {xs ys : List Int} (h : okC xs ys) : xs.length ≤ 8 ∧ ys.length ≤ 8 ∧ primitiveL xs ys = is_primitiveP xs ys ∧ primitiveL xs ys = is_primitiveP ys xs := by
  obtain ⟨hX, k1, k2, k3, k4, b1, b2⟩ := h
  exact ⟨by omega, by omega, (is_prim_eq hX k1 k3 b2).symm, by rw [is_prim_eq (okX_symm hX) k3 k1 b1, prim_symm hX k1 k3]⟩
theorem cutD_sub {α : Type} {xs : List α} {lo hi : Option Int} {x : α} (h : x ∈ Z.cutD xs lo hi) : x ∈ xs := by
  unfold Z.cutD at h
  exact List.mem_of_mem_drop (List.mem_of_mem_take h)

/-! _law_judged -/
abbrev s_judgedL : Stmt := topS 27
theorem sc_judgedL : FnScope ["first", "second", "due", "one", "two"] ["first", "second", "due"] (defScope s_judgedL) := ⟨rfl, rfl, rfl, by decide +kernel, rfl, by decide +kernel, by decide +kernel⟩
def judgedL_2 : Bool :=
  true
def judgedL_1 : Bool :=
  judgedL_2
def judgedL (first : (List Int)) (second : (List Int)) (due : Bool) : Bool :=
  judgedL_1
def A_judgedL : List PyData → PyData → Prop := fun ds r => ∃ (first : (List Int)) (second : (List Int)) (due : Bool), ds = [(eL eI) first, (eL eI) second, eB due] ∧ (first.length ≤ 8 ∧ second.length ≤ 8 ∧ due = is_primitiveP first second ∧ due = is_primitiveP second first) ∧ r = eB true
set_option maxHeartbeats 4000000 in
theorem ok_judgedL {P : Program} {w : World} {K : PySem.W.Frag} {mg : Str → Option Value} {base : Heap} (T : Top K mg) : Fn P w K mg base 4 "_law_judged" ["first", "second", "due"] (spD K A_judgedL) := by
  obtain ⟨f, fd, F, gm⟩ := T.f_judgedL
  have sc := sc_judgedL
  refine ⟨f, fd, F.ok sc (fun vs H Q E h => ?_) (fun cdv A outer s0 H vs Q E hr h => ⟨_, PSs.nox pss_w, ?_⟩), gm, F.kp, F.bindsN (fun _ _ _ _ _ _ us hl => match us, hl with | [_, _, _], _ => rfl)⟩
  · obtain ⟨F, ds, r, w, ra, ⟨first, second, due, rfl, hpre, rfl⟩, q⟩ := h
    exact ra.len
  · obtain ⟨F, ds, r, w, ra, ⟨first, second, due, rfl, hpre, rfl⟩, q⟩ := h
    obtain ⟨v_first, ws, rfl, r_first, ra⟩ := ra.cons_inv
    obtain ⟨v_second, ws, rfl, r_second, ra⟩ := ra.cons_inv
    obtain ⟨v_due, ws, rfl, r_due, ra⟩ := ra.cons_inv
    obtain rfl := ra.nil_inv
    have st := Stp.refl w
    obtain ⟨hl1, hl2, hd1, hd2⟩ := id hpre
    have hf : judgedL first second due = judgedL first second due := rfl
    show ZS _ _ [some v_first, some v_second, some v_due, none, none] H _
    refine zs_setN (n := 3) st.ok (zn_list T.b_list (ze_var 0 rfl r_first)) sc.nd rfl (by first | exact Or.inl rfl | exact Or.inr rfl) fun p_one us_one F_2 H_2 hp_2 s_2 r_one => ?_
    obtain ⟨one, hx_one⟩ : ∃ z : (List Int), z = first := ⟨_, rfl⟩
    have hn := st.newAt hp_2
    have s_2 : Stp F [] H F_2 [(p_one, .lst us_one)] H_2 := by exact s_2
    have r_one : RA K F_2 us_one (one.map eI) := by subst hx_one; exact r_one
    have st := st.trans s_2
    have r_first := r_first.mono s_2.gr
    have r_second := r_second.mono s_2.gr
    have r_due := r_due.mono s_2.gr
    have gz : Gr F_2 (upd F_2 p_one (.lst us_one)) := Gr.upd (st.ok.at_ (k := 0) rfl).2
    have r_one_2 : R K (upd F_2 p_one (.lst us_one)) (.ref p_one) (eL eI one) := (r_one.mono gz).lst upd_same
    have st : Stp _ _ _ (upd F_2 p_one (.lst us_one)) [] H_2 := st.freezeAt 0 rfl hn
    have r_first := r_first.mono gz
    have r_second := r_second.mono gz
    have r_due := r_due.mono gz
    show ZS _ _ [some v_first, some v_second, some v_due, some (.ref p_one), none] H_2 _
    have hf : judgedL first second due = judgedL_1 := by subst hx_one; exact hf
    refine zs_setN (n := 4) st.ok (zn_list T.b_list (ze_var 1 rfl r_second)) sc.nd rfl (by first | exact Or.inl rfl | exact Or.inr rfl) fun p_two us_two F_4 H_3 hp_3 s_3 r_two => ?_
    obtain ⟨two, hx_two⟩ : ∃ z : (List Int), z = second := ⟨_, rfl⟩
    have hn_2 := st.newAt hp_3
    have s_3 : Stp (upd F_2 p_one (.lst us_one)) [] H_2 F_4 [(p_two, .lst us_two)] H_3 := by exact s_3
    have r_two : RA K F_4 us_two (two.map eI) := by subst hx_two; exact r_two
    have st := st.trans s_3
    have r_first := r_first.mono s_3.gr
    have r_second := r_second.mono s_3.gr
    have r_due := r_due.mono s_3.gr
    have r_one_2 := r_one_2.mono s_3.gr
    have gz_2 : Gr F_4 (upd F_4 p_two (.lst us_two)) := Gr.upd (st.ok.at_ (k := 0) rfl).2
    have r_two_2 : R K (upd F_4 p_two (.lst us_two)) (.ref p_two) (eL eI two) := (r_two.mono gz_2).lst upd_same
    have st : Stp _ _ _ (upd F_4 p_two (.lst us_two)) [] H_3 := st.freezeAt 0 rfl hn_2
    have r_first := r_first.mono gz_2
    have r_second := r_second.mono gz_2
    have r_due := r_due.mono gz_2
    have r_one_2 := r_one_2.mono gz_2
    show ZS _ _ [some v_first, some v_second, some v_due, some (.ref p_one), some (.ref p_two)] H_3 _
    have hf : judgedL first second due = judgedL_2 := by subst hx_two; exact hf
    have e1 : one = first := hx_one
    have e2 : two = second := hx_two
    refine zs_ifF st.ok (zt_eq (zt_w (zw_or (zt_not (zt_val (ze_callD (ok_same T) (hr.mono (by decide)) (za_cons (ze_callD (ok_is_primitiveP T) (hr.mono (by decide)) (za_cons (ze_var 3 rfl r_one_2) (za_cons (ze_var 4 rfl r_two_2) za_nil)) ⟨one, two, rfl, (by /-1-/ rw [e1, e2]; exact ⟨hl1, hl2⟩), rfl⟩) (za_cons (ze_var 2 rfl r_due) za_nil)) (A_same_of (a := (eB (is_primitiveP one two))) (b := (eB due)) (congrArg eB (show due = (is_primitiveP one two) from (by /-2-/ rw [e1, e2]; exact hd1))) (by /-3-/ first | ((simp only [szI, szB, szS, szLn, szLI, szLS, szLB, szOI, szOS, szT2, szD, szC, szN, List.map_cons, List.map_nil, List.length_append, List.length_cons, List.length_nil, List.length_map, rangeI_length]; omega)) | (first | omega | (rw [← szL]; omega) | (simp only [List.length_append, List.length_cons, List.length_nil, List.length_map, rangeI_length, ← szL]; omega))))))) fun hb => (zw_or1 (zt_not (zt_val (ze_callD (ok_same T) (hr.mono (by decide)) (za_cons (ze_callD (ok_is_primitiveP T) (hr.mono (by decide)) (za_cons (ze_var 4 rfl r_two_2) (za_cons (ze_var 3 rfl r_one_2) za_nil)) ⟨two, one, rfl, (by /-4-/ rw [e1, e2]; exact ⟨hl2, hl1⟩), rfl⟩) (za_cons (ze_var 2 rfl r_due) za_nil)) (A_same_of (a := (eB (is_primitiveP two one))) (b := (eB due)) (congrArg eB (show due = (is_primitiveP two one) from (by /-5-/ rw [e1, e2]; exact hd2))) (by /-6-/ first | ((simp only [szI, szB, szS, szLn, szLI, szLS, szLB, szOI, szOS, szT2, szD, szC, szN, List.map_cons, List.map_nil, List.length_append, List.length_cons, List.length_nil, List.length_map, rangeI_length]; omega)) | (first | omega | (rw [← szL]; omega) | (simp only [List.length_append, List.length_cons, List.length_nil, List.length_map, rangeI_length, ← szL]; omega)))))))))) (by simp)) fun F_6 H_4 s_4 => ?_
    have s_4 : Stp (upd F_4 p_two (.lst us_two)) [] H_3 F_6 [] H_4 := by exact s_4
    have st := st.trans s_4
    have r_first := r_first.mono s_4.gr
    have r_second := r_second.mono s_4.gr
    have r_due := r_due.mono s_4.gr
    have r_one_2 := r_one_2.mono s_4.gr
    have r_two_2 := r_two_2.mono s_4.gr
    refine zs_nil ?_
    show ZS _ _ [some v_first, some v_second, some v_due, some (.ref p_one), some (.ref p_two)] H_4 _
    refine zs_ret st.ok (ze_eqB (k1 := (true && true)) (k := true) (ze_and (ze_callD (ok_same T) (hr.mono (by decide)) (za_cons (ze_var 3 rfl r_one_2) (za_cons (ze_var 0 rfl r_first) za_nil)) (A_same_of (a := ((eL eI) one)) (b := ((eL eI) first)) (congrArg (eL eI) (show first = one from (by /-7-/ exact e1.symm))) (by /-8-/ rw [e1]; simp only [szI, szB, szS, szLn, szLI, szLS, szLB, szOI, szOS, szT2, szD, szC, szN, List.map_cons, List.map_nil, List.length_append, List.length_cons, List.length_nil, List.length_map, rangeI_length]; omega))) fun hb => (ze_one (ze_callD (ok_same T) (hr.mono (by decide)) (za_cons (ze_var 4 rfl r_two_2) (za_cons (ze_var 1 rfl r_second) za_nil)) (A_same_of (a := ((eL eI) two)) (b := ((eL eI) second)) (congrArg (eL eI) (show second = two from (by /-9-/ exact e2.symm))) (by /-10-/ rw [e2]; simp only [szI, szB, szS, szLn, szLI, szLS, szLB, szOI, szOS, szT2, szD, szC, szN, List.map_cons, List.map_nil, List.length_append, List.length_cons, List.length_nil, List.length_map, rangeI_length]; omega))))) (by simp)) fun v F_7 H_5 s_5 r_2 => ?_
    exact q v F_7 H_5 (st.trans s_5) r_2
/-! _law_case_holds -/
abbrev s_case_holdsL : Stmt := topS 28
theorem sc_case_holdsL : FnScope ["case", "whole", "one", "two", "told", "pair", "row", "first", "second"] ["case"] (defScope s_case_holdsL) := ⟨rfl, rfl, rfl, by decide +kernel, rfl, by decide +kernel, by decide +kernel⟩
def case_holdsL_L1b : Unit :=
  ()
def case_holdsL_L1 (b : Unit) (a : ((List Int) × (List Int))) : Unit :=
  case_holdsL_L1b
def case_holdsL_6 (b : Unit) : Bool :=
  true
def case_holdsL_5 (told : (List ((List Int) × (List Int)))) : Bool :=
  case_holdsL_6 (List.foldl case_holdsL_L1 () told)
def case_holdsL_4 (one : (List Int)) (two : (List Int)) : Bool :=
  case_holdsL_5 (cut_exchangeP one two)
def case_holdsL_3 (one : (List Int)) (second : (List Int)) : Bool :=
  case_holdsL_4 one second
def case_holdsL_2 (first : (List Int)) (second : (List Int)) : Bool :=
  case_holdsL_3 first second
def case_holdsL_1 (first : (List Int)) (second : (List Int)) : Bool :=
  case_holdsL_2 first second
def case_holdsL (case : ((List Int) × (List Int))) : Bool :=
  case_holdsL_1 case.1 case.2
def A_case_holdsL : List PyData → PyData → Prop := fun ds r => ∃ (case : ((List Int) × (List Int))), ds = [(eT2 (eL eI) (eL eI)) case] ∧ (okC case.1 case.2) ∧ r = eB true
set_option maxHeartbeats 4000000 in
theorem ok_case_holdsL {P : Program} {w : World} {K : PySem.W.Frag} {mg : Str → Option Value} {base : Heap} (T : Top K mg) : Fn P w K mg base 5 "_law_case_holds" ["case"] (spD K A_case_holdsL) := by
  obtain ⟨f, fd, F, gm⟩ := T.f_case_holdsL
  have sc := sc_case_holdsL
  refine ⟨f, fd, F.ok sc (fun vs H Q E h => ?_) (fun cdv A outer s0 H vs Q E hr h => ⟨_, PSs.nox pss_w, ?_⟩), gm, F.kp, F.bindsN (fun _ _ _ _ _ _ us hl => match us, hl with | [_], _ => rfl)⟩
  · obtain ⟨F, ds, r, w, ra, ⟨case, rfl, hpre, rfl⟩, q⟩ := h
    exact ra.len
  · obtain ⟨F, ds, r, w, ra, ⟨case, rfl, hpre, rfl⟩, q⟩ := h
    obtain ⟨v_case, ws, rfl, r_case, ra⟩ := ra.cons_inv
    obtain rfl := ra.nil_inv
    have st := Stp.refl w
    have hf : case_holdsL case = case_holdsL case := rfl
    show ZS _ _ [some v_case, none, none, none, none, none, none, none, none] H _
    refine zs_asg st.ok (ze_var 0 rfl r_case) fun v F_2 H_2 s_2 r_2 => ?_
    obtain ⟨first, hx_first⟩ : ∃ z : (List Int), z = case.1 := ⟨_, rfl⟩
    obtain ⟨second, hx_second⟩ : ∃ z : (List Int), z = case.2 := ⟨_, rfl⟩
    have s_2 : Stp F [] H F_2 [] H_2 := by exact s_2
    have st := st.trans s_2
    have r_case := r_case.mono s_2.gr
    refine zg_tup2 (n := 7) (m := 8) (F := F_2) rfl sc.nd rfl (by first | exact Or.inl rfl | exact Or.inr rfl) rfl (by first | exact Or.inl rfl | exact Or.inr rfl) (show R K F_2 v (.tuple [(eL eI) first, (eL eI) second]) from by subst hx_first; subst hx_second; exact r_2) st.ok fun v_first v_second r_first r_second => ?_
    show ZS _ _ [some v_case, none, none, none, none, none, none, some v_first, some v_second] H_2 _
    have hf : case_holdsL case = case_holdsL_1 first second := by subst hx_first; subst hx_second; exact hf
    have hC : okC first second := by rw [hx_first, hx_second]; exact hpre
    obtain ⟨hX, k1, k2, k3, k4, b1, b2⟩ := id hC
    refine zs_set (n := 1) st.ok (ze_callD (ok_primitiveL T) (hr.mono (by decide)) (za_cons (ze_var 7 rfl r_first) (za_cons (ze_var 8 rfl r_second) za_nil)) ⟨first, second, rfl, (by /-1-/ exact ⟨by omega, by omega⟩), rfl⟩) sc.nd rfl (by first | exact Or.inl rfl | exact Or.inr rfl) fun v_whole F_3 H_3 s_3 r_whole => ?_
    obtain ⟨whole, hx_whole⟩ : ∃ z : Bool, z = (primitiveL first second) := ⟨_, rfl⟩
    have s_3 : Stp F_2 [] H_2 F_3 [] H_3 := by exact s_3
    have r_whole : R K F_3 v_whole (eB whole) := by subst hx_whole; exact r_whole
    have st := st.trans s_3
    have r_case := r_case.mono s_3.gr
    have r_first := r_first.mono s_3.gr
    have r_second := r_second.mono s_3.gr
    show ZS _ _ [some v_case, some v_whole, none, none, none, none, none, some v_first, some v_second] H_3 _
    have hf : case_holdsL case = case_holdsL_2 first second := by subst hx_whole; exact hf
    refine zs_ifF st.ok (zt_eq (zt_not (zt_val (ze_callD (ok_judgedL T) (hr.mono (by decide)) (za_cons (ze_var 7 rfl r_first) (za_cons (ze_var 8 rfl r_second) (za_cons (ze_var 1 rfl r_whole) za_nil))) ⟨first, second, whole, rfl, (by /-2-/ rw [hx_whole]; exact whole_judged hC), rfl⟩))) (by simp)) fun F_4 H_4 s_4 => ?_
    have s_4 : Stp F_3 [] H_3 F_4 [] H_4 := by exact s_4
    have st := st.trans s_4
    have r_case := r_case.mono s_4.gr
    have r_first := r_first.mono s_4.gr
    have r_second := r_second.mono s_4.gr
    have r_whole := r_whole.mono s_4.gr
    refine zs_nil ?_
    show ZS _ _ [some v_case, some v_whole, none, none, none, none, none, some v_first, some v_second] H_4 _
    refine zs_ifF st.ok (zt_eq (zt_w (zw_and (zt_cm cm_lt (ze_lenLt T.b_len (ze_var 8 rfl r_second)) ze_int) fun hb => (zw_and1 (zt_not (zt_val (ze_callD (ok_judgedL T) (hr.mono (by decide)) (za_cons (ze_var 7 rfl r_first) (za_cons (zn_ze (zn_catt (ze_var 8 rfl r_second) (zn_ze (zn_lstt (enc := eI) (xs := ([(1 : Int)] : List Int)) (za_cons ze_int za_nil))) (by /-3-/ rw [← szL]; show _ + 1 ≤ _; omega))) (za_cons ze_bl za_nil))) ⟨first, (second ++ ([(1 : Int)] : List Int)), false, rfl, (by /-4-/ exact one_more hC (of_decide_eq_true hb)), rfl⟩)))))) (by simp)) fun F_5 H_5 s_5 => ?_
    have s_5 : Stp F_4 [] H_4 F_5 [] H_5 := by exact s_5
    have st := st.trans s_5
    have r_case := r_case.mono s_5.gr
    have r_first := r_first.mono s_5.gr
    have r_second := r_second.mono s_5.gr
    have r_whole := r_whole.mono s_5.gr
    refine zs_nil ?_
    show ZS _ _ [some v_case, some v_whole, none, none, none, none, none, some v_first, some v_second] H_5 _
    refine zs_setN (n := 2) st.ok (zn_list T.b_list (ze_var 7 rfl r_first)) sc.nd rfl (by first | exact Or.inl rfl | exact Or.inr rfl) fun p_one us_one F_6 H_6 hp_2 s_6 r_one => ?_
    obtain ⟨one, hx_one⟩ : ∃ z : (List Int), z = first := ⟨_, rfl⟩
    have hn := st.newAt hp_2
    have s_6 : Stp F_5 [] H_5 F_6 [(p_one, .lst us_one)] H_6 := by exact s_6
    have r_one : RA K F_6 us_one (one.map eI) := by subst hx_one; exact r_one
    have st := st.trans s_6
    have r_case := r_case.mono s_6.gr
    have r_first := r_first.mono s_6.gr
    have r_second := r_second.mono s_6.gr
    have r_whole := r_whole.mono s_6.gr
    have gz : Gr F_6 (upd F_6 p_one (.lst us_one)) := Gr.upd (st.ok.at_ (k := 0) rfl).2
    have r_one_2 : R K (upd F_6 p_one (.lst us_one)) (.ref p_one) (eL eI one) := (r_one.mono gz).lst upd_same
    have st : Stp _ _ _ (upd F_6 p_one (.lst us_one)) [] H_6 := st.freezeAt 0 rfl hn
    have r_case := r_case.mono gz
    have r_first := r_first.mono gz
    have r_second := r_second.mono gz
    have r_whole := r_whole.mono gz
    show ZS _ _ [some v_case, some v_whole, some (.ref p_one), none, none, none, none, some v_first, some v_second] H_6 _
    have hf : case_holdsL case = case_holdsL_3 one second := by subst hx_one; exact hf
    refine zs_setN (n := 3) st.ok (zn_list T.b_list (ze_var 8 rfl r_second)) sc.nd rfl (by first | exact Or.inl rfl | exact Or.inr rfl) fun p_two us_two F_8 H_7 hp_3 s_7 r_two => ?_
    obtain ⟨two, hx_two⟩ : ∃ z : (List Int), z = second := ⟨_, rfl⟩
    have hn_2 := st.newAt hp_3
    have s_7 : Stp (upd F_6 p_one (.lst us_one)) [] H_6 F_8 [(p_two, .lst us_two)] H_7 := by exact s_7
    have r_two : RA K F_8 us_two (two.map eI) := by subst hx_two; exact r_two
    have st := st.trans s_7
    have r_case := r_case.mono s_7.gr
    have r_first := r_first.mono s_7.gr
    have r_second := r_second.mono s_7.gr
    have r_whole := r_whole.mono s_7.gr
    have r_one_2 := r_one_2.mono s_7.gr
    have gz_2 : Gr F_8 (upd F_8 p_two (.lst us_two)) := Gr.upd (st.ok.at_ (k := 0) rfl).2
    have r_two_2 : R K (upd F_8 p_two (.lst us_two)) (.ref p_two) (eL eI two) := (r_two.mono gz_2).lst upd_same
    have st : Stp _ _ _ (upd F_8 p_two (.lst us_two)) [] H_7 := st.freezeAt 0 rfl hn_2
    have r_case := r_case.mono gz_2
    have r_first := r_first.mono gz_2
    have r_second := r_second.mono gz_2
    have r_whole := r_whole.mono gz_2
    have r_one_2 := r_one_2.mono gz_2
    show ZS _ _ [some v_case, some v_whole, some (.ref p_one), some (.ref p_two), none, none, none, some v_first, some v_second] H_7 _
    have hf : case_holdsL case = case_holdsL_4 one two := by subst hx_two; exact hf
    have k_case := r_case
    have k_first := r_first
    have k_second := r_second
    have k_whole := r_whole
    have k_one := r_one_2
    have k_two := r_two_2
    have kw := st.ok
    have cst : Stp (upd F_8 p_two (.lst us_two)) [] H_7 (upd F_8 p_two (.lst us_two)) [] H_7 := Stp.refl kw
    have kb := st
    refine zs_setDD (m := 4) st.ok (ok_cut_exchangeP T) (hr.mono (by decide)) (za_cons (ze_var 2 rfl r_one_2) (za_cons (ze_var 3 rfl r_two_2) za_nil)) ⟨one, two, rfl, (by /-5-/ rw [hx_one, hx_two]; exact hX), rfl⟩ sc.nd rfl (by first | exact Or.inl rfl | exact Or.inr rfl) fun v_told F_10 H_8 Fn s_8 gn hnew rn_told => ?_
    obtain ⟨told, hx_told⟩ : ∃ z : (List ((List Int) × (List Int))), z = (cut_exchangeP one two) := ⟨_, rfl⟩
    have rn_told : R K Fn v_told ((eL (eT2 (eL eI) (eL eI))) told) := by subst hx_told; exact rn_told
    have r_told := rn_told.mono gn
    have s_8 : Stp (upd F_8 p_two (.lst us_two)) [] H_7 F_10 [] H_8 := by exact s_8
    have st := st.trans s_8
    have cst := cst.trans s_8
    have r_case := r_case.mono s_8.gr
    have r_first := r_first.mono s_8.gr
    have r_second := r_second.mono s_8.gr
    have r_whole := r_whole.mono s_8.gr
    have r_one_2 := r_one_2.mono s_8.gr
    have r_two_2 := r_two_2.mono s_8.gr
    show ZS _ _ [some v_case, some v_whole, some (.ref p_one), some (.ref p_two), some v_told, none, none, some v_first, some v_second] H_8 _
    have hf : case_holdsL case = case_holdsL_5 told := by subst hx_told; exact hf
    have ht : told = cut_exchangeP first second := by rw [hx_told, hx_one, hx_two]
    have hcc := cuts_case hC
    have hcr : cut_rightL first second told = true := by rw [ht]; exact right_ok hC
    have hwh : whole = decide ((told.length : Int) = 1) := by rw [hx_whole, ht]; exact whole_eq hC
    have e1 : one = first := hx_one
    have e2 : two = second := hx_two
    refine zs_ifF st.ok (zt_eq (zt_w (zw_or (zt_not (zt_val (ze_callD (ok_cut_rightL T) (hr.mono (by decide)) (za_cons (ze_var 7 rfl r_first) (za_cons (ze_var 8 rfl r_second) (za_cons (ze_var 4 rfl r_told) za_nil))) ⟨first, second, told, rfl, (by /-6-/ rw [ht]; exact ⟨by omega, by omega, by have h8 := hcc.2.2; omega, fun p hp => ⟨by have h8 := (hcc.1 p hp).2.1; omega, by have h8 := (hcc.1 p hp).2.2.1; omega⟩⟩), rfl⟩))) fun hb => (zw_or1 (zt_cm cm_neB (ze_var 1 rfl r_whole) (ze_cm cm_eqI (ze_lenLt T.b_len (ze_var 4 rfl r_told)) ze_int))))) (by rw [hcr, ← hwh]; simp)) fun F_11 H_9 s_9 => ?_
    have s_9 : Stp F_10 [] H_8 F_11 [] H_9 := by exact s_9
    have st := st.trans s_9
    have cst := cst.trans s_9
    have r_case := r_case.mono s_9.gr
    have r_first := r_first.mono s_9.gr
    have r_second := r_second.mono s_9.gr
    have r_whole := r_whole.mono s_9.gr
    have r_one_2 := r_one_2.mono s_9.gr
    have r_two_2 := r_two_2.mono s_9.gr
    have r_told := r_told.mono s_9.gr
    have gn := gn.trans s_9.gr
    refine zs_nil ?_
    show ZS _ _ [some v_case, some v_whole, some (.ref p_one), some (.ref p_two), some v_told, none, none, some v_first, some v_second] H_9 _
    refine zs_forF (f := case_holdsL_L1) (b0 := ()) st.ok PassesOwn.never rfl (zi_list (ze_var 4 rfl r_told)) (fun iq b σ F O => ∃ (z1 : Option V), σ = [some v_case, some v_whole, some (.ref p_one), some (.ref p_two), some v_told, z1, none, some v_first, some v_second] ∧ O = [] ∧ True) (fun F_20 H_17 s_17 => ⟨none, rfl, rfl, trivial⟩) (fun i b pair v_2 σ F_12 F_13 O_2 H_10 ha hbe hz rel g s_10 r_3 => ?_) (fun σ_2 F_15 O_3 H_12 s_12 rel_2 => ?_)
    · skip
      obtain ⟨z_pair, rfl, rfl, hinv⟩ := rel
      have st := st.trans s_10
      have cst := cst.trans s_10
      have r_case := r_case.mono s_10.gr
      have r_first := r_first.mono s_10.gr
      have r_second := r_second.mono s_10.gr
      have r_whole := r_whole.mono s_10.gr
      have r_one_2 := r_one_2.mono s_10.gr
      have r_two_2 := r_two_2.mono s_10.gr
      have r_told := r_told.mono s_10.gr
      have gn := gn.trans s_10.gr
      have hlt_i := (List.getElem?_eq_some_iff.mp ha).1
      have sb : Stp F_13 [] H_10 F_13 [] H_10 := Stp.refl st.ok
      have hfb : case_holdsL_L1 () pair = case_holdsL_L1b := rfl
      refine zg_name (n := 5) sc.nd rfl (by first | exact Or.inl rfl | exact Or.inr rfl) ?_
      have hpm := hcc.1 pair (by rw [← ht]; exact List.mem_of_getElem? ha)
      show ZS _ _ [some v_case, some v_whole, some (.ref p_one), some (.ref p_two), some v_told, some v_2, none, some v_first, some v_second] H_10 _
      refine zs_ifF st.ok (zt_eq (zt_not (zt_val (ze_callD (ok_judgedL T) (hr.mono (by decide)) (za_cons (ze_ixT (ze_var 5 rfl r_3) ze_int atI_0) (za_cons (ze_ixT (ze_var 5 rfl r_3) ze_int atI_1) (za_cons ze_bl za_nil))) ⟨pair.1, pair.2, true, rfl, (by /-7-/ exact pair_judged hpm.1 hpm.2.2.2.1 hpm.2.2.2.2), rfl⟩))) (by simp)) fun F_14 H_11 s_11 => ?_
      have s_11 : Stp F_13 [] H_10 F_14 [] H_11 := by exact s_11
      have st := st.trans s_11
      have cst := cst.trans s_11
      have sb := sb.trans s_11
      have r_case := r_case.mono s_11.gr
      have r_first := r_first.mono s_11.gr
      have r_second := r_second.mono s_11.gr
      have r_whole := r_whole.mono s_11.gr
      have r_one_2 := r_one_2.mono s_11.gr
      have r_two_2 := r_two_2.mono s_11.gr
      have r_told := r_told.mono s_11.gr
      have gn := gn.trans s_11.gr
      have r_3 := r_3.mono s_11.gr
      refine zs_nil ?_
      show ZS _ _ [some v_case, some v_whole, some (.ref p_one), some (.ref p_two), some v_told, some v_2, none, some v_first, some v_second] H_11 _
      refine zs_nil ?_
      exact ⟨_, _, sb, by (try rw [hfb]); exact ⟨some v_2, rfl, rfl, trivial⟩⟩
    · skip
      obtain ⟨b_2, hb⟩ : ∃ z : Unit, z = List.foldl case_holdsL_L1 () told := ⟨_, rfl⟩
      try rw [← hb] at rel_2
      obtain ⟨z_pair_2, rfl, rfl, hinv_2⟩ := rel_2
      have st := st.trans s_12
      have cst := cst.trans s_12
      have r_case := r_case.mono s_12.gr
      have r_first := r_first.mono s_12.gr
      have r_second := r_second.mono s_12.gr
      have r_whole := r_whole.mono s_12.gr
      have r_one_2 := r_one_2.mono s_12.gr
      have r_two_2 := r_two_2.mono s_12.gr
      have r_told := r_told.mono s_12.gr
      have gn := gn.trans s_12.gr
      have hf : case_holdsL case = case_holdsL_6 () := hf
      show ZS _ _ [some v_case, some v_whole, some (.ref p_one), some (.ref p_two), some v_told, z_pair_2, none, some v_first, some v_second] H_12 _
      have ht7 : told.length ≤ 7 := by rw [ht]; exact hcc.2.2
      have ht1 : 1 ≤ told.length := by rw [ht]; exact hcc.2.1
      have hr7 : (ixL told (0 : Int)).1.length ≤ 7 := (hcc.1 _ (by rw [← ht]; exact ixL_mem (by omega))).2.1
      have wn := WOk.small st.ok gn
      refine zs_set (n := 6) wn (ze_ixT (ze_ixLt (enc := (eT2 (eL eI) (eL eI))) (ze_var 4 rfl rn_told) ze_int (by /-8-/ omega)) ze_int atI_0) sc.nd rfl (by first | exact Or.inl rfl | exact Or.inr rfl) fun v_row F_16 H_13 s_13 r_row => ?_
      obtain ⟨q_row, vs_row, rfl, e, a_2⟩ := R.lst_inv (show R K F_16 v_row (.list (List.map eI ((ixL told (0 : Int)).1))) from r_row)
      have hs := Stp.un st.ok gn s_13
      have hqc := (s_13.fr q_row _ e).elim (fun z => hnew q_row _ z) (fun z => none_back cst z)
      have fc := sub_none kw Gr.refl hqc
      have hH := s_13.ok.sub _ _ e
      have hnk := not_key s_13.ok e
      obtain ⟨p_told, u_told, hv_p_told, e_2, a_3⟩ := R.lst_inv (show R K Fn v_told (.list (List.map (eT2 (eL eI) (eL eI)) told)) from rn_told)
      subst hv_p_told
      have hH_2 := s_13.ok.sub _ _ (s_13.gr _ _ e_2)
      have hqc_2 := hnew p_told _ e_2
      have fc_2 := sub_none kw Gr.refl hqc_2
      have hnk_2 := not_key s_13.ok (s_13.gr _ _ e_2)
      have st := st.trans hs.1
      have cst := cst.trans hs.1
      have r_case := r_case.mono hs.2
      have r_first := r_first.mono hs.2
      have r_second := r_second.mono hs.2
      have r_whole := r_whole.mono hs.2
      have r_one_2 := r_one_2.mono hs.2
      have r_two_2 := r_two_2.mono hs.2
      have r_told := r_told.mono hs.2
      have gn := gn.trans hs.2
      have hl_q_row : vs_row.length ≤ ((ixL told (0 : Int)).1).length := by rw [a_2.len, List.length_map]; exact Nat.le_refl _
      have hl_p_told : u_told.length ≤ told.length := by rw [a_3.len, List.length_map]; exact Nat.le_refl _
      show ZS _ _ [some v_case, some v_whole, some (.ref p_one), some (.ref p_two), some (.ref p_told), z_pair_2, some (.ref q_row), some v_first, some v_second] H_13 _
      refine zs_appendB (n := 6) st.ok rfl ze_int hH hnk (by /-9-/ first | (have h8 := hl_q_row; rw [← szL]; omega) | (first | omega | (rw [← szL]; omega) | (simp only [List.length_append, List.length_cons, List.length_nil, List.length_map, rangeI_length, ← szL]; omega))) fun v_3 F_17 H_14 s_14 => ?_
      have gk := (cst.trans s_14).gr
      have st := Stp.scrib (o := .lst (vs_row ++ [v_3])) w (st.trans s_14) (none_back kb hqc) hnk
      have cst := Stp.scrib (o := .lst (vs_row ++ [v_3])) kw (cst.trans s_14) hqc hnk
      have gh := Gr.hidR gk fc
      have r_case := k_case.mono gh
      have r_first := k_first.mono gh
      have r_second := k_second.mono gh
      have r_whole := k_whole.mono gh
      have r_one_2 := k_one.mono gh
      have r_two_2 := k_two.mono gh
      obtain ⟨ws, hH_2', hl_p_told'⟩ := upd_lst (q := q_row) (vs := vs_row ++ [v_3]) (s_14.keep _ _ hH_2 hnk_2)
      have hl_p_told : ws.length ≤ told.length + (((ixL told (0 : Int)).1).length + 1) := by simp only [List.length_append, List.length_singleton] at hl_p_told'; have h8 := hl_p_told; have h9 := hl_q_row; omega
      have hH_3 : (upd H_14 q_row (.lst (vs_row ++ [v_3]))) q_row = some (.lst (vs_row ++ [v_3])) := upd_same
      have hl_q_row : (vs_row ++ [v_3]).length ≤ ((ixL told (0 : Int)).1).length + 1 := by rw [List.length_append]; exact Nat.succ_le_succ hl_q_row
      show ZS _ _ [some v_case, some v_whole, some (.ref p_one), some (.ref p_two), some (.ref p_told), z_pair_2, some (.ref q_row), some v_first, some v_second] (upd H_14 q_row (.lst (vs_row ++ [v_3]))) _
      refine zs_appendB (n := 4) st.ok rfl ze_int hH_2' hnk_2 (by /-10-/ first | (have h8 := hl_p_told; rw [← szL]; omega) | (first | omega | (rw [← szL]; omega) | (simp only [List.length_append, List.length_cons, List.length_nil, List.length_map, rangeI_length, ← szL]; omega))) fun v_4 F_18 H_15 s_15 => ?_
      have gk_2 := (cst.trans s_15).gr
      have st := Stp.scrib (o := .lst (ws ++ [v_4])) w (st.trans s_15) (none_back kb hqc_2) hnk_2
      have cst := Stp.scrib (o := .lst (ws ++ [v_4])) kw (cst.trans s_15) hqc_2 hnk_2
      have gh_2 := Gr.hidR gk_2 fc_2
      have r_case := k_case.mono gh_2
      have r_first := k_first.mono gh_2
      have r_second := k_second.mono gh_2
      have r_whole := k_whole.mono gh_2
      have r_one_2 := k_one.mono gh_2
      have r_two_2 := k_two.mono gh_2
      obtain ⟨ws_2, hH_3', hl_q_row'⟩ := upd_lst (q := p_told) (vs := ws ++ [v_4]) (s_15.keep _ _ hH_3 hnk)
      have hl_q_row : ws_2.length ≤ ((ixL told (0 : Int)).1).length + 1 + (told.length + (((ixL told (0 : Int)).1).length + 1) + 1) := by simp only [List.length_append, List.length_singleton] at hl_q_row'; have h8 := hl_q_row; have h9 := hl_p_told; omega
      have hH_4 : (upd H_15 p_told (.lst (ws ++ [v_4]))) p_told = some (.lst (ws ++ [v_4])) := upd_same
      have hl_p_told : (ws ++ [v_4]).length ≤ told.length + (((ixL told (0 : Int)).1).length + 1) + 1 := by rw [List.length_append]; exact Nat.succ_le_succ hl_p_told
      show ZS _ _ [some v_case, some v_whole, some (.ref p_one), some (.ref p_two), some (.ref p_told), z_pair_2, some (.ref q_row), some v_first, some v_second] (upd H_15 p_told (.lst (ws ++ [v_4]))) _
      refine zs_ret st.ok (ze_eqB (k1 := (true && true)) (k := true) (ze_and (ze_callD (ok_same T) (hr.mono (by decide)) (za_cons (ze_var 2 rfl r_one_2) (za_cons (ze_var 7 rfl r_first) za_nil)) (A_same_of (a := ((eL eI) one)) (b := ((eL eI) first)) (congrArg (eL eI) (show first = one from (by /-11-/ exact e1.symm))) (by /-12-/ rw [e1]; simp only [szI, szB, szS, szLn, szLI, szLS, szLB, szOI, szOS, szT2, szD, szC, szN, List.map_cons, List.map_nil, List.length_append, List.length_cons, List.length_nil, List.length_map, rangeI_length]; omega))) fun hb => (ze_one (ze_callD (ok_same T) (hr.mono (by decide)) (za_cons (ze_var 3 rfl r_two_2) (za_cons (ze_var 8 rfl r_second) za_nil)) (A_same_of (a := ((eL eI) two)) (b := ((eL eI) second)) (congrArg (eL eI) (show second = two from (by /-13-/ exact e2.symm))) (by /-14-/ rw [e2]; simp only [szI, szB, szS, szLn, szLI, szLS, szLB, szOI, szOS, szT2, szD, szC, szN, List.map_cons, List.map_nil, List.length_append, List.length_cons, List.length_nil, List.length_map, rangeI_length]; omega))))) (by simp)) fun v_5 F_19 H_16 s_16 r_4 => ?_
      exact q v_5 F_19 H_16 (st.trans s_16) r_4
/-! law -/
abbrev s_law : Stmt := topS 29
theorem sc_law : FnScope ["script", "store", "cases", "k", "case"] ["script"] (defScope s_law) := ⟨rfl, rfl, rfl, by decide +kernel, rfl, by decide +kernel, by decide +kernel⟩
def law_1 (s_3 : Sto) : Bool × Sto :=
  (true, s_3)
def law (cs : List Int) (s : Sto) : Bool × Sto :=
  law_1 ((mapS (fun (z : Sto) (a_k : Int) => ((caseL cs z).1, (caseL cs z).2)) s (rangeI 0 (2 : Int))).2)
set_option maxHeartbeats 16000000 in
theorem ok_law {P : Program} {w : World} {K : PySem.W.Frag} {mg : Str → Option Value} {base : Heap} (T : Top K mg) {f : Addr} {fd : FuncData} (F : FunD K "law" "law" (defArgs (topS 29)) (defBody (topS 29)) (defScope (topS 29)) [] [] f fd) : FnOk P w K mg base CX0 8 f fd ["script"] (spLaw K) := by
  have sc := sc_law
  refine F.ok sc (fun vs H Q E h => ?_) (fun cdv A outer s0 H vs Q E hr h => ⟨_, PSs.nox pss_w, ?_⟩)
  · obtain ⟨a, ns, rfl, hl, hS, q⟩ := h
    rfl
  · obtain ⟨a, cs, rfl, hl, hS, q⟩ := h
    obtain ⟨F0, w, hS⟩ := law_start (by rw [List.length_map]; exact hl) hS
    have st := Stp.refl w
    show ZS _ _ [some (.ref a), none, none, none, none] H _
    refine zs_setN (n := 1) st.ok (zn_callMk 0 (ok_mkStore T) (hr.mono (by decide)) rfl hS hl) sc.nd rfl (by first | exact Or.inl rfl | exact Or.inr rfl) fun p us F1 H1 hp s1 r1 => ?_
    obtain ⟨c, rfl, rc⟩ := sto_inv r1
    obtain ⟨s, hs0⟩ : ∃ z, z = sto0 cs := ⟨_, rfl⟩
    rw [← hs0] at s1
    have s1 : Stp F0 [] H F1 [stoO p c s] H1 := s1
    have st := st.trans s1
    have hf : law cs s = law cs s := rfl
    show ZS _ _ [some (.ref a), some (.ref p), none, none, none] H1 _
    refine zs_setLcS (i0 := 2) (w := st.ok) (n := 3) (G := (fun z => [stoO p c z])) (st0 := s) (f0 := (fun (z : Sto) (a_k : Int) => ((caseL cs z).1, (caseL cs z).2))) (encR := (eT2 (eL eI) (eL eI))) rfl sc.nd (zi_range1 T.b_range ze_int (by decide)) (fun _ _ _ _ _ z a_k v_a_k _ h_a_k g_c r_a_k => ze_to (ze_callS 1 0 (ok_caseL T) (hr.mono (by decide)) rfl (rc.mono g_c) za_nil rfl ⟨rfl, rfl, rfl⟩) rfl rfl) (blkOk_by (N := ["script", "store", "cases", "k", "case"]) (sc := defScope (topS 29)) (by decide +kernel)) (fun _ _ _ _ _ => pg_name (i := 3) sc.nd rfl (Or.inl rfl)) rfl rfl (sw_true rfl rfl rfl (by decide +kernel)) fun p_cases us_cases F_11 H_11 hp_2 s_2 r_cases => ?_
    obtain ⟨cases, hx_cases⟩ : ∃ z : (List ((List Int) × (List Int))), z = (mapS (fun (z : Sto) (a_k : Int) => ((caseL cs z).1, (caseL cs z).2)) s (rangeI 0 (2 : Int))).1 := ⟨_, rfl⟩
    obtain ⟨s_3, hx_s_3⟩ : ∃ z : Sto, z = (mapS (fun (z : Sto) (a_k : Int) => ((caseL cs z).1, (caseL cs z).2)) s (rangeI 0 (2 : Int))).2 := ⟨_, rfl⟩
    have hn_2 := st.newAt hp_2
    have s_2 : Stp F1 [stoO p c s] H1 F_11 [(p_cases, .lst us_cases), stoO p c s_3] H_11 := by subst hx_s_3; exact s_2
    have r_cases : RA K F_11 us_cases (cases.map (eT2 (eL eI) (eL eI))) := by subst hx_cases; exact r_cases
    have st := st.trans s_2
    have rc := rc.mono s_2.gr
    have gz : Gr F_11 (upd F_11 p_cases (.lst us_cases)) := Gr.upd (st.ok.at_ (k := 0) rfl).2
    have r_cases_2 : R K (upd F_11 p_cases (.lst us_cases)) (.ref p_cases) (eL (eT2 (eL eI) (eL eI)) cases) := (r_cases.mono gz).lst upd_same
    have st : Stp _ _ _ (upd F_11 p_cases (.lst us_cases)) [stoO p c s_3] H_11 := st.freezeAt 0 rfl hn_2
    have rc := rc.mono gz
    show ZS _ _ [some (.ref a), some (.ref p), some (.ref p_cases), none, none] H_11 _
    have hf : law cs s = law_1 s_3 := by subst hx_cases; subst hx_s_3; exact hf
    have hc2 : cases.length = 2 := by rw [hx_cases, mapS_length]; rfl
    have hcs : ∀ c : List Int × List Int, c ∈ cases → okC c.1 c.2 := by rw [hx_cases]; intro c hc; obtain ⟨s', x, _, e⟩ := mapS_mem hc; rw [e]; exact case_ok
    refine zs_ret st.ok (ze_eqB (k1 := (((cases ++ (Z.cutD cases none (some (1 : Int)))).map (fun a_case : ((List Int) × (List Int)) => true)).all id)) (k := true) (ze_all rfl T.b_all (zn_ze (zn_lcM (n := 4) (f0 := (fun a_case : ((List Int) × (List Int)) => true)) (encR := eB) rfl sc.nd (zi_list (zn_ze (zn_catt (ze_var 2 rfl r_cases_2) (zn_ze (zn_slt (ze_var 2 rfl r_cases_2) zo_none (zo_some ze_int))) (by /-1-/ have h8 := cutD_len (xs := cases) (lo := none) (hi := some 1); rw [← szL]; omega)))) (fun _ _ _ _ _ a_case v_a_case _ h_a_case g_c_2 r_a_case => (ze_callD (ok_case_holdsL T) (hr.mono (by decide)) (za_cons (ze_var 4 rfl r_a_case) za_nil) ⟨a_case, rfl, (by /-2-/ exact hcs _ ((List.mem_append.mp h_a_case).elim id cutD_sub)), rfl⟩)) (blkOk_by (N := ["script", "store", "cases", "k", "case"]) (sc := defScope (topS 29)) (by decide +kernel)) (fun _ _ _ _ _ => pg_name (i := 4) sc.nd rfl (Or.inl rfl))))) (by simp)) fun v F_13 H_12 s_4 r_2 => ?_
    rw [r_2.bl_inv]; exact q _
end ZL

end
section
set_option maxHeartbeats 0
namespace ZL
open PySem PySem.Spec PyProof.Rows L2
def d_mix : He.DefD := ⟨("_law_mix", none), "_law_mix", "_law_mix", defArgs (topS 12), defBody (topS 12), defScope (topS 12), [], []⟩
def d_mkStore : He.DefD := ⟨("_law_store", none), "_law_store", "_law_store", defArgs (topS 13), defBody (topS 13), defScope (topS 13), [], []⟩
def d_take : He.DefD := ⟨("_law_take", none), "_law_take", "_law_take", defArgs (topS 14), defBody (topS 14), defScope (topS 14), [], []⟩
def d_odds : He.DefD := ⟨("_law_odds", none), "_law_odds", "_law_odds", defArgs (topS 15), defBody (topS 15), defScope (topS 15), [], []⟩
def d_number : He.DefD := ⟨("_law_number", none), "_law_number", "_law_number", defArgs (topS 16), defBody (topS 16), defScope (topS 16), [], []⟩
def d_same : He.DefD := ⟨("_law_same", none), "_law_same", "_law_same", defArgs (topS 22), defBody (topS 22), defScope (topS 22), [], []⟩
def d_pick : He.DefD := ⟨("_law_pick", none), "_law_pick", "_law_pick", defArgs (topS 17), defBody (topS 17), defScope (topS 17), [], []⟩
def d_shuffleL : He.DefD := ⟨("_law_shuffle", none), "_law_shuffle", "_law_shuffle", defArgs (topS 18), defBody (topS 18), defScope (topS 18), [], []⟩
def d_remainingP : He.DefD := ⟨("remaining", none), "remaining", "remaining", defArgs (topS 1), defBody (topS 1), defScope (topS 1), [], []⟩
def d_lessP : He.DefD := ⟨("less", none), "less", "less", defArgs (topS 2), defBody (topS 2), defScope (topS 2), [], []⟩
def d_is_noteP : He.DefD := ⟨("is_note", none), "is_note", "is_note", defArgs (topS 5), defBody (topS 5), defScope (topS 5), [], []⟩
def d_sub_sumsP : He.DefD := ⟨("sub_sums", none), "sub_sums", "sub_sums", defArgs (topS 6), defBody (topS 6), defScope (topS 6), [], []⟩
def d_least_commonP : He.DefD := ⟨("least_common", none), "least_common", "least_common", defArgs (topS 7), defBody (topS 7), defScope (topS 7), [], []⟩
def d_has_no_partsP : He.DefD := ⟨("has_no_parts", none), "has_no_parts", "has_no_parts", defArgs (topS 8), defBody (topS 8), defScope (topS 8), [], []⟩
def d_is_primitiveP : He.DefD := ⟨("is_primitive", none), "is_primitive", "is_primitive", defArgs (topS 9), defBody (topS 9), defScope (topS 9), [], []⟩
def d_cut_exchangeP : He.DefD := ⟨("cut_exchange", none), "cut_exchange", "cut_exchange", defArgs (topS 10), defBody (topS 10), defScope (topS 10), [], []⟩
def d_splitL : He.DefD := ⟨("_law_split", none), "_law_split", "_law_split", defArgs (topS 19), defBody (topS 19), defScope (topS 19), [], []⟩
def d_exchangeL : He.DefD := ⟨("_law_exchange", none), "_law_exchange", "_law_exchange", defArgs (topS 20), defBody (topS 20), defScope (topS 20), [], []⟩
def d_is_numberL : He.DefD := ⟨("_law_is_number", none), "_law_is_number", "_law_is_number", defArgs (topS 21), defBody (topS 21), defScope (topS 21), [], []⟩
def d_sums_ofL : He.DefD := ⟨("_law_sums_of", none), "_law_sums_of", "_law_sums_of", defArgs (topS 24), defBody (topS 24), defScope (topS 24), [], []⟩
def d_primitiveL : He.DefD := ⟨("_law_primitive", none), "_law_primitive", "_law_primitive", defArgs (topS 23), defBody (topS 23), defScope (topS 23), [], []⟩
def d_caseL : He.DefD := ⟨("_law_case", none), "_law_case", "_law_case", defArgs (topS 25), defBody (topS 25), defScope (topS 25), [], []⟩
def d_cut_rightL : He.DefD := ⟨("_law_cut_right", none), "_law_cut_right", "_law_cut_right", defArgs (topS 26), defBody (topS 26), defScope (topS 26), [], []⟩
def d_judgedL : He.DefD := ⟨("_law_judged", none), "_law_judged", "_law_judged", defArgs (topS 27), defBody (topS 27), defScope (topS 27), [], []⟩
def d_case_holdsL : He.DefD := ⟨("_law_case_holds", none), "_law_case_holds", "_law_case_holds", defArgs (topS 28), defBody (topS 28), defScope (topS 28), [], []⟩
def d_law : He.DefD := ⟨("law", none), "law", "law", defArgs (topS 29), defBody (topS 29), defScope (topS 29), [], []⟩
def hfn : List He.DefD := [d_mix, d_mkStore, d_take, d_odds, d_number, d_same, d_pick, d_shuffleL, d_remainingP, d_lessP, d_is_noteP, d_sub_sumsP, d_least_commonP, d_has_no_partsP, d_is_primitiveP, d_cut_exchangeP, d_splitL, d_exchangeL, d_is_numberL, d_sums_ofL, d_primitiveL, d_caseL, d_cut_rightL, d_judgedL, d_case_holdsL, d_law]
def hfa : List He.Fa := [.glo "_law_mix", .glo "_law_store", .glo "_law_take", .glo "_law_odds", .glo "_law_number", .glo "_law_same", .glo "_law_pick", .glo "_law_shuffle", .glo "remaining", .glo "less", .glo "is_note", .glo "sub_sums", .glo "least_common", .glo "has_no_parts", .glo "is_primitive", .glo "cut_exchange", .glo "_law_split", .glo "_law_exchange", .glo "_law_is_number", .glo "_law_sums_of", .glo "_law_primitive", .glo "_law_case", .glo "_law_cut_right", .glo "_law_judged", .glo "_law_case_holds", .glo "law", .free "abs", .free "all", .free "any", .free "bool", .free "int", .free "isinstance", .free "len", .free "list", .free "max", .free "range", .free "sorted", .free "str", .free "sum", .free "tuple", .int "GREATEST_ASK" 1000000]
abbrev hR : PySem.W.OpenRow := PySem.W.OpenLaw.row PySem.Challenge.rw_flushends_k23_exchanges_cut_into_primiti
abbrev hhk : PySem.W.Hook := He.hookD 4 hfa hfn
def hob (s : PySem.W.SharedT) : He.AlD := He.obsDG 4 hfa hfn (HandSHeadRun.getT s)
theorem hob_eq (s : PySem.W.SharedT) : hob s = hhk.obs s.abs := He.obsDG_eq (HandSHeadRun.getT_eq s)
abbrev loose0 : List Str := ["remaining", "less", "GREATEST_ASK", "is_note", "sub_sums", "least_common", "has_no_parts", "is_primitive", "cut_exchange", "_law_mix", "_law_store", "_law_take", "_law_odds", "_law_number", "_law_pick", "_law_shuffle", "_law_split", "_law_exchange", "_law_is_number", "_law_same", "_law_primitive", "_law_sums_of", "_law_case", "_law_cut_right", "_law_judged", "_law_case_holds"]
theorem hrun (w : World) : HandSHeadRun.RunEq hR (PySem.W.view hR.prog [29]) hhk hob 2000 ["remaining", "less", "GREATEST_ASK", "is_note", "sub_sums", "least_common", "has_no_parts", "is_primitive", "cut_exchange", "_law_mix", "_law_store", "_law_take", "_law_odds", "_law_number", "_law_pick", "_law_shuffle", "_law_split", "_law_exchange", "_law_is_number", "_law_same", "_law_primitive", "_law_sums_of", "_law_case", "_law_cut_right", "_law_judged", "_law_case_holds"] w := by
  intro os
  kernel_rfl
theorem hfacts {P : Program} {w : World} {K : PySem.W.Frag} {h : Heap} {mg : Str → Option Value} {f : Addr} (X : K.In h) (G : h.Ns mainGlobals mg) (hf : mg ("law" : Str) = some (.ref f)) (c : He.SaysD hfa hfn K) :
    ∃ fd : FuncData, (∀ (s : Shared) (v : Value), BindsTo s fd ⟨[v], []⟩ [("script", v)]) ∧ ∀ base : Heap, K.In base → base.Ns mainGlobals mg → FnOk P w K mg base CX0 8 f fd ["script"] (Z.spLaw K) := by
  have T : Top K mg := {
    f_mix := by obtain ⟨fd, F⟩ := c.def_ 0 (d := d_mix) rfl; exact ⟨_, fd, F, He.glo_ok X G (c.fact 0 (f := .glo "_law_mix") rfl)⟩
    f_mkStore := by obtain ⟨fd, F⟩ := c.def_ 1 (d := d_mkStore) rfl; exact ⟨_, fd, F, He.glo_ok X G (c.fact 1 (f := .glo "_law_store") rfl)⟩
    f_take := by obtain ⟨fd, F⟩ := c.def_ 2 (d := d_take) rfl; exact ⟨_, fd, F, He.glo_ok X G (c.fact 2 (f := .glo "_law_take") rfl)⟩
    f_odds := by obtain ⟨fd, F⟩ := c.def_ 3 (d := d_odds) rfl; exact ⟨_, fd, F, He.glo_ok X G (c.fact 3 (f := .glo "_law_odds") rfl)⟩
    f_number := by obtain ⟨fd, F⟩ := c.def_ 4 (d := d_number) rfl; exact ⟨_, fd, F, He.glo_ok X G (c.fact 4 (f := .glo "_law_number") rfl)⟩
    f_same := by obtain ⟨fd, F⟩ := c.def_ 5 (d := d_same) rfl; exact ⟨_, fd, F, He.glo_ok X G (c.fact 5 (f := .glo "_law_same") rfl)⟩
    f_pick := by obtain ⟨fd, F⟩ := c.def_ 6 (d := d_pick) rfl; exact ⟨_, fd, F, He.glo_ok X G (c.fact 6 (f := .glo "_law_pick") rfl)⟩
    f_shuffleL := by obtain ⟨fd, F⟩ := c.def_ 7 (d := d_shuffleL) rfl; exact ⟨_, fd, F, He.glo_ok X G (c.fact 7 (f := .glo "_law_shuffle") rfl)⟩
    f_remainingP := by obtain ⟨fd, F⟩ := c.def_ 8 (d := d_remainingP) rfl; exact ⟨_, fd, F, He.glo_ok X G (c.fact 8 (f := .glo "remaining") rfl)⟩
    f_lessP := by obtain ⟨fd, F⟩ := c.def_ 9 (d := d_lessP) rfl; exact ⟨_, fd, F, He.glo_ok X G (c.fact 9 (f := .glo "less") rfl)⟩
    f_is_noteP := by obtain ⟨fd, F⟩ := c.def_ 10 (d := d_is_noteP) rfl; exact ⟨_, fd, F, He.glo_ok X G (c.fact 10 (f := .glo "is_note") rfl)⟩
    f_sub_sumsP := by obtain ⟨fd, F⟩ := c.def_ 11 (d := d_sub_sumsP) rfl; exact ⟨_, fd, F, He.glo_ok X G (c.fact 11 (f := .glo "sub_sums") rfl)⟩
    f_least_commonP := by obtain ⟨fd, F⟩ := c.def_ 12 (d := d_least_commonP) rfl; exact ⟨_, fd, F, He.glo_ok X G (c.fact 12 (f := .glo "least_common") rfl)⟩
    f_has_no_partsP := by obtain ⟨fd, F⟩ := c.def_ 13 (d := d_has_no_partsP) rfl; exact ⟨_, fd, F, He.glo_ok X G (c.fact 13 (f := .glo "has_no_parts") rfl)⟩
    f_is_primitiveP := by obtain ⟨fd, F⟩ := c.def_ 14 (d := d_is_primitiveP) rfl; exact ⟨_, fd, F, He.glo_ok X G (c.fact 14 (f := .glo "is_primitive") rfl)⟩
    f_cut_exchangeP := by obtain ⟨fd, F⟩ := c.def_ 15 (d := d_cut_exchangeP) rfl; exact ⟨_, fd, F, He.glo_ok X G (c.fact 15 (f := .glo "cut_exchange") rfl)⟩
    f_splitL := by obtain ⟨fd, F⟩ := c.def_ 16 (d := d_splitL) rfl; exact ⟨_, fd, F, He.glo_ok X G (c.fact 16 (f := .glo "_law_split") rfl)⟩
    f_exchangeL := by obtain ⟨fd, F⟩ := c.def_ 17 (d := d_exchangeL) rfl; exact ⟨_, fd, F, He.glo_ok X G (c.fact 17 (f := .glo "_law_exchange") rfl)⟩
    f_is_numberL := by obtain ⟨fd, F⟩ := c.def_ 18 (d := d_is_numberL) rfl; exact ⟨_, fd, F, He.glo_ok X G (c.fact 18 (f := .glo "_law_is_number") rfl)⟩
    f_sums_ofL := by obtain ⟨fd, F⟩ := c.def_ 19 (d := d_sums_ofL) rfl; exact ⟨_, fd, F, He.glo_ok X G (c.fact 19 (f := .glo "_law_sums_of") rfl)⟩
    f_primitiveL := by obtain ⟨fd, F⟩ := c.def_ 20 (d := d_primitiveL) rfl; exact ⟨_, fd, F, He.glo_ok X G (c.fact 20 (f := .glo "_law_primitive") rfl)⟩
    f_caseL := by obtain ⟨fd, F⟩ := c.def_ 21 (d := d_caseL) rfl; exact ⟨_, fd, F, He.glo_ok X G (c.fact 21 (f := .glo "_law_case") rfl)⟩
    f_cut_rightL := by obtain ⟨fd, F⟩ := c.def_ 22 (d := d_cut_rightL) rfl; exact ⟨_, fd, F, He.glo_ok X G (c.fact 22 (f := .glo "_law_cut_right") rfl)⟩
    f_judgedL := by obtain ⟨fd, F⟩ := c.def_ 23 (d := d_judgedL) rfl; exact ⟨_, fd, F, He.glo_ok X G (c.fact 23 (f := .glo "_law_judged") rfl)⟩
    f_case_holdsL := by obtain ⟨fd, F⟩ := c.def_ 24 (d := d_case_holdsL) rfl; exact ⟨_, fd, F, He.glo_ok X G (c.fact 24 (f := .glo "_law_case_holds") rfl)⟩
    f_law := by obtain ⟨fd, F⟩ := c.def_ 25 (d := d_law) rfl; exact ⟨_, fd, F, He.glo_ok X G (c.fact 25 (f := .glo "law") rfl)⟩
    b_abs := He.free_ok X G (c.fact 26 (f := .free "abs") rfl)
    b_all := He.free_ok X G (c.fact 27 (f := .free "all") rfl)
    b_any := He.free_ok X G (c.fact 28 (f := .free "any") rfl)
    b_bool := He.free_ok X G (c.fact 29 (f := .free "bool") rfl)
    b_int := He.free_ok X G (c.fact 30 (f := .free "int") rfl)
    b_isinstance := He.free_ok X G (c.fact 31 (f := .free "isinstance") rfl)
    b_len := He.free_ok X G (c.fact 32 (f := .free "len") rfl)
    b_list := He.free_ok X G (c.fact 33 (f := .free "list") rfl)
    b_max := He.free_ok X G (c.fact 34 (f := .free "max") rfl)
    b_range := He.free_ok X G (c.fact 35 (f := .free "range") rfl)
    b_sorted := He.free_ok X G (c.fact 36 (f := .free "sorted") rfl)
    b_str := He.free_ok X G (c.fact 37 (f := .free "str") rfl)
    b_sum := He.free_ok X G (c.fact 38 (f := .free "sum") rfl)
    b_tuple := He.free_ok X G (c.fact 39 (f := .free "tuple") rfl)
    c_GREATEST_ASK := He.int_ok X G (c.fact 40 (f := .int "GREATEST_ASK" 1000000) rfl) }
  obtain ⟨fd, F⟩ := c.def_ 25 (d := d_law) rfl
  have e := hf.symm.trans (He.glo_ok X G (c.fact 25 (f := .glo "law") rfl))
  cases e
  have b := FunD.bindsA (ps := ["script"]) F fun _ _ _ _ _ _ us hl => match us, hl with | [_], _ => rfl
  exact ⟨fd, fun s v => b s [v] rfl, fun base _ _ => ok_law T F⟩
end ZL
open PySem PySem.W PySem.Calls PyProof.Rows
theorem PySem.Challenge.cw_flushends_k23_exchanges_cut_into_primiti_holds : PySem.Challenge.rw_flushends_k23_exchanges_cut_into_primiti.Holds := by
  w_on; o_law
  refine HandSHeadRun.head_any (r := OpenLaw.row PySem.Challenge.rw_flushends_k23_exchanges_cut_into_primiti) (q := view (OpenLaw.row PySem.Challenge.rw_flushends_k23_exchanges_cut_into_primiti).prog [29]) (H := ZL.hhk) (ob := ZL.hob) (M := 2000) (loose := ["remaining", "less", "GREATEST_ASK", "is_note", "sub_sums", "least_common", "has_no_parts", "is_primitive", "cut_exchange", "_law_mix", "_law_store", "_law_take", "_law_odds", "_law_number", "_law_pick", "_law_shuffle", "_law_split", "_law_exchange", "_law_is_number", "_law_same", "_law_primitive", "_law_sums_of", "_law_case", "_law_cut_right", "_law_judged", "_law_case_holds"]) (d := HandSHeadRun.topDef (OpenLaw.row PySem.Challenge.rw_flushends_k23_exchanges_cut_into_primiti).prog 29) (kwd := []) ZL.hob_eq
    (by kernel_rfl) (fun s => by kernel_rfl) ZL.hrun (by kernel_rfl) (by kernel_rfl) (by kernel_rfl) (by rfl) (by first | assumption | decide +kernel) (by decide +kernel) ⟨rfl, rfl, rfl, rfl, rfl, by decide +kernel⟩ ?hw ?hc
  case hw => w_witness2
  case hc =>
    refine L2.walk_ofE (l := PySem.Challenge.rw_flushends_k23_exchanges_cut_into_primiti) (n := 63) (k := 8) (x := "script") (CX := L2.CX0) rfl (by decide) (by kernel_rfl) ⟨rfl, by decide, by decide⟩ ?F (fun _ _ _ _ z => z)
    intro w mg fa h Y G hmg0
    obtain ⟨K, KX, c⟩ := Y
    have hmg : mg ("law" : PySem.Str) = some (.ref fa) := by
      have e : (HandSHeadRun.topDef (OpenLaw.row PySem.Challenge.rw_flushends_k23_exchanges_cut_into_primiti).prog 29).name = ("law" : PySem.Str) := by kernel_rfl
      rw [← e]
      exact hmg0
    obtain ⟨fd, hb, hF⟩ := ZL.hfacts (P := (PySem.Challenge.rw_flushends_k23_exchanges_cut_into_primiti).prog) (w := w) KX G hmg c
    exact ⟨K, fd, Z.spLaw K, KX, hb, fun H a ns hl _ hS => ⟨a, ns, rfl, hl, hS, fun _ => rfl⟩, hF⟩

end
