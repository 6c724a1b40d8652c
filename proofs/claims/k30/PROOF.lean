import PyProof.Rows.All
import Wide.All
import OpenK.AllK
import Wide.FinOn
import HandS.ClsMeth
import HandS.Deep
import HandS.Flow
import HandS.ForMost
import HandS.IsInst
import HandS.Property
import HandS.SetFor
import HandS.SortInts
import HandS.SortRule
import HandS.Star
import HandS.Strs
import HandS.Style
import HandS.TupAny
import HandS.TupLe
import HandS.TupMul
import HandS.TupSets
import HandS.Wide
import HandS.Zip
import KE.DataMinMax
import KE.GoesEnum
import KE.GoesMore
import KE.GoesZip
import KE.SortData
import PyProof.P3In
import PySem.Challenge.RW_meetperiods_k30_worked_shares_mends_and
set_option Elab.async false
set_option linter.all false
set_option maxRecDepth 100000
set_option maxHeartbeats 4000000
namespace DL
open PySem PySem.Spec PyProof.Rows L2
/-- data: none, bools, ints, texts, tuples, lists, bells (by their periods), the script -/
inductive D where
  | non | bl (b : Bool) | int (i : Int) | str (x : Str) | tup (xs : List D) | lst (xs : List D) | bell (ps : List Int) | scr (ns : List Int)
mutual
/-- v stands for d in the frozen heap H -/
def Rp (K : PySem.W.Frag) (C : Addr) (H : Hp) : D → V → Prop
  | .non, v => v = .non
  | .bl b, v => v = .bl b
  | .int i, v => v = .int i
  | .str x, v => v = .str x
  | .tup ds, v => ∃ a xs, v = .ref a ∧ H a = some (.tup xs) ∧ RpL K C H ds xs
  | .lst ds, v => ∃ a xs, v = .ref a ∧ H a = some (.lst xs) ∧ RpL K C H ds xs
  | .bell ps, v => ∃ a dx t, v = .ref a ∧ H a = some (.ins C dx [("row", .ref t)]) ∧ H t = some (.tup (ps.map V.int))
  | .scr ns, v => ∃ a, v = .ref a ∧ SqL K H a (ns.map V.int)
def RpL (K : PySem.W.Frag) (C : Addr) (H : Hp) : List D → List V → Prop
  | [], xs => xs = []
  | d :: ds, xs => ∃ x r, xs = x :: r ∧ Rp K C H d x ∧ RpL K C H ds r
end
section
variable {K : PySem.W.Frag} {C : Addr} {F F' H H' : Hp}
mutual
theorem Rp.mono (s : Same F F') : ∀ (d : D) (v : V), Rp K C F d v → Rp K C F' d v
  | .non, _, h => h
  | .bl _, _, h => h
  | .int _, _, h => h
  | .str _, _, h => h
  | .tup ds, v, h => by
    simp only [Rp] at h ⊢
    obtain ⟨a, xs, e, ha, hl⟩ := h
    exact ⟨a, xs, e, s _ _ ha, RpL.mono s ds xs hl⟩
  | .lst ds, v, h => by
    simp only [Rp] at h ⊢
    obtain ⟨a, xs, e, ha, hl⟩ := h
    exact ⟨a, xs, e, s _ _ ha, RpL.mono s ds xs hl⟩
  | .bell ps, v, h => by
    simp only [Rp] at h ⊢
    obtain ⟨a, dx, t, e, ha, ht⟩ := h
    exact ⟨a, dx, t, e, s _ _ ha, s _ _ ht⟩
  | .scr ns, v, h => by
    simp only [Rp] at h ⊢
    obtain ⟨a, e, ha⟩ := h
    exact ⟨a, e, s.seq ha⟩
theorem RpL.mono (s : Same F F') : ∀ (ds : List D) (vs : List V), RpL K C F ds vs → RpL K C F' ds vs
  | [], _, h => h
  | d :: ds, vs, h => by
    simp only [RpL] at h ⊢
    obtain ⟨x, r, e, h1, h2⟩ := h
    exact ⟨x, r, e, Rp.mono s d x h1, RpL.mono s ds r h2⟩
end
theorem RpL.nil : RpL K C F [] [] := rfl
theorem RpL.cons {d : D} {ds : List D} {x : V} {r : List V} (h1 : Rp K C F d x) (h2 : RpL K C F ds r) : RpL K C F (d :: ds) (x :: r) := ⟨x, r, rfl, h1, h2⟩
theorem RpL.len : ∀ {ds : List D} {vs : List V}, RpL K C F ds vs → ds.length = vs.length
  | [], vs, h => by
    have e : vs = [] := h
    subst e
    rfl
  | d :: ds, vs, h => by
    obtain ⟨x, r, e, _, h2⟩ := h
    subst e
    rw [List.length_cons, List.length_cons, RpL.len h2]
theorem RpL.get : ∀ {ds : List D} {vs : List V} {i : Nat} {d : D}, RpL K C F ds vs → ds[i]? = some d → ∃ v, vs[i]? = some v ∧ Rp K C F d v
  | [], _, i, d, _, e => by simp at e
  | d0 :: ds, vs, i, d, h, e => by
    obtain ⟨x, r, e1, h1, h2⟩ := h
    subst e1
    cases i with
    | zero =>
      simp only [List.getElem?_cons_zero, Option.some.injEq] at e
      subst e
      exact ⟨x, rfl, h1⟩
    | succ i =>
      rw [List.getElem?_cons_succ] at e
      rw [List.getElem?_cons_succ]
      exact RpL.get h2 e
theorem RpL.append : ∀ {ds es : List D} {vs ws : List V}, RpL K C F ds vs → RpL K C F es ws → RpL K C F (ds ++ es) (vs ++ ws)
  | [], es, vs, ws, h, h' => by
    have e : vs = [] := h
    subst e
    exact h'
  | d :: ds, es, vs, ws, h, h' => by
    obtain ⟨x, r, e, h1, h2⟩ := h
    subst e
    exact RpL.cons h1 (RpL.append h2 h')
theorem RpL.one {d : D} {v : V} (h : Rp K C F d v) : RpL K C F [d] [v] := RpL.cons h RpL.nil
theorem RpL.set : ∀ {ds : List D} {vs : List V} (i : Nat) {d : D} {v : V}, RpL K C F ds vs → Rp K C F d v → RpL K C F (ds.set i d) (vs.set i v)
  | [], vs, i, d, v, h, _ => by
    have e : vs = [] := h
    subst e
    exact h
  | d0 :: ds, vs, i, d, v, h, hv => by
    obtain ⟨x, r, e, h1, h2⟩ := h
    subst e
    cases i with
    | zero => exact RpL.cons hv h2
    | succ i => exact RpL.cons h1 (RpL.set i h2 hv)
theorem RpL.drop : ∀ {ds : List D} {vs : List V} (n : Nat), RpL K C F ds vs → RpL K C F (ds.drop n) (vs.drop n)
  | ds, vs, 0, h => h
  | [], vs, n + 1, h => by
    have e : vs = [] := h
    subst e
    exact h
  | d :: ds, vs, n + 1, h => by
    obtain ⟨x, r, e, _, h2⟩ := h
    subst e
    exact RpL.drop n h2
theorem RpL.take : ∀ {ds : List D} {vs : List V} (n : Nat), RpL K C F ds vs → RpL K C F (ds.take n) (vs.take n)
  | _, _, 0, _ => rfl
  | [], vs, n + 1, h => by
    have e : vs = [] := h
    subst e
    exact h
  | d :: ds, vs, n + 1, h => by
    obtain ⟨x, r, e, h1, h2⟩ := h
    subst e
    exact RpL.cons h1 (RpL.take n h2)
theorem RpL.rep {ds : List D} {vs : List V} (h : RpL K C F ds vs) : ∀ k : Nat, RpL K C F (List.replicate k ds).flatten (List.replicate k vs).flatten
  | 0 => rfl
  | k + 1 => by
    rw [List.replicate_succ, List.replicate_succ, List.flatten_cons, List.flatten_cons]
    exact RpL.append h (RpL.rep h k)
theorem RpL.ints : ∀ {ns : List Int} {vs : List V}, RpL K C F (ns.map D.int) vs → vs = ns.map V.int
  | [], vs, h => h
  | n :: ns, vs, h => by
    obtain ⟨x, r, e, h1, h2⟩ := h
    have h1' : x = .int n := h1
    rw [e, h1', RpL.ints h2]
    rfl
theorem RpL.ofInts : ∀ (ns : List Int), RpL K C F (ns.map D.int) (ns.map V.int)
  | [] => rfl
  | n :: ns => RpL.cons (show Rp K C F (.int n) (.int n) from rfl) (RpL.ofInts ns)
/-- one list and one tuple for each -/
theorem Rp.int {i : Int} {v : V} (h : Rp K C F (.int i) v) : v = .int i := h
theorem Rp.bl {b : Bool} {v : V} (h : Rp K C F (.bl b) v) : v = .bl b := h
/-- a step: more is frozen, all that stood stands, what is frozen anew is new -/
structure Stp (F H F' H' : Hp) : Prop where
  ff : Same F F'
  hh : Same H H'
  fh : Same F' H'
  old : ∀ a o, H a = some o → F' a = F a
theorem Stp.refl (fh : Same F H) : Stp F H F H := ⟨Same.refl _, Same.refl _, fh, fun _ _ _ => rfl⟩
theorem Stp.trans {F1 H1 F2 H2 : Hp} (a : Stp F H F1 H1) (b : Stp F1 H1 F2 H2) : Stp F H F2 H2 :=
  ⟨a.ff.trans b.ff, a.hh.trans b.hh, b.fh, fun x o h => (b.old x o (a.hh x o h)).trans (a.old x o h)⟩
theorem same_upd {H : Hp} {p : Addr} {o : HO} (h : H p = none) : Same H (upd H p o) := fun b x e => by
  rw [upd_ne (ne_of_none e h)]
  exact e
theorem none_of_same {F H : Hp} (s : Same F H) {p : Addr} (h : H p = none) : F p = none := s.free h
/-- a new object, frozen -/
theorem Stp.new (fh : Same F H) {p : Addr} {o : HO} (h : H p = none) : Stp F H (upd F p o) (upd H p o) := by
  refine ⟨same_upd (none_of_same fh h), same_upd h, fun b x e => ?_, fun a u e => upd_ne (ne_of_none e h)⟩
  by_cases hb : b = p
  · subst hb
    rw [upd_same] at e ⊢
    exact e
  · rw [upd_ne hb] at e ⊢
    exact fh b x e
/-- a new object that is not frozen -/
theorem Stp.own (fh : Same F H) {p : Addr} {o : HO} (h : H p = none) : Stp F H F (upd H p o) :=
  ⟨Same.refl _, same_upd h, fh.trans (same_upd h), fun _ _ _ => rfl⟩
abbrev Rho := List (Option D)
def lk : Rho → Nat → Option D
  | [], _ => none
  | x :: _, 0 => x
  | _ :: r, n + 1 => lk r n
def st : Rho → Nat → D → Rho
  | [], _, _ => []
  | _ :: r, 0, d => some d :: r
  | x :: r, n + 1, d => x :: st r n d
def un : Rho → Nat → Rho
  | [], _ => []
  | _ :: r, 0 => none :: r
  | x :: r, n + 1 => x :: un r n
def wipeR (ρ : Rho) : List Nat → Rho
  | [] => ρ
  | v :: vs => un (wipeR ρ vs) v
theorem st_len : ∀ (ρ : Rho) (i : Nat) (d : D), (st ρ i d).length = ρ.length
  | [], _, _ => rfl
  | _ :: _, 0, _ => rfl
  | x :: r, n + 1, d => by
    show (st r n d).length + 1 = r.length + 1
    rw [st_len r n d]
theorem un_len : ∀ (ρ : Rho) (i : Nat), (un ρ i).length = ρ.length
  | [], _ => rfl
  | _ :: _, 0 => rfl
  | x :: r, n + 1 => by
    show (un r n).length + 1 = r.length + 1
    rw [un_len r n]
theorem lk_lt : ∀ {ρ : Rho} {i : Nat} {d : D}, lk ρ i = some d → i < ρ.length
  | [], _, _, h => by simp [lk] at h
  | _ :: _, 0, _, _ => by simp
  | x :: r, n + 1, d, h => by
    have := lk_lt (ρ := r) (i := n) (d := d) h
    simpa using this
theorem lk_st_same : ∀ {ρ : Rho} {i : Nat} {d e : D}, lk (st ρ i d) i = some e → e = d
  | [], _, _, _, h => by simp [st, lk] at h
  | _ :: _, 0, d, e, h => by
    have h' : some d = some e := h
    exact (Option.some.inj h').symm
  | x :: r, n + 1, d, e, h => lk_st_same (ρ := r) (i := n) h
theorem lk_st_ne : ∀ {ρ : Rho} {i j : Nat} {d : D}, j ≠ i → lk (st ρ i d) j = lk ρ j
  | [], _, _, _, _ => rfl
  | _ :: _, 0, 0, _, h => absurd rfl h
  | _ :: _, 0, j + 1, _, _ => rfl
  | x :: r, n + 1, 0, d, _ => rfl
  | x :: r, n + 1, j + 1, d, h => lk_st_ne (ρ := r) (i := n) (j := j) fun e => h (by rw [e])
theorem lk_un_same : ∀ {ρ : Rho} {i : Nat}, lk (un ρ i) i = none
  | [], _ => rfl
  | _ :: _, 0 => rfl
  | x :: r, n + 1 => lk_un_same (ρ := r) (i := n)
theorem lk_un_ne : ∀ {ρ : Rho} {i j : Nat}, j ≠ i → lk (un ρ i) j = lk ρ j
  | [], _, _, _ => rfl
  | _ :: _, 0, 0, h => absurd rfl h
  | _ :: _, 0, j + 1, _ => rfl
  | x :: r, n + 1, 0, _ => rfl
  | x :: r, n + 1, j + 1, h => lk_un_ne (ρ := r) (i := n) (j := j) fun e => h (by rw [e])
/-- the slots σ hold ρ: frozen data, but at the places O lists of one's own -/
structure En (K : PySem.W.Frag) (C : Addr) (O : List Nat) (F H : Hp) (σ : L2.St) (ρ : Rho) : Prop where
  fh : Same F H
  len : σ.length = ρ.length
  pl : ∀ i d, i ∉ O → lk ρ i = some d → ∃ v, σ[i]? = some (some v) ∧ Rp K C F d v
  ow : ∀ i d, i ∈ O → lk ρ i = some d → ∃ p vs ds, σ[i]? = some (some (.ref p)) ∧ d = .lst ds ∧ H p = some (.lst vs) ∧ F p = none ∧ RpL K C F ds vs
  ap : ∀ i j d e p, i ∈ O → j ∈ O → lk ρ i = some d → lk ρ j = some e → σ[i]? = some (some (.ref p)) → σ[j]? = some (some (.ref p)) → i = j
variable {O : List Nat} {σ : L2.St} {ρ : Rho}
theorem En.step (h : En K C O F H σ ρ) (s : Stp F H F' H') : En K C O F' H' σ ρ where
  fh := s.fh
  len := h.len
  pl := fun i d hi e => by
    obtain ⟨v, h1, h2⟩ := h.pl i d hi e
    exact ⟨v, h1, Rp.mono s.ff d v h2⟩
  ow := fun i d hi e => by
    obtain ⟨p, vs, ds, h1, h2, h3, h4, h5⟩ := h.ow i d hi e
    exact ⟨p, vs, ds, h1, h2, s.hh _ _ h3, (s.old _ _ h3).trans h4, RpL.mono s.ff ds vs h5⟩
  ap := h.ap
theorem En.set {i : Nat} {d : D} {v : V} (h : En K C O F H σ ρ) (hi : i ∉ O) (hv : Rp K C F d v) : En K C O F H (σ.set i (some v)) (st ρ i d) where
  fh := h.fh
  len := by rw [List.length_set, st_len]; exact h.len
  pl := fun j e hj q => by
    by_cases hji : j = i
    · subst hji
      have e1 := lk_st_same q
      subst e1
      have hl := lk_lt q
      rw [st_len, ← h.len] at hl
      exact ⟨v, List.getElem?_set_self hl, hv⟩
    · rw [lk_st_ne hji] at q
      rw [List.getElem?_set_ne (Ne.symm hji)]
      exact h.pl j e hj q
  ow := fun j e hj q => by
    have hji : j ≠ i := fun z => hi (z ▸ hj)
    rw [lk_st_ne hji] at q
    rw [List.getElem?_set_ne (Ne.symm hji)]
    exact h.ow j e hj q
  ap := fun j k e e' p hj hk q1 q2 q3 q4 => by
    have hji : j ≠ i := fun z => hi (z ▸ hj)
    have hki : k ≠ i := fun z => hi (z ▸ hk)
    rw [lk_st_ne hji] at q1
    rw [lk_st_ne hki] at q2
    rw [List.getElem?_set_ne (Ne.symm hji)] at q3
    rw [List.getElem?_set_ne (Ne.symm hki)] at q4
    exact h.ap j k e e' p hj hk q1 q2 q3 q4
theorem En.unset {i : Nat} (h : En K C O F H σ ρ) : En K C O F H (σ.set i none) (un ρ i) where
  fh := h.fh
  len := by rw [List.length_set, un_len]; exact h.len
  pl := fun j e hj q => by
    by_cases hji : j = i
    · subst hji
      rw [lk_un_same] at q
      cases q
    · rw [lk_un_ne hji] at q
      rw [List.getElem?_set_ne (Ne.symm hji)]
      exact h.pl j e hj q
  ow := fun j e hj q => by
    have hji : j ≠ i := fun z => by
      subst z
      rw [lk_un_same] at q
      cases q
    rw [lk_un_ne hji] at q
    rw [List.getElem?_set_ne (Ne.symm hji)]
    exact h.ow j e hj q
  ap := fun j k e e' p hj hk q1 q2 q3 q4 => by
    have hji : j ≠ i := fun z => by
      subst z
      rw [lk_un_same] at q1
      cases q1
    have hki : k ≠ i := fun z => by
      subst z
      rw [lk_un_same] at q2
      cases q2
    rw [lk_un_ne hji] at q1
    rw [lk_un_ne hki] at q2
    rw [List.getElem?_set_ne (Ne.symm hji)] at q3
    rw [List.getElem?_set_ne (Ne.symm hki)] at q4
    exact h.ap j k e e' p hj hk q1 q2 q3 q4
theorem En.wipe (h : En K C O F H σ ρ) : ∀ vs : List Nat, En K C O F H (wipe σ vs) (wipeR ρ vs)
  | [] => h
  | v :: vs => by
    unfold L2.wipe wipeR
    exact (En.wipe h vs).unset
/-- a new list of one's own at the place i -/
theorem En.own {i : Nat} {p : Addr} {ds : List D} {vs : List V} (h : En K C O F H σ ρ) (hi : i ∉ O) (hH : H p = none) (hl : RpL K C F ds vs) :
    En K C (i :: O) F (upd H p (.lst vs)) (σ.set i (some (.ref p))) (st ρ i (.lst ds)) where
  fh := h.fh.trans (same_upd hH)
  len := by rw [List.length_set, st_len]; exact h.len
  pl := fun j e hj q => by
    have hji : j ≠ i := fun z => hj (by rw [z]; exact List.mem_cons_self)
    rw [lk_st_ne hji] at q
    rw [List.getElem?_set_ne (Ne.symm hji)]
    exact h.pl j e (fun z => hj (List.mem_cons_of_mem _ z)) q
  ow := fun j e hj q => by
    by_cases hji : j = i
    · subst hji
      have e1 := lk_st_same q
      subst e1
      have hl' := lk_lt q
      rw [st_len, ← h.len] at hl'
      exact ⟨p, vs, ds, List.getElem?_set_self hl', rfl, upd_same, h.fh.free hH, hl⟩
    · rw [lk_st_ne hji] at q
      rw [List.getElem?_set_ne (Ne.symm hji)]
      have hjO : j ∈ O := (List.mem_cons.mp hj).elim (fun z => absurd z hji) id
      obtain ⟨p', vs', ds', h1, h2, h3, h4, h5⟩ := h.ow j e hjO q
      exact ⟨p', vs', ds', h1, h2, by rw [upd_ne (ne_of_none h3 hH)]; exact h3, h4, h5⟩
  ap := fun j k e e' p' hj hk q1 q2 q3 q4 => by
    by_cases hji : j = i
    · by_cases hki : k = i
      · rw [hji, hki]
      · exfalso
        subst hji
        rw [lk_st_ne hki] at q2
        rw [List.getElem?_set_ne (Ne.symm hki)] at q4
        have hl' := lk_lt q1
        rw [st_len, ← h.len] at hl'
        rw [List.getElem?_set_self hl'] at q3
        cases q3
        have hkO : k ∈ O := (List.mem_cons.mp hk).elim (fun z => absurd z hki) id
        obtain ⟨p2, _, _, h1, _, h3, _, _⟩ := h.ow k e' hkO q2
        rw [h1] at q4
        cases q4
        rw [hH] at h3
        cases h3
    · by_cases hki : k = i
      · exfalso
        subst hki
        rw [lk_st_ne hji] at q1
        rw [List.getElem?_set_ne (Ne.symm hji)] at q3
        have hl' := lk_lt q2
        rw [st_len, ← h.len] at hl'
        rw [List.getElem?_set_self hl'] at q4
        cases q4
        have hjO : j ∈ O := (List.mem_cons.mp hj).elim (fun z => absurd z hji) id
        obtain ⟨p2, _, _, h1, _, h3, _, _⟩ := h.ow j e hjO q1
        rw [h1] at q3
        cases q3
        rw [hH] at h3
        cases h3
      · rw [lk_st_ne hji] at q1
        rw [lk_st_ne hki] at q2
        rw [List.getElem?_set_ne (Ne.symm hji)] at q3
        rw [List.getElem?_set_ne (Ne.symm hki)] at q4
        exact h.ap j k e e' p' ((List.mem_cons.mp hj).elim (fun z => absurd z hji) id) ((List.mem_cons.mp hk).elim (fun z => absurd z hki) id) q1 q2 q3 q4
/-- the list of one's own at i is changed -/
theorem En.mut {i : Nat} {p : Addr} {ds ds' : List D} {vs vs' : List V} (h : En K C O F H σ ρ) (hi : i ∈ O) (he : lk ρ i = some (.lst ds)) (hp : σ[i]? = some (some (.ref p))) (hH : H p = some (.lst vs)) (hF : F p = none) (hl : RpL K C F ds' vs') :
    En K C O F (upd H p (.lst vs')) σ (st ρ i (.lst ds')) where
  fh := fun b x e => by
    rw [upd_ne (ne_of_none e hF)]
    exact h.fh b x e
  len := by rw [st_len]; exact h.len
  pl := fun j e hj q => by
    have hji : j ≠ i := fun z => hj (z ▸ hi)
    rw [lk_st_ne hji] at q
    exact h.pl j e hj q
  ow := fun j e hj q => by
    by_cases hji : j = i
    · subst hji
      have e1 := lk_st_same q
      subst e1
      exact ⟨p, vs', ds', hp, rfl, upd_same, hF, hl⟩
    · rw [lk_st_ne hji] at q
      obtain ⟨p', vs2, ds2, h1, h2, h3, h4, h5⟩ := h.ow j e hj q
      have hne : p' ≠ p := fun z => by
        subst z
        exact hji (h.ap j i e _ _ hj hi q he h1 hp)
      exact ⟨p', vs2, ds2, h1, h2, by rw [upd_ne hne]; exact h3, h4, h5⟩
  ap := fun j k e e' p' hj hk q1 q2 q3 q4 => by
    have fx : ∀ {m : Nat} {x : D}, lk (st ρ i (.lst ds')) m = some x → ∃ y, lk ρ m = some y := fun {m x} q => by
      by_cases hm : m = i
      · exact ⟨_, hm ▸ he⟩
      · rw [lk_st_ne hm] at q
        exact ⟨_, q⟩
    obtain ⟨y1, z1⟩ := fx q1
    obtain ⟨y2, z2⟩ := fx q2
    exact h.ap j k y1 y2 p' hj hk z1 z2 q3 q4
/-- the list of one's own at i is frozen -/
theorem En.freeze {i : Nat} {O' : List Nat} (h : En K C O F H σ ρ) (hO : ∀ j, j ∈ O' ↔ j ∈ O ∧ j ≠ i) : ∃ F', Same F F' ∧ En K C O' F' H σ ρ ∧ (∀ a, F' a ≠ F a → i ∈ O ∧ ∃ d, lk ρ i = some d ∧ σ[i]? = some (some (.ref a))) := by
  by_cases hi : i ∈ O
  · cases e : lk ρ i with
    | none =>
      refine ⟨F, Same.refl _, ⟨h.fh, h.len, fun j d hj q => ?_, fun j d hj q => h.ow j d ((hO j).mp hj).1 q, fun j k d e p hj hk => h.ap j k d e p ((hO j).mp hj).1 ((hO k).mp hk).1⟩, fun a z => absurd rfl z⟩
      by_cases hji : j = i
      · subst hji
        rw [e] at q
        cases q
      · exact h.pl j d (fun z => hj ((hO j).mpr ⟨z, hji⟩)) q
    | some d =>
      obtain ⟨p, vs, ds, h1, rfl, h3, h4, h5⟩ := h.ow i d hi e
      have sm : Same F (upd F p (.lst vs)) := same_upd h4
      refine ⟨upd F p (.lst vs), sm, ⟨fun b x q => ?_, h.len, fun j d' hj q => ?_, fun j d' hj q => ?_, fun j k d e p hj hk => h.ap j k d e p ((hO j).mp hj).1 ((hO k).mp hk).1⟩, fun a z => ?_⟩
      · by_cases hb : b = p
        · subst hb
          rw [upd_same] at q
          rw [← q]
          exact h3
        · rw [upd_ne hb] at q
          exact h.fh b x q
      · by_cases hji : j = i
        · subst hji
          rw [e] at q
          cases q
          exact ⟨.ref p, h1, p, vs, rfl, upd_same, RpL.mono sm ds vs h5⟩
        · obtain ⟨v, q1, q2⟩ := h.pl j d' (fun z => hj ((hO j).mpr ⟨z, hji⟩)) q
          exact ⟨v, q1, Rp.mono sm d' v q2⟩
      · obtain ⟨hjO, hji⟩ := (hO j).mp hj
        obtain ⟨p', vs', ds', g1, g2, g3, g4, g5⟩ := h.ow j d' hjO q
        have hne : p' ≠ p := fun z => by
          subst z
          exact hji (h.ap j i _ _ _ hjO hi q e g1 h1)
        exact ⟨p', vs', ds', g1, g2, g3, by rw [upd_ne hne]; exact g4, RpL.mono sm ds' vs' g5⟩
      · by_cases ha : a = p
        · subst ha
          exact ⟨hi, _, rfl, h1⟩
        · rw [upd_ne ha] at z
          exact absurd rfl z
  · refine ⟨F, Same.refl _, ⟨h.fh, h.len, fun j d hj q => h.pl j d (fun z => hj ((hO j).mpr ⟨z, fun w => hi (w ▸ z)⟩)) q, fun j d hj q => h.ow j d ((hO j).mp hj).1 q, fun j k d e p hj hk => h.ap j k d e p ((hO j).mp hj).1 ((hO k).mp hk).1⟩, fun a z => absurd rfl z⟩
end
end DL
namespace DL
open PySem PySem.Spec PyProof.Rows L2
abbrev DF := Rho → Option D
abbrev DFs := Rho → Option (List D)
abbrev DB := Rho → Option Bool
/-- what a computed value leaves -/
def Got (K : PySem.W.Frag) (C : Addr) (F H : Hp) (d : D) (Q : VK) : Prop := ∀ v F' H', Stp F H F' H' → Rp K C F' d v → Q v H'
theorem Got.step {K : PySem.W.Frag} {C : Addr} {F H F' H' : Hp} {d : D} {Q : VK} (h : Got K C F H d Q) (s : Stp F H F' H') : Got K C F' H' d Q := fun v F2 H2 s2 r => h v F2 H2 (s.trans s2) r
def tD (K : PySem.W.Frag) (C : Addr) (O : List Nat) (f : DF) : TE := fun σ H Q => ∃ F ρ d, En K C O F H σ ρ ∧ f ρ = some d ∧ Got K C F H d Q
def tDA (K : PySem.W.Frag) (C : Addr) (O : List Nat) (f : DFs) : TA := fun σ H Q => ∃ F ρ ds, En K C O F H σ ρ ∧ f ρ = some ds ∧ ∀ vs F' H', Stp F H F' H' → RpL K C F' ds vs → Q vs H'
def tDT (K : PySem.W.Frag) (C : Addr) (O : List Nat) (g : DB) : TT := fun σ H Q => ∃ F ρ b, En K C O F H σ ρ ∧ g ρ = some b ∧ ∀ F' H', Stp F H F' H' → Q b H'
def rD2 (K : PySem.W.Frag) (C : Addr) (op : D → D → Option D) : R2 := fun x y H Q => ∃ F d e c, Same F H ∧ Rp K C F d x ∧ Rp K C F e y ∧ op d e = some c ∧ Got K C F H c Q
def rDL (K : PySem.W.Frag) (C : Addr) (op : List D → Option D) : List V → Hp → VK → Prop := fun xs H Q => ∃ F ds c, Same F H ∧ RpL K C F ds xs ∧ op ds = some c ∧ Got K C F H c Q
abbrev DE (X : Cx) (C : Addr) (O : List Nat) (e : Expr) (f : DF) : Prop := PE X e (tD X.K C O f)
abbrev DT (X : Cx) (C : Addr) (O : List Nat) (e : Expr) (g : DB) : Prop := PT X e (tDT X.K C O g)
abbrev DWt (X : Cx) (C : Addr) (O : List Nat) (e : Expr) (g : DB) : Prop := PW X e (tDT X.K C O g)
abbrev DA (X : Cx) (C : Addr) (O : List Nat) (es : List Expr) (f : DFs) : Prop := PA X es (tDA X.K C O f)
abbrev OpD (X : Cx) (C : Addr) (f : Value → Value → Sem Value) (op : D → D → Option D) : Prop := OpR X f (rD2 X.K C op)
abbrev CallD (X : Cx) (C : Addr) (f : Value) (op : List D → Option D) : Prop := CallR X f (rDL X.K C op)
abbrev IxD (X : Cx) (C : Addr) (op : D → D → Option D) : Prop := IxR X (rD2 X.K C op)
section
variable {X : Cx}
theorem PEw {e : Expr} {t t' : TE} (h : PE X e t) (w : ∀ σ H Q, t' σ H Q → t σ H Q) : PE X e t' := ⟨fun pins s σ H Q I q => h.run pins s σ H Q I (w σ H Q q)⟩
theorem PTw {e : Expr} {t t' : TT} (h : PT X e t) (w : ∀ σ H Q, t' σ H Q → t σ H Q) : PT X e t' := ⟨fun pins s σ H Q I q => h.run pins s σ H Q I (w σ H Q q)⟩
theorem PWw {e : Expr} {t t' : TT} (h : PW X e t) (w : ∀ σ H Q, t' σ H Q → t σ H Q) : PW X e t' := ⟨fun wh pins s σ H Q I q => h.run wh pins s σ H Q I (w σ H Q q)⟩
theorem PAw {es : List Expr} {t t' : TA} (h : PA X es t) (w : ∀ σ H Q, t' σ H Q → t σ H Q) : PA X es t' := ⟨fun pos pins s σ H Q I q => h.run pos pins s σ H Q I (w σ H Q q)⟩
theorem PSw {e : Stmt} {t t' : TS} (h : PS X e t) (w : ∀ D σ H, t' D σ H → t D σ H) : PS X e t' := ⟨fun pins s σ H D I q => h.run pins s σ H D I (w D σ H q)⟩
theorem PSsw {e : List Stmt} {t t' : TS} (h : PSs X e t) (w : ∀ D σ H, t' D σ H → t D σ H) : PSs X e t' := ⟨fun pins s σ H D I q => h.run pins s σ H D I (w D σ H q)⟩
theorem OpRw {f : Value → Value → Sem Value} {r r' : R2} (h : OpR X f r) (w : ∀ x y H Q, r' x y H Q → r x y H Q) : OpR X f r' := fun pins s σ H x y v u Q I rx ry q => h pins s σ H x y v u Q I rx ry (w x y H Q q)
theorem CallRw {f : Value} {r r' : List V → Hp → VK → Prop} (h : CallR X f r) (w : ∀ xs H Q, r' xs H Q → r xs H Q) : CallR X f r' := fun pins s σ H xs us Q I r q => h pins s σ H xs us Q I r (w xs H Q q)
end
def dv (i : Nat) : DF := fun ρ => lk ρ i
def dc (d : D) : DF := fun _ => some d
def d2 (op : D → D → Option D) (f g : DF) : DF := fun ρ => (f ρ).bind fun x => (g ρ).bind fun y => op x y
def d1 (op : D → Option D) (f : DF) : DF := fun ρ => (f ρ).bind op
def dnil : DFs := fun _ => some []
def dcons (f : DF) (g : DFs) : DFs := fun ρ => (f ρ).bind fun x => (g ρ).bind fun xs => some (x :: xs)
def dL (op : List D → Option D) (f : DFs) : DF := fun ρ => (f ρ).bind op
def asB : D → Option Bool
  | .bl b => some b
  | _ => none
theorem asB_some {d : D} {b : Bool} (h : asB d = some b) : d = .bl b := by
  cases d <;> first | (cases h; rfl) | cases h
def bV (f : DF) : DB := fun ρ => (f ρ).bind asB
def dB (g : DB) : DF := fun ρ => (g ρ).bind fun b => some (.bl b)
def bAnd (g h : DB) : DB := fun ρ => (g ρ).bind fun b => if b = true then h ρ else some false
def bOr (g h : DB) : DB := fun ρ => (g ρ).bind fun b => if b = true then some true else h ρ
def bNot (g : DB) : DB := fun ρ => (g ρ).bind fun b => some (!b)
def dIf (g : DB) (f h : DF) : DF := fun ρ => (g ρ).bind fun b => if b = true then f ρ else h ρ
def opTup (ds : List D) : Option D := if ds.length ≤ 100000 then some (.tup ds) else none
def opLst (ds : List D) : Option D := if ds.length ≤ 100000 then some (.lst ds) else none
section
variable {X : Cx} {C : Addr} {O : List Nat} {a b c e : Expr} {es : List Expr} {f g h : DF} {fs : DFs} {p q r : DB} {pos : Pos}
theorem sz100 {n : Nat} (h : n ≤ 100000) : n ≤ sizeLine := Nat.le_trans h (by decide)
theorem de_var (i : Nat) {x : Str} (hN : X.N[i]? = some x := by rfl) (hv : Vis X.env.scope x := by first | exact Or.inl rfl | exact Or.inr (Or.inl rfl) | exact Or.inr (Or.inr rfl)) (hi : i ∉ O := by decide)
    (hd : (x == ("__debug__" : Str)) = false := by decide) (hcd : (x == ("__classdict__" : Str)) = false := by decide) : DE X C O (.Name x pos) (dv i) :=
  PEw (pe_var hN hv hd hcd) fun σ H Q ⟨F, ρ, d, E, hf, k⟩ => by
    obtain ⟨v, h1, h2⟩ := E.pl i d hi hf
    exact ⟨v, h1, k v F H (Stp.refl E.fh) h2⟩
theorem de_int {i : Int} {j : Nat} : DE X C O (.Constant (.int i) j pos) (dc (.int i)) := PEw pe_int fun σ H Q ⟨F, ρ, d, E, hf, k⟩ => by
  cases hf
  exact k (.int i) F H (Stp.refl E.fh) rfl
theorem de_bl {i : Bool} {j : Nat} : DE X C O (.Constant (.bool i) j pos) (dc (.bl i)) := PEw pe_bl fun σ H Q ⟨F, ρ, d, E, hf, k⟩ => by
  cases hf
  exact k (.bl i) F H (Stp.refl E.fh) rfl
theorem de_non {j : Nat} : DE X C O (.Constant .none j pos) (dc .non) := PEw pe_non fun σ H Q ⟨F, ρ, d, E, hf, k⟩ => by
  cases hf
  exact k .non F H (Stp.refl E.fh) rfl
theorem bind_some {α β : Type} {o : Option α} {k : α → Option β} {y : β} (h : o.bind k = some y) : ∃ x, o = some x ∧ k x = some y := by
  cases o with
  | none => cases h
  | some x => exact ⟨x, rfl, h⟩
/-- two in a row -/
theorem two {K : PySem.W.Frag} {op : D → D → Option D} {σ : L2.St} {H : Hp} {Q : VK} (hw : tD K C O (d2 op f g) σ H Q) : tOp (rD2 K C op) (tD K C O f) (tD K C O g) σ H Q := by
  obtain ⟨F, ρ, d, E, hf, k⟩ := hw
  obtain ⟨x, h1, hf⟩ := bind_some hf
  obtain ⟨y, h2, hf⟩ := bind_some hf
  refine ⟨F, ρ, x, E, h1, fun v F1 H1 s1 r1 => ⟨F1, ρ, y, E.step s1, h2, fun u F2 H2 s2 r2 => ?_⟩⟩
  exact ⟨F2, x, y, d, s2.fh, Rp.mono s2.ff x v r1, r2, hf, k.step (s1.trans s2)⟩
theorem de_op {op : Operator} {o : D → D → Option D} (ho : OpD X C (binaryOp op) o) (ha : DE X C O a f) (hb : DE X C O b g) : DE X C O (.BinOp a op b pos) (d2 o f g) := PEw (pe_op ho ha hb) fun _ _ _ hw => two hw
theorem de_cmp {op : CmpOp} {o : D → D → Option D} (ho : OpD X C (compareOp op) o) (ha : DE X C O a f) (hb : DE X C O b g) (hm : behindInMarks op b = false := by first | exact nomark _ | rfl | with_unfolding_all rfl) : DE X C O (.Compare a [op] [b] pos) (d2 o f g) :=
  PEw (pe_cmpR ho ha hb hm) fun _ _ _ hw => two hw
theorem dt_cmp {op : CmpOp} {o : D → D → Option D} (ho : OpD X C (compareOp op) o) (ha : DE X C O a f) (hb : DE X C O b g) (hm : behindInMarks op b = false := by first | exact nomark _ | rfl | with_unfolding_all rfl) : DT X C O (.Compare a [op] [b] pos) (bV (d2 o f g)) :=
  PTw (pt_cmpR ho ha hb hm) fun σ H Q ⟨F, ρ, t, E, hf, k⟩ => by
    obtain ⟨d, h1, h2⟩ := bind_some hf
    refine two ⟨F, ρ, d, E, h1, fun v F' H' s' r' => ?_⟩
    obtain rfl := asB_some h2
    exact ⟨t, r', k F' H' s'⟩
def dCh (o o' : D → D → Option D) (f g h : DF) : DF := fun ρ => (f ρ).bind fun x => (g ρ).bind fun y => (o x y).bind fun z => (asB z).bind fun k => if k = true then (h ρ).bind fun w => o' y w else some (.bl false)
theorem three {K : PySem.W.Frag} {o o' : D → D → Option D} {σ : L2.St} {H : Hp} {Q : VK} (hw : tD K C O (dCh o o' f g h) σ H Q) : tChain (rD2 K C o) (rD2 K C o') (tD K C O f) (tD K C O g) (tD K C O h) σ H Q := by
  obtain ⟨F, ρ, d, E, hf, k⟩ := hw
  obtain ⟨x, h1, hf1⟩ := bind_some hf
  obtain ⟨y, h2, hf2⟩ := bind_some hf1
  obtain ⟨z, h3, hf3⟩ := bind_some hf2
  obtain ⟨t, h4, hf4⟩ := bind_some hf3
  obtain rfl := asB_some h4
  clear hf hf1 hf2 hf3
  refine ⟨F, ρ, x, E, h1, fun v F1 H1 s1 r1 => ⟨F1, ρ, y, E.step s1, h2, fun u F2 H2 s2 r2 => ⟨F2, x, y, _, s2.fh, Rp.mono s2.ff x v r1, r2, h3, fun z' F3 H3 s3 r3 => ?_⟩⟩⟩
  refine ⟨t, r3, ?_⟩
  cases t with
  | true =>
    rw [if_pos rfl] at hf4 ⊢
    obtain ⟨w', h5, hf5⟩ := bind_some hf4
    refine ⟨F3, ρ, w', E.step (s1.trans (s2.trans s3)), h5, fun w4 F4 H4 s4 r4 => ?_⟩
    exact ⟨F4, y, w', d, s4.fh, Rp.mono (s3.ff.trans s4.ff) y u r2, r4, hf5, k.step (s1.trans (s2.trans (s3.trans s4)))⟩
  | false =>
    rw [if_neg Bool.false_ne_true] at hf4 ⊢
    cases hf4
    exact k _ F3 H3 (s1.trans (s2.trans s3)) rfl
theorem de_chain {op op' : CmpOp} {o o' : D → D → Option D} (ho : OpD X C (compareOp op) o) (ho' : OpD X C (compareOp op') o') (ha : DE X C O a f) (hb : DE X C O b g) (hc : DE X C O c h)
    (hm : lastMarks [op, op'] [b, c] = false := by with_unfolding_all rfl) : DE X C O (.Compare a [op, op'] [b, c] pos) (dCh o o' f g h) := PEw (pe_chain ho ho' ha hb hc hm) fun _ _ _ hw => three hw
theorem dt_chain {op op' : CmpOp} {o o' : D → D → Option D} (ho : OpD X C (compareOp op) o) (ho' : OpD X C (compareOp op') o') (ha : DE X C O a f) (hb : DE X C O b g) (hc : DE X C O c h)
    (hm : lastMarks [op, op'] [b, c] = false := by with_unfolding_all rfl) : DT X C O (.Compare a [op, op'] [b, c] pos) (bV (dCh o o' f g h)) :=
  PTw (pt_chain ho ho' ha hb hc hm) fun σ H Q ⟨F, ρ, t, E, hf, k⟩ => by
    obtain ⟨d, h1, h2⟩ := bind_some hf
    refine three ⟨F, ρ, d, E, h1, fun v F' H' s' r' => ?_⟩
    obtain rfl := asB_some h2
    exact ⟨t, r', k F' H' s'⟩
theorem dt_val (ha : DE X C O a f) (he : ∀ whole, isTrue a X.env whole = (do let v ← whole; standAt a.pos; holding [v] (truthy v)) := by intro _; rfl) : DT X C O a (bV f) :=
  PTw (pt_val ha he) fun σ H Q ⟨F, ρ, t, E, hf, k⟩ => by
    obtain ⟨d, h1, h2⟩ := bind_some hf
    refine ⟨F, ρ, d, E, h1, fun v F' H' s' r' => ?_⟩
    obtain rfl := asB_some h2
    exact ⟨t, r', k F' H' s'⟩
theorem and_rd {K : PySem.W.Frag} {σ : L2.St} {H : Hp} {Q : Bool → Hp → Prop} (hw : tDT K C O (bAnd p q) σ H Q) : tAnd (tDT K C O p) (tDT K C O q) σ H Q := by
  obtain ⟨F, ρ, t, E, hf, k⟩ := hw
  obtain ⟨d, h1, hf⟩ := bind_some hf
  refine ⟨F, ρ, d, E, h1, fun F1 H1 s1 => ?_⟩
  cases d with
  | true =>
    rw [if_pos rfl] at hf ⊢
    exact ⟨F1, ρ, t, E.step s1, hf, fun F2 H2 s2 => k F2 H2 (s1.trans s2)⟩
  | false =>
    rw [if_neg Bool.false_ne_true] at hf ⊢
    cases hf
    exact k F1 H1 s1
theorem or_rd {K : PySem.W.Frag} {σ : L2.St} {H : Hp} {Q : Bool → Hp → Prop} (hw : tDT K C O (bOr p q) σ H Q) : tOr (tDT K C O p) (tDT K C O q) σ H Q := by
  obtain ⟨F, ρ, t, E, hf, k⟩ := hw
  obtain ⟨d, h1, hf⟩ := bind_some hf
  refine ⟨F, ρ, d, E, h1, fun F1 H1 s1 => ?_⟩
  cases d with
  | false =>
    rw [if_neg Bool.false_ne_true] at hf ⊢
    exact ⟨F1, ρ, t, E.step s1, hf, fun F2 H2 s2 => k F2 H2 (s1.trans s2)⟩
  | true =>
    rw [if_pos rfl] at hf ⊢
    cases hf
    exact k F1 H1 s1
variable {rest : List Expr}
theorem dw_and1 (ha : DT X C O a p) : DWt X C O (.BoolOp .And [a] pos) p := pw_and1 ha
theorem dw_or1 (ha : DT X C O a p) : DWt X C O (.BoolOp .Or [a] pos) p := pw_or1 ha
theorem dw_and (ha : DT X C O a p) (hb : DWt X C O (.BoolOp .And (b :: rest) pos) q) : DWt X C O (.BoolOp .And (a :: b :: rest) pos) (bAnd p q) := PWw (pw_and ha hb) fun _ _ _ hw => and_rd hw
theorem dw_or (ha : DT X C O a p) (hb : DWt X C O (.BoolOp .Or (b :: rest) pos) q) : DWt X C O (.BoolOp .Or (a :: b :: rest) pos) (bOr p q) := PWw (pw_or ha hb) fun _ _ _ hw => or_rd hw
theorem dt_w (h : DWt X C O e p) : DT X C O e p := h.pt
theorem dt_not (ha : DT X C O a p) : DT X C O (.UnaryOp .Not a pos) (bNot p) := PTw (pt_not ha) fun σ H Q ⟨F, ρ, t, E, hf, k⟩ => by
  obtain ⟨d, h1, hf⟩ := bind_some hf
  cases hf
  exact ⟨F, ρ, d, E, h1, k⟩
/-- and, or, not as values (of bools) -/
theorem de_one {op : BoolOp} (ha : DE X C O a f) : DE X C O (.BoolOp op [a] pos) f := pe_one ha
def dAnd (f g : DF) : DF := fun ρ => (f ρ).bind fun x => (asB x).bind fun b => if b = true then g ρ else some (.bl false)
def dOr (f g : DF) : DF := fun ρ => (f ρ).bind fun x => (asB x).bind fun b => if b = true then some (.bl true) else g ρ
def dNot (f : DF) : DF := fun ρ => (f ρ).bind fun x => (asB x).bind fun b => some (.bl (!b))
theorem de_and (ha : DE X C O a f) (hb : DE X C O (.BoolOp .And (b :: rest) pos) g) : DE X C O (.BoolOp .And (a :: b :: rest) pos) (dAnd f g) := PEw (pe_and ha hb) fun σ H Q ⟨F, ρ, t, E, hf, k⟩ => by
  obtain ⟨x, h1, hf1⟩ := bind_some hf
  obtain ⟨d, h2, hf2⟩ := bind_some hf1
  obtain rfl := asB_some h2
  clear hf hf1
  have hf := hf2
  clear hf2
  refine ⟨F, ρ, _, E, h1, fun v F1 H1 s1 r1 => ⟨d, r1, ?_⟩⟩
  cases d with
  | true =>
    rw [if_pos rfl] at hf ⊢
    exact ⟨F1, ρ, t, E.step s1, hf, k.step s1⟩
  | false =>
    rw [if_neg Bool.false_ne_true] at hf ⊢
    cases hf
    exact k _ F1 H1 s1 rfl
theorem de_not (ha : DE X C O a f) : DE X C O (.UnaryOp .Not a pos) (dNot f) := PEw (pe_not ha) fun σ H Q ⟨F, ρ, t, E, hf, k⟩ => by
  obtain ⟨x, h1, hf1⟩ := bind_some hf
  obtain ⟨d, h2, hf2⟩ := bind_some hf1
  obtain rfl := asB_some h2
  clear hf hf1
  have hf := hf2
  clear hf2
  cases hf
  exact ⟨F, ρ, _, E, h1, fun v F1 H1 s1 r1 => ⟨d, r1, k _ F1 H1 s1 rfl⟩⟩
theorem de_if (ht : DT X C O c p) (ha : DE X C O a f) (hb : DE X C O b g) : DE X C O (.IfExp c a b pos) (dIf p f g) := PEw (pe_ifExp ht ha hb) fun σ H Q ⟨F, ρ, t, E, hf, k⟩ => by
  obtain ⟨d, h1, hf⟩ := bind_some hf
  refine ⟨F, ρ, d, E, h1, fun F1 H1 s1 => ?_⟩
  cases d with
  | true =>
    rw [if_pos rfl] at hf ⊢
    exact ⟨F1, ρ, t, E.step s1, hf, k.step s1⟩
  | false =>
    rw [if_neg Bool.false_ne_true] at hf ⊢
    exact ⟨F1, ρ, t, E.step s1, hf, k.step s1⟩
theorem da_nil : DA X C O [] dnil := PAw pa_nil fun σ H Q ⟨F, ρ, t, E, hf, k⟩ => by
  cases hf
  exact k [] F H (Stp.refl E.fh) RpL.nil
theorem da_cons (ha : DE X C O a f) (hr : DA X C O es fs) (hs : starEach (a :: es) X.env = (false, eval a X.env) :: starEach es X.env := by rfl) : DA X C O (a :: es) (dcons f fs) := PAw (pa_cons ha hr hs) fun σ H Q ⟨F, ρ, t, E, hf, k⟩ => by
  obtain ⟨x, h1, hf⟩ := bind_some hf
  obtain ⟨xs, h2, hf⟩ := bind_some hf
  cases hf
  exact ⟨F, ρ, x, E, h1, fun v F1 H1 s1 r1 => ⟨F1, ρ, xs, E.step s1, h2, fun vs F2 H2 s2 r2 => k _ F2 H2 (s1.trans s2) (RpL.cons (Rp.mono s2.ff x v r1) r2)⟩⟩
theorem de_tup {j : Nat} (ha : DA X C O es fs) : DE X C O (.Tuple es j pos) (dL opTup fs) := PEw (pe_tup ha) fun σ H Q ⟨F, ρ, t, E, hf, k⟩ => by
  obtain ⟨ds, h1, hf⟩ := bind_some hf
  unfold opTup at hf
  split at hf
  · rename_i hz
    cases hf
    refine ⟨F, ρ, ds, E, h1, fun vs F1 H1 s1 r1 => ⟨by rw [← r1.len]; exact sz100 hz, fun p hp => ?_⟩⟩
    have s2 := Stp.new (o := .tup vs) s1.fh hp
    exact k _ _ _ (s1.trans s2) ⟨p, vs, rfl, upd_same, RpL.mono s2.ff _ _ r1⟩
  · cases hf
theorem de_lst (ha : DA X C O es fs) : DE X C O (.List es pos) (dL opLst fs) := PEw (pe_lst ha) fun σ H Q ⟨F, ρ, t, E, hf, k⟩ => by
  obtain ⟨ds, h1, hf⟩ := bind_some hf
  unfold opLst at hf
  split at hf
  · rename_i hz
    cases hf
    refine ⟨F, ρ, ds, E, h1, fun vs F1 H1 s1 r1 => ⟨by rw [← r1.len]; exact sz100 hz, fun p hp => ?_⟩⟩
    have s2 := Stp.new (o := .lst vs) s1.fh hp
    exact k _ _ _ (s1.trans s2) ⟨p, vs, rfl, upd_same, RpL.mono s2.ff _ _ r1⟩
  · cases hf
theorem rdl_rd {K : PySem.W.Frag} {o : List D → Option D} {σ : L2.St} {H : Hp} {Q : VK} (hw : tD K C O (dL o fs) σ H Q) : tCB (rDL K C o) (tDA K C O fs) σ H Q := by
  obtain ⟨F, ρ, t, E, hf, k⟩ := hw
  obtain ⟨ds, h1, hf⟩ := bind_some hf
  exact ⟨F, ρ, ds, E, h1, fun vs F1 H1 s1 r1 => ⟨F1, ds, t, s1.fh, r1, hf, k.step s1⟩⟩
theorem de_callB {x : Str} {id : String} {p : Pos} {o : List D → Option D} (hc : CallD X C (.builtin id) o) (hg : Gl X x) (hm : X.mg x = none) (hv : bootBuiltins x = some (.builtin id)) (ha : DA X C O (e :: es) fs)
    (hn : x ≠ "__name__" := by decide) (hd : (x == ("__debug__" : Str)) = false := by decide) (he : starEach (e :: es) X.env = (false, eval e X.env) :: starEach es X.env := by rfl) (hpl : (backTo pos (starEach es X.env)).any (·.1) = false := by rfl) :
    DE X C O (.Call (.Name x p) (e :: es) [] pos) (dL o fs) := PEw (by first | exact pe_callB hc hg hm hv ha | exact pe_callB hc hg hm hv ha hn hd he hpl) fun _ _ _ hw => rdl_rd hw
theorem de_callTy {x : Str} {T : String} {p : Pos} {o : List D → Option D} (hc : CallD X C (.type T) o) (hg : Gl X x) (hm : X.mg x = none) (hv : bootBuiltins x = some (.type T)) (ha : DA X C O (e :: es) fs)
    (hn : x ≠ "__name__" := by decide) (hd : (x == ("__debug__" : Str)) = false := by decide) (he : starEach (e :: es) X.env = (false, eval e X.env) :: starEach es X.env := by rfl) (hpl : (backTo pos (starEach es X.env)).any (·.1) = false := by rfl) :
    DE X C O (.Call (.Name x p) (e :: es) [] pos) (dL o fs) := PEw (by first | exact pe_callTy hc hg hm hv ha | exact pe_callTy hc hg hm hv ha hn hd he hpl) fun _ _ _ hw => rdl_rd hw
/-- the promise of a pure def -/
def spD (K : PySem.W.Frag) (C : Addr) (m : List D → Option D) : Sp := fun vs H Q _ => ∃ F ds d, Same F H ∧ RpL K C F ds vs ∧ m ds = some d ∧ Got K C F H d Q
/-- a pure def that may be called by its name x -/
structure Cal (P : Program) (w : World) (K : PySem.W.Frag) (mg : Str → Option Value) (base : Heap) (C : Addr) (k : Nat) (x : Str) (ps : List Str) (m : List D → Option D) : Prop where
  ex : ∃ f fd, FnOk P w K mg base CX0 k f fd ps (spD K C m) ∧ mg x = some (.ref f) ∧ PySem.W.keepIn K (.ref f) = true ∧ Binds K fd ps []
theorem de_call {x : Str} {p : Pos} {k j : Nat} {ps : List Str} {m : List D → Option D} (cl : Cal X.prog X.w X.K X.mg X.base C k x ps m) (hr : Room j X.A) (hg : Gl X x) (ha : DA X C O (e :: es) fs) (hk : k ≤ j := by decide)
    (hdb : (x == ("__debug__" : Str)) = false := by decide) (he : starEach (e :: es) X.env = (false, eval e X.env) :: starEach es X.env := by rfl) (hpl : (backTo pos (starEach es X.env)).any (·.1) = false := by rfl) :
    DE X C O (.Call (.Name x p) (e :: es) [] pos) (dL m fs) := by
  obtain ⟨f, fd, F, hm, hkp, hb⟩ := cl.ex
  refine PEw (pe_call F (hr.mono hk) hg hm hkp hb .nil pass0 ha hdb he hpl) fun σ H Q ⟨F, ρ, t, E, hf, k⟩ => ?_
  obtain ⟨ds, h1, hf⟩ := bind_some hf
  refine ⟨F, ρ, ds, E, h1, fun vs F1 H1 s1 r1 => ?_⟩
  show spD X.K C m (vs ++ []) H1 Q E0
  rw [List.append_nil]
  exact ⟨F1, ds, t, s1.fh, r1, hf, k.step s1⟩
theorem de_ix {o : D → D → Option D} (ho : IxD X C o) (ha : DE X C O a f) (hb : DE X C O b g) (hs : PlainIx b := by exact fun _ _ => rfl) : DE X C O (.Subscript a b pos) (d2 o f g) := PEw (pe_ix ho ha hb hs) fun _ _ _ hw => two hw
end
end DL
namespace DL
open PySem PySem.Spec PyProof.Rows L2
mutual
def eqD : D → D → Bool
  | .non, .non => true
  | .bl a, .bl b => a == b
  | .bl a, .int j => (if a then 1 else 0) == j
  | .int i, .bl b => i == (if b then 1 else 0)
  | .int i, .int j => i == j
  | .str x, .str y => x == y
  | .tup xs, .tup ys => eqDs xs ys
  | .lst xs, .lst ys => eqDs xs ys
  | _, _ => false
def eqDs : List D → List D → Bool
  | [], [] => true
  | x :: xs, y :: ys => eqD x y && eqDs xs ys
  | _, _ => false
end
mutual
/-- nested at most n deep, no bells, no script within -/
def okD : Nat → D → Bool
  | _, .non => true
  | _, .bl _ => true
  | _, .int _ => true
  | _, .str x => PySem.PyData.strOk x
  | 0, .tup _ => false
  | 0, .lst _ => false
  | n + 1, .tup xs => okDs n xs
  | n + 1, .lst xs => okDs n xs
  | _, .bell _ => false
  | _, .scr _ => false
def okDs : Nat → List D → Bool
  | _, [] => true
  | n, x :: xs => okD n x && okDs n xs
end
mutual
def toP : D → PyData
  | .non => .none
  | .bl b => .bool b
  | .int i => .int i
  | .str x => .str x
  | .tup xs => .tuple (toPs xs)
  | .lst xs => .list (toPs xs)
  | .bell _ => .dict []
  | .scr _ => .dict []
def toPs : List D → List PyData
  | [] => []
  | x :: xs => toP x :: toPs xs
end
mutual
theorem eqD_toP : ∀ (n : Nat) (d e : D), okD n d = true → okD n e = true → PyData.eqv (toP d) (toP e) = eqD d e
  | n, .non, e, h1, h2 => by cases e <;> simp [okD, toP, eqD, PyData.eqv] at h2 ⊢
  | n, .bl b, e, h1, h2 => by cases e <;> simp [okD, toP, eqD, PyData.eqv] at h2 ⊢
  | n, .int i, e, h1, h2 => by cases e <;> simp [okD, toP, eqD, PyData.eqv] at h2 ⊢
  | n, .str x, e, h1, h2 => by cases e <;> simp [okD, toP, eqD, PyData.eqv] at h2 ⊢
  | 0, .tup xs, e, h1, h2 => by simp [okD] at h1
  | 0, .lst xs, e, h1, h2 => by simp [okD] at h1
  | n + 1, .tup xs, e, h1, h2 => by
    cases e with
    | tup ys =>
      simp only [okD, toP, eqD, PyData.eqv] at h1 h2 ⊢
      exact eqDs_toP n xs ys h1 h2
    | _ => simp [okD, toP, eqD, PyData.eqv] at h2 ⊢
  | n + 1, .lst xs, e, h1, h2 => by
    cases e with
    | lst ys =>
      simp only [okD, toP, eqD, PyData.eqv] at h1 h2 ⊢
      exact eqDs_toP n xs ys h1 h2
    | _ => simp [okD, toP, eqD, PyData.eqv] at h2 ⊢
  | n, .bell _, e, h1, h2 => by cases n <;> simp [okD] at h1
  | n, .scr _, e, h1, h2 => by cases n <;> simp [okD] at h1
theorem eqDs_toP : ∀ (n : Nat) (xs ys : List D), okDs n xs = true → okDs n ys = true → PyData.eqvAll (toPs xs) (toPs ys) = eqDs xs ys
  | n, [], ys, h1, h2 => by cases ys <;> simp [toPs, eqDs, PyData.eqvAll]
  | n, x :: xs, [], h1, h2 => by simp [toPs, eqDs, PyData.eqvAll]
  | n, x :: xs, y :: ys, h1, h2 => by
    simp only [okDs, Bool.and_eq_true] at h1 h2
    simp only [toPs, eqDs, PyData.eqvAll]
    rw [eqD_toP n x y h1.1 h2.1, eqDs_toP n xs ys h1.2 h2.2]
end
mutual
theorem okD_lay : ∀ (n : Nat) (d : D), okD n d = true → (toP d).canLay0 = true ∧ (toP d).depth ≤ n
  | n, .non, _ => by simp [toP, PyData.canLay0, PyData.depth]
  | n, .bl b, _ => by simp [toP, PyData.canLay0, PyData.depth]
  | n, .int i, _ => by simp [toP, PyData.canLay0, PyData.depth]
  | n, .str x, h => by cases n <;> simpa [okD, toP, PyData.canLay0, PyData.depth] using h
  | 0, .tup xs, h => by simp [okD] at h
  | 0, .lst xs, h => by simp [okD] at h
  | n + 1, .tup xs, h => by
    simp only [okD] at h
    obtain ⟨h1, h2⟩ := okDs_lay n xs h
    simp only [toP, PyData.canLay0, PyData.depth]
    exact ⟨h1, by omega⟩
  | n + 1, .lst xs, h => by
    simp only [okD] at h
    obtain ⟨h1, h2⟩ := okDs_lay n xs h
    simp only [toP, PyData.canLay0, PyData.depth]
    exact ⟨h1, by omega⟩
  | n, .bell _, h => by cases n <;> simp [okD] at h
  | n, .scr _, h => by cases n <;> simp [okD] at h
theorem okDs_lay : ∀ (n : Nat) (ds : List D), okDs n ds = true → PyData.canLayAll0 (toPs ds) = true ∧ PyData.depthAll (toPs ds) ≤ n
  | n, [], _ => by simp [toPs, PyData.canLayAll0, PyData.depthAll]
  | n, x :: xs, h => by
    simp only [okDs, Bool.and_eq_true] at h
    obtain ⟨h1, h2⟩ := okD_lay n x h.1
    obtain ⟨h3, h4⟩ := okDs_lay n xs h.2
    simp only [toPs, PyData.canLayAll0, PyData.depthAll, h1, h3, Bool.and_self]
    exact ⟨trivial, by omega⟩
end
theorem shaped_ok {d : D} {n : Nat} (h : okD n d = true) (hn : n ≤ 64) : SeqAt.shaped (toP d) = true := by
  obtain ⟨h1, h2⟩ := okD_lay n d h
  unfold SeqAt.shaped
  rw [h1, decide_eq_true (Nat.le_trans h2 hn)]
  rfl
section
variable {K : PySem.W.Frag} {C : Addr} {H : Hp}
mutual
theorem Rp.dp : ∀ (n : Nat) (d : D) (v : V), okD n d = true → Rp K C H d v → Dp K H v (toP d)
  | _, .non, v, _, h => by
    have e : v = .non := h
    subst e
    exact .non
  | _, .bl b, v, _, h => by
    have e : v = .bl b := h
    subst e
    exact .bl b
  | _, .int i, v, _, h => by
    have e : v = .int i := h
    subst e
    exact .int i
  | _, .str x, v, _, h => by
    have e : v = .str x := h
    subst e
    exact .str x
  | 0, .tup xs, v, o, h => by simp [okD] at o
  | 0, .lst xs, v, o, h => by simp [okD] at o
  | n + 1, .tup ds, v, o, h => by
    simp only [Rp] at h
    simp only [okD] at o
    obtain ⟨a, xs, rfl, ha, hl⟩ := h
    simp only [toP]
    exact .tup (SqT.of ha) (RpL.dp n ds xs o hl)
  | n + 1, .lst ds, v, o, h => by
    simp only [Rp] at h
    simp only [okD] at o
    obtain ⟨a, xs, rfl, ha, hl⟩ := h
    simp only [toP]
    exact .lst (SqL.of ha) (RpL.dp n ds xs o hl)
  | n, .bell _, _, o, _ => by cases n <;> simp [okD] at o
  | n, .scr _, _, o, _ => by cases n <;> simp [okD] at o
theorem RpL.dp : ∀ (n : Nat) (ds : List D) (vs : List V), okDs n ds = true → RpL K C H ds vs → DpAll K H vs (toPs ds)
  | _, [], vs, _, h => by
    have e : vs = [] := h
    subst e
    simp only [toPs]
    exact .nil
  | n, d :: ds, vs, o, h => by
    simp only [RpL] at h
    simp only [okDs, Bool.and_eq_true] at o
    obtain ⟨x, r, rfl, h1, h2⟩ := h
    simp only [toPs]
    exact .cons (Rp.dp n d x o.1 h1) (RpL.dp n ds r o.2 h2)
end
end
theorem szl_ok {n : Nat} (h : n ≤ 16777216) : n ≤ sizeLine := by rw [sizeLine_eq]; exact h
def opAdd : D → D → Option D
  | .int a, .int b => some (.int (a + b))
  | .tup a, .tup b => if a.length + b.length ≤ 16777216 then some (.tup (a ++ b)) else none
  | .lst a, .lst b => if a.length + b.length ≤ 16777216 then some (.lst (a ++ b)) else none
  | .str a, .str b => if a.length + b.length ≤ 16777216 then some (.str (a ++ b)) else none
  | _, _ => none
def opSub : D → D → Option D
  | .int a, .int b => some (.int (a - b))
  | _, _ => none
/-- one factor below 2 ^ 64 -/
def mulOk (a b : Int) : Bool := (decide (-18446744073709551616 < a) && decide (a < 18446744073709551616)) || (decide (-18446744073709551616 < b) && decide (b < 18446744073709551616))
def opMul : D → D → Option D
  | .int a, .int b => if mulOk a b = true then some (.int (a * b)) else none
  | .lst a, .int k => if k ≤ 16777216 ∧ -16777216 ≤ k ∧ a.length * k.toNat ≤ 16777216 then some (.lst (List.replicate k.toNat a).flatten) else none
  | .tup a, .int k => if 2 ≤ k ∧ k ≤ 1000 ∧ a.length ≤ 1000 ∧ a.isEmpty = false then some (.tup (List.replicate k.toNat a).flatten) else none
  | _, _ => none
def opFdiv : D → D → Option D
  | .int a, .int b => if 0 < b ∧ b < 18446744073709551616 then some (.int (a / b)) else none
  | _, _ => none
def opMod : D → D → Option D
  | .int a, .int b => if 0 < b then some (.int (a % b)) else none
  | _, _ => none
def opPow : D → D → Option D
  | .int a, .int b => if 0 ≤ b ∧ b ≤ 1000 ∧ 0 ≤ a ∧ a ≤ 1000000 then some (.int (a ^ b.toNat)) else none
  | _, _ => none
def opNeg : D → Option D
  | .int a => some (.int (-a))
  | _ => none
def opEq (d e : D) : Option D := if okD 60 d = true ∧ okD 60 e = true then some (.bl (eqD d e)) else none
def opNe (d e : D) : Option D := if okD 60 d = true ∧ okD 60 e = true then some (.bl (!eqD d e)) else none
def asInts : List D → Option (List Int)
  | [] => some []
  | .int i :: r => (asInts r).map (i :: ·)
  | _ :: _ => none
def lexI : List Int → List Int → Bool
  | _, [] => false
  | [], _ :: _ => true
  | x :: xs, y :: ys => if x = y then lexI xs ys else decide (x < y)
def opLt : D → D → Option D
  | .int a, .int b => some (.bl (decide (a < b)))
  | .tup a, .tup b => (asInts a).bind fun x => (asInts b).bind fun y => some (.bl (lexI x y))
  | _, _ => none
def opLe : D → D → Option D
  | .int a, .int b => some (.bl (decide (a ≤ b)))
  | _, _ => none
def opGt : D → D → Option D
  | .int a, .int b => some (.bl (decide (b < a)))
  | .tup a, .tup b => (asInts a).bind fun x => (asInts b).bind fun y => some (.bl (lexI y x))
  | _, _ => none
def opGe : D → D → Option D
  | .int a, .int b => some (.bl (decide (b ≤ a)))
  | _, _ => none
def inD (d : D) (ds : List D) : Bool := ds.any fun z => eqD z d
def opIn : D → D → Option D
  | d, .lst ds => if okD 60 d = true ∧ okDs 60 ds = true then some (.bl (inD d ds)) else none
  | d, .tup ds => if okD 60 d = true ∧ okDs 60 ds = true then some (.bl (inD d ds)) else none
  | _, _ => none
def opNotIn : D → D → Option D
  | d, .lst ds => if okD 60 d = true ∧ okDs 60 ds = true then some (.bl (!inD d ds)) else none
  | d, .tup ds => if okD 60 d = true ∧ okDs 60 ds = true then some (.bl (!inD d ds)) else none
  | _, _ => none
def isNone : D → Bool
  | .non => true
  | _ => false
def opIs : D → D → Option D
  | .bl a, .bl b => some (.bl (decide (a = b)))
  | d, .non => some (.bl (isNone d))
  | _, _ => none
def opIsNot : D → D → Option D
  | .bl a, .bl b => some (.bl (!decide (a = b)))
  | d, .non => some (.bl (!isNone d))
  | _, _ => none
def ixNat (n : Nat) (i : Int) : Option Nat := if 0 ≤ i then (if i < n then some i.toNat else none) else if -(n : Int) ≤ i then some (i + n).toNat else none
def opIx : D → D → Option D
  | .tup xs, .int i => (ixNat xs.length i).bind fun j => xs[j]?
  | .lst xs, .int i => (ixNat xs.length i).bind fun j => xs[j]?
  | .scr xs, .int i => (ixNat xs.length i).bind fun j => xs[j]?.map D.int
  | _, _ => none
section
variable {X : Cx} {C : Addr}
theorem got0 {K : PySem.W.Frag} {F H : Hp} {d : D} {Q : VK} {v : V} (g : Got K C F H d Q) (fh : Same F H) (r : Rp K C F d v) : Q v H := g v F H (Stp.refl fh) r
theorem gotN {K : PySem.W.Frag} {F H : Hp} {d : D} {Q : VK} {p : Addr} {o : HO} (g : Got K C F H d Q) (fh : Same F H) (hp : H p = none) (r : Rp K C (upd F p o) d (.ref p)) : Q (.ref p) (upd H p o) := g _ _ _ (Stp.new fh hp) r
theorem intsRp {K : PySem.W.Frag} {F : Hp} : ∀ {ds : List D} {ns : List Int} {vs : List V}, asInts ds = some ns → RpL K C F ds vs → vs = ns.map V.int
  | [], ns, vs, e, h => by
    cases e
    exact h
  | .int i :: ds, ns, vs, e, h => by
    simp only [asInts, Option.map_eq_some_iff] at e
    obtain ⟨ns', e1, rfl⟩ := e
    obtain ⟨x, r, rfl, h1, h2⟩ := h
    have h1' : x = .int i := h1
    rw [h1', intsRp e1 h2]
    rfl
  | .non :: _, _, _, e, _ => by simp [asInts] at e
  | .bl _ :: _, _, _, e, _ => by simp [asInts] at e
  | .str _ :: _, _, _, e, _ => by simp [asInts] at e
  | .tup _ :: _, _, _, e, _ => by simp [asInts] at e
  | .lst _ :: _, _, _, e, _ => by simp [asInts] at e
  | .bell _ :: _, _, _, e, _ => by simp [asInts] at e
  | .scr _ :: _, _, _, e, _ => by simp [asInts] at e
theorem RpL.nil_of {K : PySem.W.Frag} {F : Hp} {ds : List D} (h : RpL K C F ds []) : ds = [] := List.eq_nil_of_length_eq_zero h.len
theorem od_add : OpD X C (binaryOp .Add) opAdd := OpRw (op_add.or (op_catA.or (op_cat.or op_add_str))) fun x y H Q ⟨F, d, e, c, fh, r1, r2, ho, g⟩ => by
  cases d <;> cases e <;> first | (cases ho; done) | skip
  · cases ho
    exact .inl ⟨_, _, r1, r2, got0 g fh rfl⟩
  · simp only [opAdd] at ho
    split at ho
    · rename_i hz
      cases ho
      exact .inr (.inr (.inr ⟨_, _, r1, r2, szl_ok hz, got0 g fh rfl⟩))
    · cases ho
  · simp only [opAdd] at ho
    split at ho
    · rename_i hz
      cases ho
      obtain ⟨a, xs, rfl, ha, hl⟩ := r1
      obtain ⟨b, ys, rfl, hb, hm⟩ := r2
      have l1 := hl.len
      have l2 := hm.len
      refine .inr (.inl ⟨a, b, xs, ys, rfl, rfl, SqT.of (fh _ _ ha), SqT.of (fh _ _ hb), szl_ok (by omega), fun e0 => ?_, fun e0 e1 => ?_, fun e0 e1 p hp => ?_⟩)
      · subst e0
        obtain rfl := RpL.nil_of hl
        exact got0 g fh ⟨b, ys, rfl, hb, hm⟩
      · subst e1
        obtain rfl := RpL.nil_of hm
        rw [List.append_nil] at g
        exact got0 g fh ⟨a, xs, rfl, ha, hl⟩
      · have sm := same_upd (o := .tup (xs ++ ys)) (none_of_same fh hp)
        exact gotN g fh hp ⟨p, _, rfl, upd_same, RpL.append (RpL.mono sm _ _ hl) (RpL.mono sm _ _ hm)⟩
    · cases ho
  · simp only [opAdd] at ho
    split at ho
    · rename_i hz
      cases ho
      obtain ⟨a, xs, rfl, ha, hl⟩ := r1
      obtain ⟨b, ys, rfl, hb, hm⟩ := r2
      have l1 := hl.len
      have l2 := hm.len
      refine .inr (.inr (.inl ⟨a, b, xs, ys, rfl, rfl, fh _ _ ha, fh _ _ hb, szl_ok (by omega), fun p hp => ?_⟩))
      have sm := same_upd (o := .lst (xs ++ ys)) (none_of_same fh hp)
      exact gotN g fh hp ⟨p, _, rfl, upd_same, RpL.append (RpL.mono sm _ _ hl) (RpL.mono sm _ _ hm)⟩
    · cases ho
theorem od_sub : OpD X C (binaryOp .Sub) opSub := OpRw op_sub fun x y H Q ⟨F, d, e, c, fh, r1, r2, ho, g⟩ => by
  cases d <;> cases e <;> first | (cases ho; done) | skip
  cases ho
  exact ⟨_, _, r1, r2, got0 g fh rfl⟩
theorem mulOk_CMul {a b : Int} (h : mulOk a b = true) : CMul a b := by
  unfold mulOk at h
  simp only [Bool.or_eq_true, Bool.and_eq_true, decide_eq_true_eq] at h
  unfold CMul
  have e : (2 : Int) ^ 64 = 18446744073709551616 := by decide
  rw [e]
  exact h
theorem od_mul : OpD X C (binaryOp .Mult) opMul := OpRw (op_mul.or (op_rep.or op_repT)) fun x y H Q ⟨F, d, e, c, fh, r1, r2, ho, g⟩ => by
  cases d <;> cases e <;> first | (cases ho; done) | skip
  · simp only [opMul] at ho
    split at ho
    · rename_i hz
      cases ho
      exact .inl ⟨_, _, r1, r2, mulOk_CMul hz, got0 g fh rfl⟩
    · cases ho
  · simp only [opMul] at ho
    split at ho
    · rename_i hz
      cases ho
      obtain ⟨a, xs, rfl, ha, hl⟩ := r1
      have l1 := hl.len
      refine .inr (.inr ⟨a, _, xs, rfl, r2, SqT.of (fh _ _ ha), fun e0 => ?_, hz.1, hz.2.1, by omega, fun p hp => ?_⟩)
      · subst e0
        obtain rfl := RpL.nil_of hl
        exact absurd hz.2.2.2 (by simp)
      · exact gotN g fh hp ⟨p, _, rfl, upd_same, RpL.rep (RpL.mono (same_upd (none_of_same fh hp)) _ _ hl) _⟩
    · cases ho
  · simp only [opMul] at ho
    split at ho
    · rename_i hz
      cases ho
      obtain ⟨a, xs, rfl, ha, hl⟩ := r1
      have l1 := hl.len
      have e63 : (2 : Int) ^ 63 = 9223372036854775808 := by decide
      refine .inr (.inl ⟨a, _, xs, rfl, r2, fh _ _ ha, by rw [e63]; omega, by rw [e63]; omega, szl_ok (by rw [← l1]; exact hz.2.2), fun p hp => ?_⟩)
      exact gotN g fh hp ⟨p, _, rfl, upd_same, RpL.rep (RpL.mono (same_upd (none_of_same fh hp)) _ _ hl) _⟩
    · cases ho
theorem od_fdiv : OpD X C (binaryOp .FloorDiv) opFdiv := OpRw op_fdivW fun x y H Q ⟨F, d, e, c, fh, r1, r2, ho, g⟩ => by
  cases d <;> cases e <;> first | (cases ho; done) | skip
  simp only [opFdiv] at ho
  split at ho
  · rename_i hz
    cases ho
    exact ⟨_, _, r1, r2, wide_div (b := 64) hz.1 (by omega) (by decide) (by decide), got0 g fh rfl⟩
  · cases ho
theorem od_mod : OpD X C (binaryOp .Mod) opMod := OpRw op_mod fun x y H Q ⟨F, d, e, c, fh, r1, r2, ho, g⟩ => by
  cases d <;> cases e <;> first | (cases ho; done) | skip
  simp only [opMod] at ho
  split at ho
  · rename_i hz
    cases ho
    exact ⟨_, _, r1, r2, hz, got0 g fh rfl⟩
  · cases ho
theorem od_pow : OpD X C (binaryOp .Pow) opPow := OpRw op_pow fun x y H Q ⟨F, d, e, c, fh, r1, r2, ho, g⟩ => by
  cases d <;> cases e <;> first | (cases ho; done) | skip
  simp only [opPow] at ho
  split at ho
  · rename_i hz
    cases ho
    exact ⟨_, _, r1, r2, ⟨hz.1, by omega, by omega⟩, got0 g fh rfl⟩
  · cases ho
theorem od_eq (hu : X.A.units + 64 < cLine) : OpD X C (compareOp .Eq) opEq := OpRw (op_eqD hu) fun x y H Q ⟨F, d, e, c, fh, r1, r2, ho, g⟩ => by
  unfold opEq at ho
  split at ho
  · rename_i hz
    cases ho
    refine ⟨_, _, Rp.dp 60 d x hz.1 (Rp.mono fh _ _ r1), Rp.dp 60 e y hz.2 (Rp.mono fh _ _ r2), shaped_ok hz.1 (by decide), shaped_ok hz.2 (by decide), ?_⟩
    rw [eqD_toP 60 d e hz.1 hz.2]
    exact got0 g fh rfl
  · cases ho
theorem od_ne (hu : X.A.units + 64 < cLine) : OpD X C (compareOp .NotEq) opNe := OpRw (op_neD hu) fun x y H Q ⟨F, d, e, c, fh, r1, r2, ho, g⟩ => by
  unfold opNe at ho
  split at ho
  · rename_i hz
    cases ho
    refine ⟨_, _, Rp.dp 60 d x hz.1 (Rp.mono fh _ _ r1), Rp.dp 60 e y hz.2 (Rp.mono fh _ _ r2), shaped_ok hz.1 (by decide), shaped_ok hz.2 (by decide), ?_⟩
    rw [eqD_toP 60 d e hz.1 hz.2]
    exact got0 g fh rfl
  · cases ho
theorem lexI_eq : ∀ xs ys : List Int, HT.lexLt xs ys = lexI xs ys
  | [], [] => rfl
  | [], _ :: _ => rfl
  | _ :: _, [] => rfl
  | x :: xs, y :: ys => by
    rw [HT.lexLt_cons]
    show _ = if x = y then lexI xs ys else decide (x < y)
    rw [lexI_eq xs ys]
theorem op_gtT {X : Cx} (hu : X.A.units < cLine) : OpR X (compareOp .Gt) (fun x y H Q => ∃ (a b : Addr) (ns ms : List Int), x = .ref a ∧ y = .ref b ∧ SqT X.K H a (ns.map V.int) ∧ SqT X.K H b (ms.map V.int) ∧
  Q (.bl (Ob.lexAt (fun j => decide (ns.getD j 0 = ms.getD j 0)) (fun j => decide (ms.getD j 0 < ns.getD j 0)) (decide (ns.length > ms.length)) 0 (min ns.length ms.length))) H) := by
  intro pins s σ H x y v u Q I rx ry h
  obtain ⟨a, b, ns, ms, rfl, rfl, ha, hb, q⟩ := h
  cases rx
  cases ry
  obtain ⟨its, r1, p1, _⟩ := I.tuple ha
  obtain ⟨its2, r2, p2, _⟩ := I.tuple hb
  have i1 : IntsAre its ns := Vals.ints r1
  have i2 : IntsAre its2 ms := Vals.ints r2
  have e1 : its.toArray.size = ns.length := by rw [List.size_toArray]; exact i1.length
  have e2 : its2.toArray.size = ms.length := by rw [List.size_toArray]; exact i2.length
  have at1 : ∀ j (h1 : j < its.toArray.size), ∃ t, its.toArray[j] = .int (ns.getD j 0) t := fun j h1 => PyProof.Rows.IntsAre.int_at i1 _ _ (by simp at h1; simp [h1])
  have at2 : ∀ j (h1 : j < its2.toArray.size), ∃ t, its2.toArray[j] = .int (ms.getD j 0) t := fun j h1 => PyProof.Rows.IntsAre.int_at i2 _ _ (by simp at h1; simp [h1])
  have R := Ob.RcOp.tuples_gt (A := X.A) (s := s) (e := fun j => decide (ns.getD j 0 = ms.getD j 0)) (r := fun j => decide (ms.getD j 0 < ns.getD j 0)) p1 p2 hu (fun j h1 h2 => by
    obtain ⟨t, et⟩ := at1 j h1
    obtain ⟨t', et'⟩ := at2 j h2
    rw [et, et']
    have z : (ns.getD j 0 == ms.getD j 0) = decide (ns.getD j 0 = ms.getD j 0) := by
      by_cases q : ns.getD j 0 = ms.getD j 0
      · rw [decide_eq_true q]; exact beq_iff_eq.mpr q
      · rw [decide_eq_false q]; exact beq_eq_false_iff_ne.mpr q
    rw [← z]
    exact SeqAt.EqAt.int_int _ _ _ _) (fun j h1 h2 _ => by
    obtain ⟨t, et⟩ := at1 j h1
    obtain ⟨t', et'⟩ := at2 j h2
    rw [et, et']
    exact Ob.RcOp.gt_int _ _ _ _)
  rw [e1, e2] at R
  have z : wpAny (model X.prog X.w) X.A (compareOp .Gt (.ref a) (.ref b)) (EP X pins σ Q) X.xe s := R X.prog X.w X.xe (EP X pins σ Q) ⟨.bl _, H, I, rfl, q⟩
  exact z
theorem lexAt_shift (e r : Nat → Bool) (z : Bool) : ∀ (k i : Nat), Ob.lexAt e r z (i + 1) k = Ob.lexAt (fun j => e (j + 1)) (fun j => r (j + 1)) z i k
  | 0, i => rfl
  | k + 1, i => by
    rw [Ob.lexAt_succ, Ob.lexAt_succ, lexAt_shift e r z k (i + 1)]
theorem lexAt_gt : ∀ (ns ms : List Int), Ob.lexAt (fun j => decide (ns.getD j 0 = ms.getD j 0)) (fun j => decide (ms.getD j 0 < ns.getD j 0)) (decide (ns.length > ms.length)) 0 (min ns.length ms.length) = lexI ms ns
  | [], [] => rfl
  | [], _ :: _ => rfl
  | _ :: _, [] => by simp [Ob.lexAt_zero, lexI]
  | x :: xs, y :: ys => by
    have e : min (x :: xs).length (y :: ys).length = min xs.length ys.length + 1 := by simp only [List.length_cons]; omega
    rw [e, Ob.lexAt_succ, lexAt_shift]
    have e2 : decide ((x :: xs).length > (y :: ys).length) = decide (xs.length > ys.length) := by
      rw [List.length_cons, List.length_cons]
      exact decide_eq_decide.mpr (by omega)
    rw [e2]
    show (if decide (x = y) = true then Ob.lexAt (fun j => decide (xs.getD j 0 = ys.getD j 0)) (fun j => decide (ys.getD j 0 < xs.getD j 0)) (decide (xs.length > ys.length)) 0 (min xs.length ys.length) else decide (y < x)) = if y = x then lexI ys xs else decide (y < x)
    rw [lexAt_gt xs ys]
    by_cases h : x = y
    · rw [decide_eq_true h, if_pos rfl, if_pos h.symm]
    · rw [decide_eq_false h, if_neg Bool.false_ne_true, if_neg (fun z => h z.symm)]
theorem od_lt (hu : X.A.units < cLine) : OpD X C (compareOp .Lt) opLt := OpRw (op_lt.or (op_ltT hu)) fun x y H Q ⟨F, d, e, c, fh, r1, r2, ho, g⟩ => by
  cases d <;> cases e <;> first | (cases ho; done) | skip
  · cases ho
    exact .inl ⟨_, _, r1, r2, got0 g fh rfl⟩
  · obtain ⟨ns, e1, ho1⟩ := bind_some ho
    obtain ⟨ms, e2, ho2⟩ := bind_some ho1
    cases ho2
    obtain ⟨a, xs, rfl, ha, hl⟩ := r1
    obtain ⟨b, ys, rfl, hb, hm⟩ := r2
    rw [intsRp e1 hl] at ha
    rw [intsRp e2 hm] at hb
    refine .inr ⟨a, b, ns, ms, rfl, rfl, SqT.of (fh _ _ ha), SqT.of (fh _ _ hb), ?_⟩
    rw [lexI_eq]
    exact got0 g fh rfl
theorem od_gt (hu : X.A.units < cLine) : OpD X C (compareOp .Gt) opGt := OpRw (op_gt.or (op_gtT hu)) fun x y H Q ⟨F, d, e, c, fh, r1, r2, ho, g⟩ => by
  cases d <;> cases e <;> first | (cases ho; done) | skip
  · cases ho
    exact .inl ⟨_, _, r1, r2, got0 g fh rfl⟩
  · obtain ⟨ns, e1, ho1⟩ := bind_some ho
    obtain ⟨ms, e2, ho2⟩ := bind_some ho1
    cases ho2
    obtain ⟨a, xs, rfl, ha, hl⟩ := r1
    obtain ⟨b, ys, rfl, hb, hm⟩ := r2
    rw [intsRp e1 hl] at ha
    rw [intsRp e2 hm] at hb
    refine .inr ⟨a, b, ns, ms, rfl, rfl, SqT.of (fh _ _ ha), SqT.of (fh _ _ hb), ?_⟩
    rw [lexAt_gt]
    exact got0 g fh rfl
theorem od_le : OpD X C (compareOp .LtE) opLe := OpRw op_le fun x y H Q ⟨F, d, e, c, fh, r1, r2, ho, g⟩ => by
  cases d <;> cases e <;> first | (cases ho; done) | skip
  cases ho
  exact ⟨_, _, r1, r2, got0 g fh rfl⟩
theorem od_ge : OpD X C (compareOp .GtE) opGe := OpRw op_ge fun x y H Q ⟨F, d, e, c, fh, r1, r2, ho, g⟩ => by
  cases d <;> cases e <;> first | (cases ho; done) | skip
  cases ho
  exact ⟨_, _, r1, r2, got0 g fh rfl⟩
def rInT (K : PySem.W.Frag) : R2 := fun x y H Q => ∃ d ds, Dp K H x d ∧ Dp K H y (.tuple ds) ∧ SeqAt.shaped d = true ∧ SeqAt.shaped (.tuple ds) = true ∧ Q (.bl (ds.any fun z => PyData.eqv z d)) H
def rNotInT (K : PySem.W.Frag) : R2 := fun x y H Q => ∃ d ds, Dp K H x d ∧ Dp K H y (.tuple ds) ∧ SeqAt.shaped d = true ∧ SeqAt.shaped (.tuple ds) = true ∧ Q (.bl (!ds.any fun z => PyData.eqv z d)) H
theorem op_inT (hu : X.A.units + 65 < cLine) : OpR X (compareOp .In) (rInT X.K) := by
  intro pins s σ H x y v u Q I rx ry h
  obtain ⟨d, ds, hd, he, sd, se, q⟩ := h
  obtain ⟨as, r1⟩ := Dp.reads I d x v hd rx
  obtain ⟨bs, r2⟩ := Dp.reads I (.tuple ds) y u he ry
  exact SeqAt.in_tuple_reads r2 r1 (SeqAt.canLay_of_shaped se) (SeqAt.canLay_of_shaped sd) (room_in_shaped sd hu) ⟨.bl _, H, I, rfl, q⟩
theorem op_notInT (hu : X.A.units + 65 < cLine) : OpR X (compareOp .NotIn) (rNotInT X.K) := by
  intro pins s σ H x y v u Q I rx ry h
  obtain ⟨d, ds, hd, he, sd, se, q⟩ := h
  obtain ⟨as, r1⟩ := Dp.reads I d x v hd rx
  obtain ⟨bs, r2⟩ := Dp.reads I (.tuple ds) y u he ry
  exact SeqAt.notIn_tuple_reads r2 r1 (SeqAt.canLay_of_shaped se) (SeqAt.canLay_of_shaped sd) (room_in_shaped sd hu) ⟨.bl _, H, I, rfl, q⟩
theorem any_toP {d : D} (hd : okD 60 d = true) : ∀ {ds : List D}, okDs 60 ds = true → ((toPs ds).any fun z => PyData.eqv z (toP d)) = inD d ds
  | [], _ => by simp [toPs, inD]
  | x :: xs, h => by
    simp only [okDs, Bool.and_eq_true] at h
    simp only [toPs, inD, List.any_cons]
    rw [eqD_toP 60 x d h.1 hd, any_toP hd h.2]
    rfl
theorem okDs_tup {ds : List D} (h : okDs 60 ds = true) : okD 61 (.tup ds) = true := by simpa [okD] using h
theorem okDs_lst {ds : List D} (h : okDs 60 ds = true) : okD 61 (.lst ds) = true := by simpa [okD] using h
theorem od_in (hu : X.A.units + 65 < cLine) : OpD X C (compareOp .In) opIn := OpRw ((op_inD hu).or (op_inT hu)) fun x y H Q ⟨F, d, e, c, fh, r1, r2, ho, g⟩ => by
  cases e with
  | lst ds =>
    simp only [opIn] at ho
    split at ho
    · rename_i hz
      cases ho
      refine .inl ⟨toP d, toPs ds, Rp.dp 60 d x hz.1 (Rp.mono fh _ _ r1), ?_, shaped_ok hz.1 (by decide), ?_, ?_⟩
      · have := Rp.dp 61 (.lst ds) y (okDs_lst hz.2) (Rp.mono fh _ _ r2)
        simpa [toP] using this
      · have := shaped_ok (okDs_lst hz.2) (by decide)
        simpa [toP] using this
      · rw [any_toP hz.1 hz.2]
        exact got0 g fh rfl
    · cases ho
  | tup ds =>
    simp only [opIn] at ho
    split at ho
    · rename_i hz
      cases ho
      refine .inr ⟨toP d, toPs ds, Rp.dp 60 d x hz.1 (Rp.mono fh _ _ r1), ?_, shaped_ok hz.1 (by decide), ?_, ?_⟩
      · have := Rp.dp 61 (.tup ds) y (okDs_tup hz.2) (Rp.mono fh _ _ r2)
        simpa [toP] using this
      · have := shaped_ok (okDs_tup hz.2) (by decide)
        simpa [toP] using this
      · rw [any_toP hz.1 hz.2]
        exact got0 g fh rfl
    · cases ho
  | _ => cases ho
theorem od_notIn (hu : X.A.units + 65 < cLine) : OpD X C (compareOp .NotIn) opNotIn := OpRw ((op_notInD hu).or (op_notInT hu)) fun x y H Q ⟨F, d, e, c, fh, r1, r2, ho, g⟩ => by
  cases e with
  | lst ds =>
    simp only [opNotIn] at ho
    split at ho
    · rename_i hz
      cases ho
      refine .inl ⟨toP d, toPs ds, Rp.dp 60 d x hz.1 (Rp.mono fh _ _ r1), ?_, shaped_ok hz.1 (by decide), ?_, ?_⟩
      · have := Rp.dp 61 (.lst ds) y (okDs_lst hz.2) (Rp.mono fh _ _ r2)
        simpa [toP] using this
      · have := shaped_ok (okDs_lst hz.2) (by decide)
        simpa [toP] using this
      · rw [any_toP hz.1 hz.2]
        exact got0 g fh rfl
    · cases ho
  | tup ds =>
    simp only [opNotIn] at ho
    split at ho
    · rename_i hz
      cases ho
      refine .inr ⟨toP d, toPs ds, Rp.dp 60 d x hz.1 (Rp.mono fh _ _ r1), ?_, shaped_ok hz.1 (by decide), ?_, ?_⟩
      · have := Rp.dp 61 (.tup ds) y (okDs_tup hz.2) (Rp.mono fh _ _ r2)
        simpa [toP] using this
      · have := shaped_ok (okDs_tup hz.2) (by decide)
        simpa [toP] using this
      · rw [any_toP hz.1 hz.2]
        exact got0 g fh rfl
    · cases ho
  | _ => cases ho
theorem non_iff {K : PySem.W.Frag} {F : Hp} {d : D} {x : V} (r : Rp K C F d x) : decide (x = .non) = isNone d := by
  cases d with
  | non =>
    have e : x = .non := r
    subst e
    rfl
  | bl _ =>
    have e : x = .bl _ := r
    subst e
    rfl
  | int _ =>
    have e : x = .int _ := r
    subst e
    rfl
  | str _ =>
    have e : x = .str _ := r
    subst e
    rfl
  | tup _ => obtain ⟨a, xs, rfl, _⟩ := r; rfl
  | lst _ => obtain ⟨a, xs, rfl, _⟩ := r; rfl
  | bell _ => obtain ⟨a, dx, t, rfl, _⟩ := r; rfl
  | scr _ => obtain ⟨a, rfl, _⟩ := r; rfl
theorem od_isnot : OpD X C (compareOp .IsNot) opIsNot := OpRw (op_notN.or op_isnot_bl) fun x y H Q ⟨F, d, e, c, fh, r1, r2, ho, g⟩ => by
  have nn : ∀ {d' : D}, Rp X.K C F d' x → opIsNot d' .non = some c → y = .non → y = .non ∧ Q (.bl (!decide (x = .non))) H := fun {d'} rr hh e0 => by
    refine ⟨e0, ?_⟩
    rw [non_iff rr]
    cases d' <;> (cases hh; exact got0 g fh rfl)
  cases e with
  | non => exact .inl (nn r1 ho r2)
  | bl b =>
    cases d with
    | bl a =>
      cases ho
      exact .inr ⟨_, _, r1, r2, got0 g fh rfl⟩
    | _ => cases ho
  | _ => cases d <;> cases ho
theorem ixNat_eq (n : Nat) (i : Int) : ixNat n i = ixN n i := rfl
theorem ix_d : IxD X C opIx := by
  intro vl sl pins s σ H x y v u Q I rx ry q
  refine (ix_tup.or ix_list) vl sl pins s σ H x y v u Q I rx ry ?_
  obtain ⟨F, d, e, c, fh, r1, r2, ho, g⟩ := q
  cases d <;> cases e <;> first | (cases ho; done) | skip
  · obtain ⟨j, e1, e2⟩ := bind_some ho
    obtain ⟨a, xs, rfl, ha, hl⟩ := r1
    obtain ⟨w, h1, h2⟩ := RpL.get hl e2
    refine .inl ⟨a, xs, _, w, rfl, r2, SqT.of (fh _ _ ha), ?_, got0 g fh h2⟩
    unfold atI
    rw [← hl.len, ← ixNat_eq, e1]
    exact h1
  · obtain ⟨j, e1, e2⟩ := bind_some ho
    obtain ⟨a, xs, rfl, ha, hl⟩ := r1
    obtain ⟨w, h1, h2⟩ := RpL.get hl e2
    refine .inr ⟨a, xs, _, w, rfl, r2, SqL.of (fh _ _ ha), ?_, got0 g fh h2⟩
    unfold atI
    rw [← hl.len, ← ixNat_eq, e1]
    exact h1
  · obtain ⟨j, e1, e2⟩ := bind_some ho
    obtain ⟨a, rfl, ha⟩ := r1
    obtain ⟨i', e3, rfl⟩ := Option.map_eq_some_iff.mp e2
    refine .inr ⟨a, _, _, .int i', rfl, r2, fh.seq ha, ?_, got0 g fh rfl⟩
    unfold atI
    rw [List.length_map, ← ixNat_eq, e1]
    show (List.map V.int _)[j]? = _
    rw [List.getElem?_map, e3]
    rfl
theorem de_neg {e : Expr} {O : List Nat} {f : DF} {pos : Pos} (h : DE X C O e f) : DE X C O (.UnaryOp .USub e pos) (d1 opNeg f) := PEw (pe_un un_neg h) fun σ H Q ⟨F, ρ, t, E, hf, k⟩ => by
  obtain ⟨x, h1, hf1⟩ := bind_some hf
  refine ⟨F, ρ, x, E, h1, fun v F1 H1 s1 r1 => ?_⟩
  cases x <;> first | (cases hf1; done) | skip
  cases hf1
  exact ⟨_, r1, k _ F1 H1 s1 rfl⟩
end
end DL
namespace DL
open PySem PySem.Spec PyProof.Rows L2
def opLen : List D → Option D
  | [.tup xs] => some (.int xs.length)
  | [.lst xs] => some (.int xs.length)
  | [.scr xs] => some (.int xs.length)
  | [.str x] => if x.length ≤ 16777216 then some (.int x.length) else none
  | _ => none
def opTuple : List D → Option D
  | [.tup xs] => some (.tup xs)
  | [.lst xs] => some (.tup xs)
  | _ => none
/-- sorted -/
def ins (a : Int) : List Int → List Int
  | [] => [a]
  | b :: r => if a ≤ b then a :: b :: r else b :: ins a r
def isort : List Int → List Int
  | [] => []
  | a :: r => ins a (isort r)
def opSorted : List D → Option D
  | [.lst xs] => (asInts xs).bind fun ns => some (.lst ((isort ns).map D.int))
  | _ => none
def asBls : List D → Option (List Bool)
  | [] => some []
  | .bl i :: r => (asBls r).map (i :: ·)
  | _ :: _ => none
def opAll : List D → Option D
  | [.lst xs] => (asBls xs).bind fun bs => some (.bl (bs.all id))
  | _ => none
def opAny : List D → Option D
  | [.lst xs] => (asBls xs).bind fun bs => some (.bl (bs.any id))
  | _ => none
def maxI : List Int → Option Int
  | [] => none
  | a :: r => some (r.foldl (fun x y => if y > x then y else x) a)
def opMax : List D → Option D
  | [.lst xs] => (asInts xs).bind fun ns => (maxI ns).bind fun m => some (.int m)
  | [.int i, .int j] => some (.int (if j > i then j else i))
  | _ => none
theorem ins_perm (a : Int) : ∀ l : List Int, (ins a l).Perm (a :: l)
  | [] => .refl _
  | b :: r => by
    unfold ins
    split
    · exact .refl _
    · exact ((ins_perm a r).cons b).trans (.swap a b r)
theorem isort_perm : ∀ l : List Int, (isort l).Perm l
  | [] => .refl _
  | a :: r => (ins_perm a _).trans ((isort_perm r).cons a)
theorem ins_sorted (a : Int) : ∀ {l : List Int}, l.Pairwise (· ≤ ·) → (ins a l).Pairwise (· ≤ ·)
  | [], _ => by simp [ins]
  | b :: r, h => by
    rw [List.pairwise_cons] at h
    unfold ins
    split
    · rename_i hab
      rw [List.pairwise_cons]
      refine ⟨fun x hx => ?_, List.pairwise_cons.mpr h⟩
      rcases List.mem_cons.mp hx with rfl | hx
      · exact hab
      · exact Int.le_trans hab (h.1 x hx)
    · rename_i hab
      rw [List.pairwise_cons]
      refine ⟨fun x hx => ?_, ins_sorted a h.2⟩
      rcases List.mem_cons.mp ((ins_perm a r).mem_iff.mp hx) with rfl | hx
      · omega
      · exact h.1 x hx
theorem isort_sorted : ∀ l : List Int, (isort l).Pairwise (· ≤ ·)
  | [] => .nil
  | a :: r => ins_sorted a (isort_sorted r)
theorem sorted_uniq : ∀ {l m : List Int}, l.Perm m → l.Pairwise (· ≤ ·) → m.Pairwise (· ≤ ·) → l = m
  | [], m, h, _, _ => (List.nil_perm.mp h).symm
  | a :: l, m, h, hl, hm => by
    cases m with
    | nil => exact absurd h.length_eq (by simp)
    | cons b m =>
      rw [List.pairwise_cons] at hl hm
      have e : a = b := by
        have h1 : a ∈ b :: m := h.mem_iff.mp List.mem_cons_self
        have h2 : b ∈ a :: l := h.mem_iff.mpr List.mem_cons_self
        rcases List.mem_cons.mp h1 with e | h1
        · exact e
        · rcases List.mem_cons.mp h2 with e | h2
          · exact e.symm
          · exact Int.le_antisymm (hl.1 b h2) (hm.1 a h1)
      subst e
      rw [sorted_uniq (h.cons_inv) hl.2 hm.2]
theorem maxI_spec : ∀ {ns : List Int} {m : Int}, maxI ns = some m → m ∈ ns ∧ ∀ y, y ∈ ns → y ≤ m
  | [], m, h => by cases h
  | a :: r, m, h => by
    have e : r.foldl (fun x y => if y > x then y else x) a = m := Option.some.inj h
    clear h
    revert a
    induction r with
    | nil =>
      intro a e
      have e' : a = m := e
      subst e'
      exact ⟨List.mem_cons_self, fun y hy => by
        rw [List.mem_singleton.mp hy]
        exact Int.le_refl _⟩
    | cons b r ih =>
      intro a e
      obtain ⟨h1, h2⟩ := ih (if b > a then b else a) e
      have hx := h2 _ List.mem_cons_self
      refine ⟨?_, fun y hy => ?_⟩
      · rcases List.mem_cons.mp h1 with e1 | h1
        · split at e1
          · rw [e1]
            exact List.mem_cons_of_mem _ List.mem_cons_self
          · rw [e1]
            exact List.mem_cons_self
        · exact List.mem_cons_of_mem _ (List.mem_cons_of_mem _ h1)
      · rcases List.mem_cons.mp hy with rfl | hy
        · split at hx <;> omega
        · rcases List.mem_cons.mp hy with rfl | hy
          · split at hx <;> omega
          · exact h2 y (List.mem_cons_of_mem _ hy)
section
variable {X : Cx} {C : Addr}
theorem RpL.one_inv {K : PySem.W.Frag} {F : Hp} {d : D} {vs : List V} (h : RpL K C F [d] vs) : ∃ v, vs = [v] ∧ Rp K C F d v := by
  obtain ⟨x, r, e, h1, h2⟩ := h
  have e2 : r = [] := h2
  subst e2
  exact ⟨x, e, h1⟩
theorem RpL.two_inv {K : PySem.W.Frag} {F : Hp} {d e : D} {vs : List V} (h : RpL K C F [d, e] vs) : ∃ v w, vs = [v, w] ∧ Rp K C F d v ∧ Rp K C F e w := by
  obtain ⟨x, r, e1, h1, h2⟩ := h
  obtain ⟨w, rfl, h3⟩ := RpL.one_inv h2
  exact ⟨x, w, e1, h1, h3⟩
theorem cd_len : CallD X C (.builtin "len") opLen := CallRw (call_len_seq.or call_len_str) fun xs H Q ⟨F, ds, c, fh, r, ho, g⟩ => by
  match ds, ho, r with
  | [.tup es], ho, r =>
    cases ho
    obtain ⟨v, rfl, a, xs, rfl, ha, hl⟩ := RpL.one_inv r
    refine .inl ⟨a, xs, rfl, .inr (SqT.of (fh _ _ ha)), ?_⟩
    rw [← hl.len]
    exact got0 g fh rfl
  | [.lst es], ho, r =>
    cases ho
    obtain ⟨v, rfl, a, xs, rfl, ha, hl⟩ := RpL.one_inv r
    refine .inl ⟨a, xs, rfl, .inl (SqL.of (fh _ _ ha)), ?_⟩
    rw [← hl.len]
    exact got0 g fh rfl
  | [.scr es], ho, r =>
    cases ho
    obtain ⟨v, rfl, a, rfl, ha⟩ := RpL.one_inv r
    refine .inl ⟨a, _, rfl, .inl (fh.seq ha), ?_⟩
    rw [List.length_map]
    exact got0 g fh rfl
  | [.str z], ho, r =>
    simp only [opLen] at ho
    split at ho
    · rename_i hz
      cases ho
      obtain ⟨v, rfl, h⟩ := RpL.one_inv r
      have e : v = .str z := h
      subst e
      exact .inr ⟨z, rfl, szl_ok hz, got0 g fh rfl⟩
    · cases ho
theorem cd_tuple : CallD X C (.type "tuple") opTuple := CallRw call_tuple_of fun xs H Q ⟨F, ds, c, fh, r, ho, g⟩ => by
  match ds, ho, r with
  | [.tup es], ho, r =>
    cases ho
    obtain ⟨v, rfl, a, xs, rfl, ha, hl⟩ := RpL.one_inv r
    exact ⟨a, xs, rfl, .inr ⟨SqT.of (fh _ _ ha), got0 g fh ⟨a, xs, rfl, ha, hl⟩⟩⟩
  | [.lst es], ho, r =>
    cases ho
    obtain ⟨v, rfl, a, xs, rfl, ha, hl⟩ := RpL.one_inv r
    exact ⟨a, xs, rfl, .inl ⟨SqL.of (fh _ _ ha), fun l hn => gotN g fh hn ⟨l, xs, rfl, upd_same, RpL.mono (same_upd (none_of_same fh hn)) _ _ hl⟩⟩⟩
theorem cd_sorted : CallD X C (.builtin "sorted") opSorted := CallRw cr_sortedI fun xs H Q ⟨F, ds, c, fh, r, ho, g⟩ => by
  match ds, ho, r with
  | [.lst es], ho, r =>
    obtain ⟨ns, e1, ho1⟩ := bind_some ho
    cases ho1
    obtain ⟨v, rfl, a, xs, rfl, ha, hl⟩ := RpL.one_inv r
    rw [intsRp e1 hl] at ha
    refine ⟨a, ns, rfl, SqL.of (fh _ _ ha), fun ns' p pm st hp => ?_⟩
    have e : ns' = isort ns := sorted_uniq (pm.trans (isort_perm ns).symm) st (isort_sorted ns)
    subst e
    exact gotN g fh hp ⟨p, _, rfl, upd_same, RpL.ofInts _⟩
theorem blsRp {K : PySem.W.Frag} {F : Hp} : ∀ {ds : List D} {ns : List Bool} {vs : List V}, asBls ds = some ns → RpL K C F ds vs → vs = ns.map V.bl
  | [], ns, vs, e, h => by
    cases e
    exact h
  | .bl i :: ds, ns, vs, e, h => by
    simp only [asBls, Option.map_eq_some_iff] at e
    obtain ⟨ns', e1, rfl⟩ := e
    obtain ⟨x, r, rfl, h1, h2⟩ := h
    have h1' : x = .bl i := h1
    rw [h1', blsRp e1 h2]
    rfl
  | .non :: _, _, _, e, _ => by simp [asBls] at e
  | .int _ :: _, _, _, e, _ => by simp [asBls] at e
  | .str _ :: _, _, _, e, _ => by simp [asBls] at e
  | .tup _ :: _, _, _, e, _ => by simp [asBls] at e
  | .lst _ :: _, _, _, e, _ => by simp [asBls] at e
  | .bell _ :: _, _, _, e, _ => by simp [asBls] at e
  | .scr _ :: _, _, _, e, _ => by simp [asBls] at e
theorem cd_all (hc : X.calm = true) : CallD X C (.builtin "all") opAll := CallRw (cr_all hc) fun xs H Q ⟨F, ds, c, fh, r, ho, g⟩ => by
  match ds, ho, r with
  | [.lst es], ho, r =>
    obtain ⟨ns, e1, ho1⟩ := bind_some ho
    cases ho1
    obtain ⟨v, rfl, a, xs, rfl, ha, hl⟩ := RpL.one_inv r
    rw [blsRp e1 hl] at ha
    exact ⟨a, ns, rfl, SqL.of (fh _ _ ha), got0 g fh rfl⟩
theorem cd_any (hc : X.calm = true) : CallD X C (.builtin "any") opAny := CallRw (cr_any hc) fun xs H Q ⟨F, ds, c, fh, r, ho, g⟩ => by
  match ds, ho, r with
  | [.lst es], ho, r =>
    obtain ⟨ns, e1, ho1⟩ := bind_some ho
    cases ho1
    obtain ⟨v, rfl, a, xs, rfl, ha, hl⟩ := RpL.one_inv r
    rw [blsRp e1 hl] at ha
    exact ⟨a, ns, rfl, SqL.of (fh _ _ ha), got0 g fh rfl⟩
theorem le_uniq_max {ns : List Int} {m m' : Int} (h1 : m ∈ ns) (h2 : ∀ y, y ∈ ns → y ≤ m) (h3 : m' ∈ ns) (h4 : ∀ y, y ∈ ns → y ≤ m') : m = m' := Int.le_antisymm (h4 m h1) (h2 m' h3)
theorem cd_max (hc : X.calm = true) : CallD X C (.builtin "max") opMax := CallRw ((cr_max hc).or (call_max2 hc)) fun xs H Q ⟨F, ds, c, fh, r, ho, g⟩ => by
  match ds, ho, r with
  | [.lst es], ho, r =>
    obtain ⟨ns, e1, ho1⟩ := bind_some ho
    obtain ⟨m, e2, ho2⟩ := bind_some ho1
    cases ho2
    obtain ⟨v, rfl, a, xs, rfl, ha, hl⟩ := RpL.one_inv r
    rw [intsRp e1 hl] at ha
    obtain ⟨s1, s2⟩ := maxI_spec e2
    refine .inl ⟨a, ns, rfl, SqL.of (fh _ _ ha), List.length_pos_of_mem s1, fun m' h1 h2 => ?_⟩
    rw [le_uniq_max h1 h2 s1 s2]
    exact got0 g fh rfl
  | [.int i, .int j], ho, r =>
    cases ho
    obtain ⟨v, w, rfl, h1, h2⟩ := RpL.two_inv r
    rw [Rp.int h1, Rp.int h2]
    exact .inr ⟨i, j, rfl, got0 g fh rfl⟩
def opIsi (T : String) : D → Option D
  | .non => some (.bl false)
  | .bl _ => some (.bl (T == "bool" || T == "int"))
  | .int _ => some (.bl (T == "int"))
  | .str _ => some (.bl (T == "str"))
  | .tup _ => some (.bl (T == "tuple"))
  | .lst _ => some (.bl (T == "list"))
  | _ => none
theorem isi_tab {K : PySem.W.Frag} {T : String} (hT : T = "int" ∨ T = "bool" ∨ T = "tuple" ∨ T = "list" ∨ T = "str") : PySem.W.kitOne K (.type "NoneType") (.type T) = some false ∧
    PySem.W.kitOne K (.type "bool") (.type T) = some (T == "bool" || T == "int") ∧ PySem.W.kitOne K (.type "int") (.type T) = some (T == "int") ∧ PySem.W.kitOne K (.type "str") (.type T) = some (T == "str") ∧
    PySem.W.kitOne K (.type "tuple") (.type T) = some (T == "tuple") ∧ PySem.W.kitOne K (.type "list") (.type T) = some (T == "list") := by
  rcases hT with rfl | rfl | rfl | rfl | rfl <;> refine ⟨?_, ?_, ?_, ?_, ?_, ?_⟩ <;> exact kit_ty (by decide +kernel)
variable {O : List Nat} {e : Expr} {f : DF} {pos p p' : Pos}
theorem isi_val {K : PySem.W.Frag} {F H : Hp} {T : String} {d c : D} {v : V} {Q : VK} (hT : T = "int" ∨ T = "bool" ∨ T = "tuple" ∨ T = "list" ∨ T = "str") (fh : Same F H) (r : Rp K C F d v) (ho : opIsi T d = some c) (g : Got K C F H c Q) : rIsi K [v, .ty T] H Q := by
  obtain ⟨t1, t2, t3, t4, t5, t6⟩ := isi_tab (K := K) hT
  have go : ∀ {t : Value} {b : Bool}, TyOf K H v t → PySem.W.kitOne K t (.type T) = some b → c = .bl b → rIsi K [v, .ty T] H Q := fun {t b} ty hk e => by
    subst e
    exact ⟨v, .ty T, t, .type T, b, rfl, .ty T, .base ty, hk, got0 g fh rfl⟩
  cases d with
  | non =>
    cases ho
    have e : v = .non := r
    subst e
    exact go .non t1 rfl
  | bl b =>
    cases ho
    have e : v = .bl b := r
    subst e
    exact go (.bl b) t2 rfl
  | int i =>
    cases ho
    have e : v = .int i := r
    subst e
    exact go (.int i) t3 rfl
  | str z =>
    cases ho
    have e : v = .str z := r
    subst e
    exact go (.str z) t4 rfl
  | tup ds =>
    cases ho
    obtain ⟨a, xs, rfl, ha, _⟩ := r
    exact go (.tup (fh _ _ ha)) t5 rfl
  | lst ds =>
    cases ho
    obtain ⟨a, xs, rfl, ha, _⟩ := r
    exact go (.lst (fh _ _ ha)) t6 rfl
  | bell _ => cases ho
  | scr _ => cases ho
/-- isinstance(e, T), T a name of a built-in class -/
theorem de_isi {T : String} {x : Str} (hT : T = "int" ∨ T = "bool" ∨ T = "tuple" ∨ T = "list" ∨ T = "str") (ha : DE X C O e f) (hg : Gl X "isinstance") (hm : X.mg "isinstance" = none) (hg2 : Gl X x) (hm2 : X.mg x = none) (hv : bootBuiltins x = some (.type T))
    (hn2 : x ≠ "__name__" := by decide) (hd2 : (x == ("__debug__" : Str)) = false := by decide)
    (he : starEach [e, .Name x p'] X.env = (false, eval e X.env) :: starEach [.Name x p'] X.env := by rfl) (he2 : starEach [.Name x p'] X.env = (false, eval (.Name x p') X.env) :: starEach [] X.env := by rfl) (hpl : (backTo pos (starEach [.Name x p'] X.env)).any (·.1) = false := by rfl) :
    DE X C O (.Call (.Name "isinstance" p) [e, .Name x p'] [] pos) (d1 (opIsi T) f) := by
  have hp : PE X (.Name x p') (tC (.ty T)) := pe_bltn hg2 hm2 hv rfl hn2 hd2
  refine PEw (pe_callB call_isi hg hm PyProof.Rows.boot_isinstance (pa_cons ha (pa_cons hp pa_nil he2) he) (by decide) (by decide) he hpl) fun σ H Q ⟨F, ρ, t, E, hf, k⟩ => ?_
  obtain ⟨d, h1, hf1⟩ := bind_some hf
  exact ⟨F, ρ, d, E, h1, fun v F1 H1 s1 r1 => isi_val hT s1.fh r1 hf1 (k.step s1)⟩
end
def cutL (xs : List D) (lo hi : Option Int) : List D := (xs.drop (HT.sIx xs.length 0 lo)).take (HT.sIx xs.length xs.length hi - HT.sIx xs.length 0 lo)
def opSl (lo hi : Option Int) : D → Option D
  | .tup xs => some (.tup (cutL xs lo hi))
  | .lst xs => some (.lst (cutL xs lo hi))
  | _ => none
def asIx : D → Option Int
  | .int i => some i
  | _ => none
abbrev DOx := Rho → Option (Option Int)
def oNo : DOx := fun _ => some none
def oIx (f : DF) : DOx := fun ρ => (f ρ).bind fun d => (asIx d).bind fun i => some (some i)
def dSl (f : DF) (l u : DOx) : DF := fun ρ => (f ρ).bind fun x => (l ρ).bind fun lo => (u ρ).bind fun hi => opSl lo hi x
end DL
namespace DL
open PySem PySem.Spec PyProof.Rows L2
theorem meets_enum1 {v : Value} {o : Obj} {H : Heap → Prop} (B : Begins v o H) :
    Meets (Builtin.«enumerate.__new__» ⟨[.type "enumerate", v], []⟩) (fun _ R s => H s.heap ∧
      R (.ok (.ret (.ref (s.heap.push o).objs.size))) { s with heap := (s.heap.push o).push { cls := .type "enumerate", data := .fields #[.none, .bool false, .ref s.heap.objs.size, rawInt 0, .none, .none] } }) :=
  .of_wp fun prog w A R s h => by
    obtain ⟨hp, g, d, tk, os⟩ := s; obtain ⟨h1, h⟩ := h
    have hsub := sub_enumerate
    have q1 : ∀ {A' : Around} {E : Value → Shared → Prop} {Q : Value → Shared → Prop}, Q (.ref hp.objs.size) ⟨hp.push o, g, d, tk, os⟩ → wpAny (model prog w) A' (pyIter v) Q E ⟨hp, g, d, tk, os⟩ :=
      fun q => B.iter prog w _ _ ⟨hp, g, d, tk, os⟩ _ h1 q
    wp_walk using q1
    refine wpAny_stack_any fun st => wpAny_pure ?_
    split
    · rename_i c _ _ _ _ _
      cases (c == Value.type "enumerate")
      · wp_walk using q1
        exact ⟨_, rfl, h⟩
      · wp_walk using q1
        exact ⟨_, rfl, h⟩
    · wp_walk using q1
      exact ⟨_, rfl, h⟩
theorem call_enum_begins {prog : Program} {w : World} {A : Around} {E : Value → Shared → Prop} {s : Shared} {v : Value} {o : Obj} {H : Heap → Prop} {Q : Value → Shared → Prop} (B : Begins v o H) (h1 : H s.heap)
    (h : ∀ h', IsEnum h' (s.heap.objs.size + 1) s.heap.objs.size 0 .none → h'.get? s.heap.objs.size = some o → h'.objs.size = s.heap.objs.size + 2 →
      (∀ b o, s.heap.get? b = some o → h'.get? b = some o) → Q (.ref (s.heap.objs.size + 1)) { s with heap := h' }) :
    wpAny (model prog w) A (call (.type "enumerate") [v]) Q E s := by
  refine callType_new F.called_enumerate (by decide) (F.typeCall_enumerate_1 _) (F.newCall_enumerate_1 _) (fun obj => F.args_object_init_2 obj _) F.entry_enumerate_new
    (meets_enum1 B) ⟨h1, ?_⟩
  have hz : (s.heap.push o).objs.size = s.heap.objs.size + 1 := Heap.size_push ..
  show _ ∧ _
  rw [hz]
  have he : IsEnum ((s.heap.push o).push { cls := .type "enumerate", data := .fields #[.none, .bool false, .ref s.heap.objs.size, rawInt 0, .none, .none] }) (s.heap.objs.size + 1) s.heap.objs.size 0 .none := by
    have := Heap.get?_push_size (s.heap.push o) (o := { cls := .type "enumerate", data := .fields #[.none, .bool false, .ref s.heap.objs.size, rawInt 0, .none, .none] }) rfl
    rw [hz] at this; exact this
  refine ⟨⟨_, he, rfl⟩, h _ he (Heap.get?_push_of_some _ (Heap.get?_push_size _ B.free)) (by rw [Heap.size_push, hz]) fun b o x => Heap.get?_push_of_some _ (Heap.get?_push_of_some _ x)⟩
def IteT (K : PySem.W.Frag) (a : Addr) : It :=
  ⟨fun i H => ∃ (xs : List V) (x : V), SqT K H a xs ∧ xs[i]? = some x, fun i H v H' => ∃ T x, v = .ref T ∧ H T = none ∧ H' = upd H T (.tup [.int (i : Nat), x]) ∧ ∀ xs, SqT K H a xs → xs[i]? = some x, fun i H => ∃ xs : List V, SqT K H a xs ∧ xs.length = i⟩
theorem turn_enumT {P : Program} {w : World} {K : PySem.W.Frag} {elts : List Expr} {kk : Nat} {tpos : Pos} (a e it : Addr) (hai : a ≠ it) (hae : a ≠ e) :
    Turn P w K (.Tuple elts kk tpos) (IteT K a) [e, it] e (fun i h => (∃ old, IsEnum h e it ((i : Nat) : Int) old) ∧ h.IsTupleIter it a i ∧ e ≠ it) where
  mem := by simp
  obj := fun i h st b hb => by
    obtain ⟨⟨old, he⟩, ⟨o, ho, hc, hd⟩, _⟩ := st
    have e' : b = e ∨ b = it := by simpa using hb
    rcases e' with z | z
    · rw [z]; exact ⟨_, he, fun v q => nomatch q⟩
    · rw [z]; exact ⟨o, ho, fun v q => by rw [hd] at q; cases q⟩
  keep := fun i h h' st k => let ⟨⟨old, he⟩, hi, hne⟩ := st; ⟨⟨old, k e (by simp) _ he⟩, hi.at fun o q => k it (by simp) o q, hne⟩
  item := by
    intro X hP hw hK hc i pins s σ H E I hf st hg
    subst hP hw hK
    obtain ⟨⟨old, he⟩, hit, hne⟩ := st
    obtain ⟨xs, x, hq, hx⟩ := hg
    obtain ⟨its, rv, p, hz⟩ := I.tuple hq
    obtain ⟨u, hu, ru⟩ := rv.get hx
    have hel : e < s.heap.objs.size := Heap.lt_size he
    have hil : it < s.heap.objs.size := by obtain ⟨_, q, _⟩ := hit; exact Heap.lt_size q
    have hi : i < its.toArray.size := by
      have := (List.getElem?_eq_some_iff.mp hu).1
      simpa using this
    refine wpAny_pyNext_enum_itemC (Draws.tuple (A := X.A.in1) (I.ok.hd hc) it a hai its.toArray) he ⟨hit, p⟩ hi hne (by
      intro z
      rcases List.mem_cons.mp z with z | z
      · exact hne z
      · exact hae (List.mem_singleton.mp z).symm) fun x' h' tk hx' ho hst' hT hsz hk => ?_
    have ex : x' = u := by
      have h1 : its.toArray[i]? = some u := by simpa using hu
      rw [h1] at hx'
      exact (Option.some.inj hx').symm
    subst ex
    refine ⟨_, rfl, wpAny_letOwnedTupleGo_enum (s := { s with heap := h', toks := tk + 1 }) ho fun h'' he' sb => ?_⟩
    have hT2 : h''.get? s.heap.objs.size = some { cls := .type "tuple", data := .seq #[.int i tk, x'] } := (sb.2 _ (Nat.ne_of_gt hel)).trans hT
    have new : ObjOk X.prog X.w (upd H s.heap.objs.size (.tup [.int (i : Nat), x])) h'' s.heap.objs.size (.tup [.int (i : Nat), x]) :=
      ⟨by show 2 ≤ sizeLine; decide, [.int i tk, x'], .cons ⟨_, rfl⟩ (.cons ru .nil), ⟨_, hT2, rfl, _, rfl⟩⟩
    have I1 : Inv X pins σ (upd H s.heap.objs.size (.tup [.int (i : Nat), x])) { s with heap := h'', toks := tk + 1 } :=
      I.turnedNew (ch := [e, it]) (fun b ob hb q => (sb.2 b (fun z => hb (by simp [z]))).trans (hk b ob (fun z => hb (by simp [z])) (fun z => hb (by simp [z])) q)) hf (Nat.le_refl _) new
    refine ⟨.ref s.heap.objs.size, _, I1, rfl, ⟨_, x, rfl, I.hok.fresh (Nat.le_refl _), rfl, fun ys hy => by rw [I.tuple_inj hy hq]; exact hx⟩, ⟨⟨x', ?_⟩, hst'.1.at fun o q => (sb.2 it (Ne.symm hne)).trans q, hne⟩, fun b hb => ?_⟩
    · have e1 : ((i + 1 : Nat) : Int) = (i : Int) + 1 := by omega
      rw [e1]; exact he'
    · have hb' : b < s.heap.objs.size := by
        have e' : b = e ∨ b = it := by simpa using hb
        rcases e' with z | z
        · rw [z]; exact hel
        · rw [z]; exact hil
      rw [upd_ne (Nat.ne_of_lt hb')]
      exact (hf b hb).1
  done := by
    intro X hP hw hK hc i pins s σ H E I hf st hg
    subst hP hw hK
    obtain ⟨⟨old, he⟩, hit, hne⟩ := st
    obtain ⟨xs, hq, hx⟩ := hg
    obtain ⟨its, rv, p, hz⟩ := I.tuple hq
    obtain ⟨f0, f1, f2, f3, f4, f5⟩ := hf it (by simp)
    have hl := rv.length
    have ei : i = its.toArray.size := by
      rw [List.size_toArray, ← hl]
      exact hx.symm
    subst ei
    refine wpAny_pyNext_enum_endD (Draws.tuple (A := X.A.in1) (I.ok.hd hc) it a hai its.toArray) he ⟨hit, p⟩ fun h' eb => ⟨rfl, I.turned (t' := s.toks) (fun b o hb q => eb b o hb q) f0 f1 f3 f4 f5⟩
  self := fun A i s Q E st h => let ⟨⟨_, he⟩, _⟩ := st; wpAny_pyIter_enum he h
def iEnumT (K : PySem.W.Frag) (ta : TA) : TI := fun σ H R => ta σ H fun vs H1 => ∃ a xs, vs = [.ref a] ∧ H1 a = some (.tup xs) ∧ R (IteT K a) H1
theorem pi_enumT {X : Cx} {e : Expr} {ta : TA} {p pos tpos : Pos} {elts : List Expr} {kk : Nat} (hg : Gl X "enumerate") (hm : X.mg "enumerate" = none) (ha : PA X [e] ta) (hs : starEach [e] X.env = [(false, eval e X.env)] := by rfl) :
    PI X (.Tuple elts kk tpos) (.Call (.Name "enumerate" p) [e] [] pos) (iEnumT X.K ta) := by
  refine ⟨fun pins s σ H R I h => ?_⟩
  refine Call_ (ld_blt I hg hm boot_enumerate (PyProof.Rows.callWith_type1 (thn (ha.run pos pins s σ H _ I h) fun us s1 ⟨vs, H1, I1, r1, q1⟩ => ?_) hs rfl))
  obtain ⟨a, xs, ex, hq, q⟩ := q1
  subst ex
  cases r1 with
  | cons r rr =>
    cases rr
    cases r
    obtain ⟨its, rv, p', hz⟩ := I1.tuple (SqT.of hq)
    have hal : a < s1.heap.objs.size := p'.lt
    refine call_enum_begins (begins_tuple a its.toArray) p' fun h' he hit hsz hk => wpAny_pyIter_enum he ?_
    have I2 : Inv X pins σ H1 { s1 with heap := h' } := I1.kept (t' := s1.toks) hk
    refine ⟨s1.heap.objs.size + 1, [s1.heap.objs.size + 1, s1.heap.objs.size], _, _, H1, rfl, I2, turn_enumT a (s1.heap.objs.size + 1) s1.heap.objs.size (Nat.ne_of_lt hal) (Nat.ne_of_lt (Nat.lt_succ_of_lt hal)), ⟨⟨.none, he⟩, ⟨_, hit, rfl, rfl⟩, Nat.succ_ne_self _⟩, fun b hb => ?_, q⟩
    have e' : b = s1.heap.objs.size + 1 ∨ b = s1.heap.objs.size := by simpa using hb
    have hle : s1.heap.objs.size ≤ b := by
      rcases e' with z | z
      · rw [z]; exact Nat.le_add_right _ _
      · rw [z]; exact Nat.le_refl _
    exact I1.fpOk hle (I1.hok.fresh hle)
theorem PIor {X : Cx} {tg e : Expr} {w w' : TI} (h : PI X tg e w) (h' : PI X tg e w') : PI X tg e (fun σ H R => w σ H R ∨ w' σ H R) :=
  ⟨fun pins s σ H R I q => q.elim (h.run pins s σ H R I) (h'.run pins s σ H R I)⟩
theorem PIw {X : Cx} {tg e : Expr} {w w' : TI} (h : PI X tg e w) (k : ∀ σ H R, w' σ H R → w σ H R) : PI X tg e w' := ⟨fun pins s σ H R I q => h.run pins s σ H R I (k σ H R q)⟩
/-- J yields ds, whatever is made meanwhile -/
def JD (K : PySem.W.Frag) (C : Addr) (J : It) (F : Hp) (ds : List D) : Prop := ∀ i F1 H1, Same F F1 → Same F1 H1 → (i = ds.length → J.stop i H1) ∧
  ∀ d, ds[i]? = some d → J.go i H1 ∧ ∀ x H2, J.yld i H1 x H2 → ∃ F2, Stp F1 H1 F2 H2 ∧ Rp K C F2 d x
def tDI (K : PySem.W.Frag) (C : Addr) (O : List Nat) (f : DFs) : TI := fun σ H R => ∃ F ρ ds, En K C O F H σ ρ ∧ f ρ = some ds ∧ ∀ J F' H', Stp F H F' H' → JD K C J F' ds → R J H'
abbrev DI (X : Cx) (C : Addr) (O : List Nat) (tg e : Expr) (f : DFs) : Prop := PI X tg e (tDI X.K C O f)
def asSeq : D → Option (List D)
  | .tup xs => some xs
  | .lst xs => some xs
  | _ => none
def iSeq (f : DF) : DFs := fun ρ => (f ρ).bind asSeq
def rngD (a : Int) (n : Nat) : List D := (List.range n).map fun (i : Nat) => D.int (a + (i : Int))
def opRng1 : List D → Option (List D)
  | [.int n] => if -4611686018427387904 ≤ n ∧ n < 4611686018427387904 then some (rngD 0 n.toNat) else none
  | _ => none
def opRng2 : List D → Option (List D)
  | [.int a, .int b] => if -4611686018427387904 ≤ a ∧ a < 4611686018427387904 ∧ -4611686018427387904 ≤ b ∧ b < 4611686018427387904 then some (rngD a (b - a).toNat) else none
  | _ => none
def iRng1 (f : DFs) : DFs := fun ρ => (f ρ).bind opRng1
def iRng2 (f : DFs) : DFs := fun ρ => (f ρ).bind opRng2
def enumD (xs : List D) : List D := (List.range xs.length).zipWith (fun i d => D.tup [.int (i : Nat), d]) xs
def iEn (f : DFs) : DFs := fun ρ => (f ρ).bind fun ds => match ds with
  | [.tup xs] => some (enumD xs)
  | [.lst xs] => some (enumD xs)
  | _ => none
section
variable {K : PySem.W.Frag} {C : Addr} {F H : Hp} {a b : Addr} {xs ys : List V} {ds es : List D}
theorem jd_list (h : F a = some (.lst xs)) (hl : RpL K C F ds xs) : JD K C (Itl K a) F ds := fun i F1 H1 s1 s2 => by
  have ha : SqL K H1 a xs := SqL.of (s2 _ _ (s1 _ _ h))
  refine ⟨fun hi => ⟨xs, ha, by rw [hi, hl.len]; exact Nat.le_refl _⟩, fun d hd => ?_⟩
  obtain ⟨v, hv, r⟩ := RpL.get hl hd
  refine ⟨⟨xs, v, ha, hv⟩, fun x H2 y => ?_⟩
  obtain ⟨rfl, y⟩ := y
  have e := y xs ha
  rw [hv] at e
  cases e
  exact ⟨F1, Stp.refl s2, Rp.mono s1 d _ r⟩
theorem jd_tup (h : F a = some (.tup xs)) (hl : RpL K C F ds xs) : JD K C (Itt K a) F ds := fun i F1 H1 s1 s2 => by
  have ha : SqT K H1 a xs := SqT.of (s2 _ _ (s1 _ _ h))
  refine ⟨fun hi => ⟨xs, ha, by rw [hi, hl.len]; exact Nat.le_refl _⟩, fun d hd => ?_⟩
  obtain ⟨v, hv, r⟩ := RpL.get hl hd
  refine ⟨⟨xs, v, ha, hv⟩, fun x H2 y => ?_⟩
  obtain ⟨rfl, y⟩ := y
  have e := y xs ha
  rw [hv] at e
  cases e
  exact ⟨F1, Stp.refl s2, Rp.mono s1 d _ r⟩
theorem rngD_len (a : Int) (n : Nat) : (rngD a n).length = n := by
  unfold rngD
  rw [List.length_map, List.length_range]
theorem rngD_get {a : Int} {n i : Nat} {d : D} (h : (rngD a n)[i]? = some d) : i < n ∧ d = .int (a + (i : Int)) := by
  unfold rngD at h
  rw [List.getElem?_map] at h
  obtain ⟨j, h1, h2⟩ := Option.map_eq_some_iff.mp h
  obtain ⟨h3, h4⟩ := List.getElem?_eq_some_iff.mp h1
  rw [List.getElem_range] at h4
  rw [List.length_range] at h3
  subst h4
  exact ⟨h3, h2.symm⟩
theorem jd_rng {lo : Int} {n : Nat} : JD K C (Itr lo n) F (rngD lo n) := fun i F1 H1 s1 s2 => by
  refine ⟨fun hi => by
    rw [hi, rngD_len]
    exact Nat.le_refl _, fun d hd => ?_⟩
  obtain ⟨h1, rfl⟩ := rngD_get hd
  refine ⟨h1, fun x H2 y => ?_⟩
  obtain ⟨rfl, rfl⟩ := y
  exact ⟨F1, Stp.refl s2, rfl⟩
theorem enumD_len (xs : List D) : (enumD xs).length = xs.length := by
  unfold enumD
  rw [List.length_zipWith, List.length_range, Nat.min_self]
theorem enumD_get {xs : List D} {i : Nat} {d : D} (h : (enumD xs)[i]? = some d) : ∃ c, xs[i]? = some c ∧ d = .tup [.int (i : Nat), c] := by
  unfold enumD at h
  rw [List.getElem?_zipWith] at h
  cases e1 : (List.range xs.length)[i]? with
  | none =>
    rw [e1] at h
    cases h
  | some j =>
    cases e2 : xs[i]? with
    | none =>
      rw [e1, e2] at h
      cases h
    | some c =>
      rw [e1, e2] at h
      obtain ⟨h3, h4⟩ := List.getElem?_eq_some_iff.mp e1
      rw [List.getElem_range] at h4
      subst h4
      exact ⟨c, rfl, (Option.some.inj h).symm⟩
theorem pair_new {F1 H1 : Hp} (s2 : Same F1 H1) {T : Addr} {x y : V} {c d : D} (hT : H1 T = none) (r1 : Rp K C F1 c x) (r2 : Rp K C F1 d y) :
    ∃ F2, Stp F1 H1 F2 (upd H1 T (.tup [x, y])) ∧ Rp K C F2 (.tup [c, d]) (.ref T) := by
  have st := Stp.new (o := .tup [x, y]) s2 hT
  exact ⟨_, st, T, [x, y], rfl, upd_same, RpL.cons (Rp.mono st.ff c x r1) (RpL.cons (Rp.mono st.ff d y r2) RpL.nil)⟩
theorem jd_enumL (h : F a = some (.lst xs)) (hl : RpL K C F ds xs) : JD K C (Ite K a) F (enumD ds) := fun i F1 H1 s1 s2 => by
  have ha : SqL K H1 a xs := SqL.of (s2 _ _ (s1 _ _ h))
  refine ⟨fun hi => ⟨xs, ha, by rw [hi, enumD_len, hl.len]; exact Nat.le_refl _⟩, fun d hd => ?_⟩
  obtain ⟨c, hc, rfl⟩ := enumD_get hd
  obtain ⟨v, hv, r⟩ := RpL.get hl hc
  refine ⟨⟨xs, v, ha, hv⟩, fun x H2 y => ?_⟩
  obtain ⟨T, x', rfl, hT, rfl, y⟩ := y
  have e := y xs ha
  rw [hv] at e
  cases e
  exact pair_new s2 hT rfl (Rp.mono s1 c _ r)
theorem jd_enumT (h : F a = some (.tup xs)) (hl : RpL K C F ds xs) : JD K C (IteT K a) F (enumD ds) := fun i F1 H1 s1 s2 => by
  have ha : SqT K H1 a xs := SqT.of (s2 _ _ (s1 _ _ h))
  refine ⟨fun hi => ⟨xs, ha, by rw [hi, enumD_len, hl.len]⟩, fun d hd => ?_⟩
  obtain ⟨c, hc, rfl⟩ := enumD_get hd
  obtain ⟨v, hv, r⟩ := RpL.get hl hc
  refine ⟨⟨xs, v, ha, hv⟩, fun x H2 y => ?_⟩
  obtain ⟨T, x', rfl, hT, rfl, y⟩ := y
  have e := y xs ha
  rw [hv] at e
  cases e
  exact pair_new s2 hT rfl (Rp.mono s1 c _ r)
end
section
variable {X : Cx} {C : Addr} {O : List Nat} {tg e e2 : Expr} {es : List Expr} {f : DF} {fs : DFs} {p pos tpos : Pos}
theorem di_seq (he : DE X C O e f) : DI X C O tg e (iSeq f) := PIw (PIor (pi_list he) (pi_tup he)) fun σ H R ⟨F, ρ, ds, E, hf, k⟩ => by
  obtain ⟨d, h1, hf1⟩ := bind_some hf
  cases d <;> first | (cases hf1; done) | skip
  · cases hf1
    refine .inr ⟨F, ρ, _, E, h1, fun v F1 H1 s1 r1 => ?_⟩
    obtain ⟨a, xs, rfl, ha, hl⟩ := r1
    exact ⟨a, rfl, ⟨xs, SqT.of (s1.fh _ _ ha)⟩, k _ F1 H1 s1 (jd_tup ha hl)⟩
  · cases hf1
    refine .inl ⟨F, ρ, _, E, h1, fun v F1 H1 s1 r1 => ?_⟩
    obtain ⟨a, xs, rfl, ha, hl⟩ := r1
    exact ⟨a, rfl, ⟨xs, SqL.of (s1.fh _ _ ha)⟩, k _ F1 H1 s1 (jd_list ha hl)⟩
theorem e62 : (2 : Int) ^ 62 = 4611686018427387904 := by decide
theorem di_rng1 (hg : Gl X "range") (hm : X.mg "range" = none) (ha : DA X C O [e] fs) (hs : starEach [e] X.env = [(false, eval e X.env)] := by rfl) : DI X C O tg (.Call (.Name "range" p) [e] [] pos) (iRng1 fs) :=
  PIw (pi_range1 hg hm ha hs) fun σ H R ⟨F, ρ, ds, E, hf, k⟩ => by
    obtain ⟨d, h1, hf1⟩ := bind_some hf
    refine ⟨F, ρ, d, E, h1, fun vs F1 H1 s1 r1 => ?_⟩
    match d, hf1, r1 with
    | [.int n], hf1, r1 =>
      simp only [opRng1] at hf1
      split at hf1
      · rename_i hz
        cases hf1
        obtain ⟨v, rfl, h⟩ := RpL.one_inv r1
        rw [Rp.int h]
        exact ⟨n, rfl, by rw [e62]; omega, by rw [e62]; omega, k _ F1 H1 s1 jd_rng⟩
      · cases hf1
variable {elts : List Expr} {kk : Nat}
theorem di_enum (hg : Gl X "enumerate") (hm : X.mg "enumerate" = none) (ha : DA X C O [e] fs) (hs : starEach [e] X.env = [(false, eval e X.env)] := by rfl) : DI X C O (.Tuple elts kk tpos) (.Call (.Name "enumerate" p) [e] [] pos) (iEn fs) :=
  PIw (PIor (pi_enum hg hm ha hs) (pi_enumT hg hm ha hs)) fun σ H R ⟨F, ρ, ds, E, hf, k⟩ => by
    obtain ⟨d, h1, hf1⟩ := bind_some hf
    match d, hf1, h1 with
    | [.tup xs], hf1, h1 =>
      cases hf1
      refine .inr ⟨F, ρ, _, E, h1, fun vs F1 H1 s1 r1 => ?_⟩
      obtain ⟨v, rfl, a, us, rfl, ha, hl⟩ := RpL.one_inv r1
      exact ⟨a, us, rfl, s1.fh _ _ ha, k _ F1 H1 s1 (jd_enumT ha hl)⟩
    | [.lst xs], hf1, h1 =>
      cases hf1
      refine .inl ⟨F, ρ, _, E, h1, fun vs F1 H1 s1 r1 => ?_⟩
      obtain ⟨v, rfl, a, us, rfl, ha, hl⟩ := RpL.one_inv r1
      exact ⟨a, us, rfl, SqL.of (s1.fh _ _ ha), k _ F1 H1 s1 (jd_enumL ha hl)⟩
end
end DL
namespace DL
open PySem PySem.Spec PyProof.Rows L2
/-- a target: what the slots hold behind it -/
abbrev DG := D → Rho → Option Rho
def gN (i : Nat) : DG := fun d ρ => some (st ρ i d)
abbrev DGs := List D → Rho → Option Rho
def gsNil : DGs := fun ds ρ => match ds with
  | [] => some ρ
  | _ => none
def gsCons (g : DG) (h : DGs) : DGs := fun ds ρ => match ds with
  | d :: r => (g d ρ).bind (h r)
  | [] => none
def gT (h : DGs) : DG := fun d ρ => (asSeq d).bind fun ds => match d with
  | .tup _ => h ds ρ
  | _ => none
/-- but at the places ws the slots are as they were -/
def Bar (ws : List Nat) (σ σ' : L2.St) : Prop := σ'.length = σ.length ∧ ∀ j, j ∉ ws → σ'[j]? = σ[j]?
/-- the lists of one's own are as they were -/
def Kp (O : List Nat) (σ σ' : L2.St) (ρ ρ' : Rho) : Prop := ∀ i ∈ O, σ'[i]? = σ[i]? ∧ lk ρ' i = lk ρ i
theorem Kp.refl {O : List Nat} {σ : L2.St} {ρ : Rho} : Kp O σ σ ρ ρ := fun _ _ => ⟨rfl, rfl⟩
theorem Kp.trans {O : List Nat} {σ σ1 σ2 : L2.St} {ρ ρ1 ρ2 : Rho} (a : Kp O σ σ1 ρ ρ1) (b : Kp O σ1 σ2 ρ1 ρ2) : Kp O σ σ2 ρ ρ2 := fun i hi => ⟨(b i hi).1.trans (a i hi).1, (b i hi).2.trans (a i hi).2⟩
def tDG (K : PySem.W.Frag) (C : Addr) (O ws : List Nat) (g : DG) : TG := fun v σ H Q => ∃ F ρ d ρ', En K C O F H σ ρ ∧ Rp K C F d v ∧ g d ρ = some ρ' ∧ ∀ σ' , En K C O F H σ' ρ' → Bar ws σ σ' → Kp O σ σ' ρ ρ' → Q σ' H
def tDGs (K : PySem.W.Frag) (C : Addr) (O ws : List Nat) (g : DGs) : TGs := fun vs σ H Q => ∃ F ρ ds ρ', En K C O F H σ ρ ∧ RpL K C F ds vs ∧ g ds ρ = some ρ' ∧ ∀ σ', En K C O F H σ' ρ' → Bar ws σ σ' → Kp O σ σ' ρ ρ' → Q σ' H
abbrev DTg (X : Cx) (C : Addr) (O ws : List Nat) (e : Expr) (g : DG) : Prop := PG X e (tDG X.K C O ws g)
abbrev DTgs (X : Cx) (C : Addr) (O ws : List Nat) (es : List Expr) (g : DGs) : Prop := PGs X es (tDGs X.K C O ws g)
theorem Bar.trans {ws vs : List Nat} {a b c : L2.St} (h : Bar ws a b) (h' : Bar vs b c) : Bar (ws ++ vs) a c :=
  ⟨h'.1.trans h.1, fun j hj => (h'.2 j fun z => hj (List.mem_append_right _ z)).trans (h.2 j fun z => hj (List.mem_append_left _ z))⟩
theorem Bar.refl {ws : List Nat} {a : L2.St} : Bar ws a a := ⟨rfl, fun _ _ => rfl⟩
theorem wipe_get (σ : L2.St) : ∀ (vs : List Nat) (j : Nat), (wipe σ vs)[j]? = if j ∈ vs ∧ j < σ.length then some none else σ[j]?
  | [], j => by
    rw [if_neg (fun z => by cases z.1)]
    rfl
  | v :: vs, j => by
    show ((wipe σ vs).set v none)[j]? = _
    by_cases hv : v = j
    · subst hv
      by_cases hl : v < σ.length
      · rw [if_pos ⟨List.mem_cons_self, hl⟩, List.getElem?_set_self (by rw [wipe_length]; exact hl)]
      · rw [if_neg (fun z => hl z.2), List.getElem?_eq_none (by rw [List.length_set, wipe_length]; omega), List.getElem?_eq_none (by omega)]
    · rw [List.getElem?_set_ne hv, wipe_get σ vs j]
      have e : (j ∈ v :: vs ∧ j < σ.length) ↔ (j ∈ vs ∧ j < σ.length) := by
        constructor
        · rintro ⟨h1, h2⟩
          exact ⟨(List.mem_cons.mp h1).elim (fun z => absurd z.symm hv) id, h2⟩
        · rintro ⟨h1, h2⟩
          exact ⟨List.mem_cons_of_mem _ h1, h2⟩
      by_cases h : j ∈ vs ∧ j < σ.length
      · rw [if_pos h, if_pos (e.mpr h)]
      · rw [if_neg h, if_neg (fun z => h (e.mp z))]
theorem wipe_bar {ws vs : List Nat} {σ σ' : L2.St} (h : Bar ws (wipe σ vs) σ') (hs : ∀ i ∈ ws, i ∈ vs) : wipe σ' vs = wipe σ vs := by
  apply List.ext_getElem?
  intro j
  have hl : σ'.length = σ.length := by rw [h.1, wipe_length]
  rw [wipe_get, wipe_get, hl]
  split
  · rfl
  · rename_i hn
    by_cases hj : j ∈ vs
    · have hjl : ¬ j < σ.length := fun z => hn ⟨hj, z⟩
      rw [List.getElem?_eq_none (by omega), List.getElem?_eq_none (by omega)]
    · rw [h.2 j fun z => hj (hs j z), wipe_get, if_neg (fun z => hj z.1)]
section
variable {X : Cx} {C : Addr} {O : List Nat} {e : Expr} {es : List Expr} {g : DG} {h : DGs} {ws vs' : List Nat} {pos : Pos}
theorem PGw {e : Expr} {t t' : TG} (h : PG X e t) (w : ∀ v σ H Q, t' v σ H Q → t v σ H Q) : PG X e t' := ⟨fun pins s σ H v u Q I r q => h.run pins s σ H v u Q I r (w v σ H Q q)⟩
theorem PGsw {e : List Expr} {t t' : TGs} (h : PGs X e t) (w : ∀ v σ H Q, t' v σ H Q → t v σ H Q) : PGs X e t' := ⟨fun pins s σ H v u Q I r q => h.run pins s σ H v u Q I r (w v σ H Q q)⟩
theorem dg_name (i : Nat) {x : Str} (hN : X.N.Nodup) (hi : X.N[i]? = some x := by rfl) (hx : Loc X.env.scope x := by first | exact Or.inl rfl | exact Or.inr rfl) (hO : i ∉ O := by decide)
    (hf : X.fn x = true ∨ X.env.scope.names.lookup x = some .local := by first | exact .inl rfl | exact .inr rfl) : DTg X C O [i] (.Name x pos) (gN i) := PGw (pg_name hN hi hx hf) fun v σ H Q ⟨F, ρ, d, ρ', E, r, hg, k⟩ => by
  cases hg
  exact k _ (E.set hO r) ⟨by rw [List.length_set], fun j hj => List.getElem?_set_ne fun z => hj (by rw [z]; exact List.mem_cons_self)⟩ fun j hj => ⟨List.getElem?_set_ne fun (z : i = j) => hO (by rw [z]; exact hj), lk_st_ne fun (z : j = i) => hO (by rw [← z]; exact hj)⟩
theorem dg_nil : DTgs X C O [] [] gsNil := PGsw pgs_nil fun vs σ H Q ⟨F, ρ, ds, ρ', E, r, hg, k⟩ => by
  cases ds with
  | nil =>
    cases hg
    exact ⟨r, k σ E Bar.refl Kp.refl⟩
  | cons _ _ => cases hg
theorem dg_cons (h1 : DTg X C O ws e g) (h2 : DTgs X C O vs' es h) (hs : (assignEach (e :: es) X.env).map (·.2) = assign e X.env :: (assignEach es X.env).map (·.2) := by rfl) : DTgs X C O (ws ++ vs') (e :: es) (gsCons g h) := PGsw (pgs_cons h1 h2 hs) fun vs σ H Q ⟨F, ρ, ds, ρ', E, r, hg, k⟩ => by
  cases ds with
  | nil => cases hg
  | cons d ds =>
    obtain ⟨ρ1, g1, g2⟩ := bind_some hg
    obtain ⟨v, vr, rfl, r1, r2⟩ := r
    exact ⟨v, vr, rfl, F, ρ, d, ρ1, E, r1, g1, fun σ1 E1 b1 k1 => ⟨F, ρ1, ds, ρ', E1, r2, g2, fun σ2 E2 b2 k2 => k σ2 E2 (b1.trans b2) (k1.trans k2)⟩⟩
theorem dg_tup {n k : Nat} (hc : X.calm = true) (h1 : DTgs X C O ws es h) (hl : ∀ ds ρ ρ', h ds ρ = some ρ' → ds.length = n) (hn : (assignEach es X.env).length = n := by rfl) (hst : (assignEach es X.env).findIdx? (·.1) = none := by rfl) :
    DTg X C O ws (.Tuple es k pos) (gT h) := PGw (pg_tup hc h1 hn hst) fun v σ H Q ⟨F, ρ, d, ρ', E, r, hg, kk⟩ => by
  obtain ⟨ds, g1, g2⟩ := bind_some hg
  cases d with
  | tup es' =>
    cases g1
    obtain ⟨a, xs, rfl, ha, hr⟩ := r
    exact ⟨a, xs, rfl, SqT.of (E.fh _ _ ha), by rw [← hr.len]; exact hl _ _ _ g2, F, ρ, _, ρ', E, hr, g2, kk⟩
  | _ => cases g2
theorem gl0 : ∀ ds ρ ρ', gsNil ds ρ = some ρ' → ds.length = 0 := fun ds ρ ρ' h => by
  cases ds with
  | nil => rfl
  | cons _ _ => cases h
theorem gl1 {n : Nat} {g : DG} {h : DGs} (hh : ∀ ds ρ ρ', h ds ρ = some ρ' → ds.length = n) : ∀ ds ρ ρ', gsCons g h ds ρ = some ρ' → ds.length = n + 1 := fun ds ρ ρ' q => by
  cases ds with
  | nil => cases q
  | cons d r =>
    obtain ⟨ρ1, _, g2⟩ := bind_some q
    rw [List.length_cons, hh _ _ _ g2]
end
def compL (g : DG) (t : DB) (e : DF) (ρ : Rho) : List D → Option (List D)
  | [] => some []
  | d :: ds => (g d ρ).bind fun ρ1 => (t ρ1).bind fun b => if b = true then (e ρ1).bind fun x => (compL g t e ρ ds).bind fun r => some (x :: r) else compL g t e ρ ds
def lstOk (ds : List D) : Option D := if ds.length ≤ 16777216 then some (.lst ds) else none
def dComp (it : DFs) (g : DG) (t : DB) (e : DF) (vs : List Nat) : DF := fun ρ => (it ρ).bind fun ds => (compL g t e (wipeR ρ vs) ds).bind lstOk
def bYes : DB := fun _ => some true
abbrev DTs (X : Cx) (C : Addr) (O : List Nat) (ifs : List Expr) (t : DB) : Prop := PTs X ifs (tDT X.K C O t)
section
variable {X : Cx} {C : Addr} {O : List Nat}
theorem PTsw {ifs : List Expr} {t t' : TT} (h : PTs X ifs t) (w : ∀ σ H Q, t' σ H Q → t σ H Q) : PTs X ifs t' := ⟨fun pins s σ H Q I q => h.run pins s σ H Q I (w σ H Q q)⟩
theorem dts_nil : DTs X C O [] bYes := PTsw pts_nil fun σ H Q ⟨F, ρ, b, E, hf, k⟩ => by
  cases hf
  exact k F H (Stp.refl E.fh)
theorem dts_one {c : Expr} {t : DB} (h : DT X C O c t) : DTs X C O [c] t := pts_one h
/-- the comprehension's loop: acc, what is made so far; rest: what is to come -/
def CW (K : PySem.W.Frag) (C : Addr) (F0 H0 : Hp) (g : DG) (t : DB) (e : DF) (ρ : Rho) (ds rs : List D) (Dl : Addr) (i m : Nat) (H : Hp) : Prop :=
  m = ds.length - i ∧ i ≤ ds.length ∧ ∃ F acc racc rest, Stp F0 H0 F H ∧ H Dl = some (.lst acc) ∧ F Dl = none ∧ RpL K C F racc acc ∧ compL g t e ρ (ds.drop i) = some rest ∧ rs = racc ++ rest
theorem comp_rd {K : PySem.W.Frag} {it : DFs} {g : DG} {t : DB} {e : DF} {ws vs : List Nat} {σ : L2.St} {H : Hp} {Q : VK} (hs : ∀ i ∈ ws, i ∈ vs) (hw : tD K C O (dComp it g t e vs) σ H Q) :
    tLc (tDI K C O it) (tDG K C O ws g) (tDT K C O t) (tD K C O e) vs σ H Q := by
  obtain ⟨F, ρ, d, E, hf, k⟩ := hw
  obtain ⟨ds, h1, hf1⟩ := bind_some hf
  obtain ⟨rs, h2, hf2⟩ := bind_some hf1
  clear hf hf1
  unfold lstOk at hf2
  split at hf2
  · rename_i hz
    cases hf2
    refine ⟨F, ρ, ds, E, h1, fun J F1 H1 s1 jd Dl hD => ?_⟩
    have E1 : En K C O F1 H1 (wipe σ vs) (wipeR ρ vs) := (E.step s1).wipe vs
    refine ⟨CW K C F1 H1 g t e (wipeR ρ vs) ds rs Dl, ⟨ds.length, rfl, Nat.zero_le _, F1, [], [], rs, Stp.own s1.fh hD, upd_same, none_of_same s1.fh hD, RpL.nil, h2, rfl⟩, fun i m H2 hW => ?_⟩
    obtain ⟨rfl, hi, F2, acc, racc, rest, s2, hH, hF, hR, hc, he⟩ := hW
    by_cases hlt : i < ds.length
    · right
      obtain ⟨_, jg⟩ := jd i F2 H2 s2.ff s2.fh
      obtain ⟨go, yl⟩ := jg ds[i] (List.getElem?_eq_getElem hlt)
      rw [List.drop_eq_getElem_cons hlt] at hc
      unfold compL at hc
      obtain ⟨ρ1, c1, hc1⟩ := bind_some hc
      obtain ⟨b, c2, hc2⟩ := bind_some hc1
      clear hc hc1
      refine ⟨go, fun H' => CW K C F1 H1 g t e (wipeR ρ vs) ds rs Dl (i + 1) (ds.length - (i + 1)) H', fun H' hN => ⟨_, by omega, hN⟩, fun x H3 y => ?_⟩
      obtain ⟨F3, s3, r3⟩ := yl x H3 y
      have s13 := s2.trans s3
      refine ⟨F3, wipeR ρ vs, ds[i], ρ1, E1.step s13, r3, c1, fun σ4 E4 bar _ => ⟨wipe_bar bar hs, F3, ρ1, b, E4, c2, fun F5 H5 s5 => ?_⟩⟩
      have s15 := s13.trans s5
      have sD := s3.trans s5
      cases b with
      | true =>
        dsimp only
        rw [if_pos rfl] at hc2 ⊢
        obtain ⟨z, c3, hc3⟩ := bind_some hc2
        obtain ⟨rest', c4, hc4⟩ := bind_some hc3
        cases hc4
        refine ⟨F5, ρ1, z, E4.step s5, c3, fun v F6 H6 s6 r6 => ?_⟩
        have s16 := s15.trans s6
        have sE := sD.trans s6
        have hlen := hR.len
        have hl2 : acc.length < 16777216 := by
          rw [he, List.length_append, List.length_cons] at hz
          omega
        refine ⟨acc, sE.hh _ _ hH, Nat.lt_of_lt_of_le hl2 (szl_ok (Nat.le_refl _)), rfl, hlt, F6, acc ++ [v], racc ++ [z], rest', ?_, upd_same, (sE.old _ _ hH).trans hF, RpL.append (RpL.mono sE.ff _ _ hR) (RpL.one r6), c4, by rw [he, List.append_assoc]; rfl⟩
        have hFn : F6 Dl = none := (sE.old _ _ hH).trans hF
        refine ⟨s16.ff, fun a o q => ?_, fun a o q => ?_, s16.old⟩
        · rw [upd_ne (ne_of_none q hD)]
          exact s16.hh a o q
        · rw [upd_ne (ne_of_none q hFn)]
          exact s16.fh a o q
      | false =>
        dsimp only
        rw [if_neg Bool.false_ne_true] at hc2 ⊢
        exact ⟨rfl, hlt, F5, acc, racc, rest, s15, sD.hh _ _ hH, (sD.old _ _ hH).trans hF, RpL.mono sD.ff _ _ hR, hc2, he⟩
    · left
      have ei : i = ds.length := by omega
      subst ei
      obtain ⟨js, _⟩ := jd ds.length F2 H2 s2.ff s2.fh
      refine ⟨js rfl, ?_⟩
      rw [List.drop_length] at hc
      cases hc
      rw [List.append_nil] at he
      subst he
      have sF : Same F2 (upd F2 Dl (.lst acc)) := same_upd hF
      refine k _ (upd F2 Dl (.lst acc)) H2 (s1.trans ⟨s2.ff.trans sF, s2.hh, fun a o q => ?_, fun a o q => ?_⟩) ⟨Dl, acc, rfl, upd_same, RpL.mono sF _ _ hR⟩
      · by_cases ha : a = Dl
        · subst ha
          rw [upd_same] at q
          rw [← q]
          exact hH
        · rw [upd_ne ha] at q
          exact s2.fh a o q
      · rw [upd_ne (ne_of_none q hD)]
        exact s2.old a o q
  · cases hf2
variable {elt tg iter : Expr} {ifs : List Expr} {scope : Scope} {pos : Pos} {it : DFs} {g : DG} {t : DB} {e : DF} {ws : List Nat}
theorem de_comp {own : List (Str × Nat)} (hc : X.calm = true) (hN : X.N.Nodup) (hi : DI X C O tg iter it) (ok : BlkOk X.N X.env.scope scope own)
    (hg : ∀ (s : Shared) (H : Hp) (D : Addr) (cl : List (Str × Addr)) (fp : List Addr), DTg (X.blk s H scope (compEnvC scope cl D X.env) fp) C O ws tg g) (ht : ∀ (s : Shared) (H : Hp) (D : Addr) (cl : List (Str × Addr)) (fp : List Addr), DTs (X.blk s H scope (compEnvC scope cl D X.env) fp) C O ifs t)
    (he : ∀ (s : Shared) (H : Hp) (D : Addr) (cl : List (Str × Addr)) (fp : List Addr), DE (X.blk s H scope (compEnvC scope cl D X.env) fp) C O elt e) (hv : ∀ i ∈ ws, i ∈ own.map (·.2) := by decide) (hs : ∀ x, foldedSetIterable iter X.env x = pure x := by intro _; rfl) :
    DE X C O (.ListComp elt [⟨tg, iter, ifs, 0⟩] scope pos) (dComp it g t e (own.map (·.2))) := PEw (pe_lc hc hN hi ok hg ht he hs) fun _ _ _ hw => comp_rd hv hw
end
end DL
namespace DL
open PySem PySem.Spec PyProof.Rows L2
inductive R where
  | nx (ρ : Rho) | rt (d : D)
abbrev DS := Rho → Option R
/-- the slots at a statement; F0, H0: as the def was entered -/
structure Sn (K : PySem.W.Frag) (C : Addr) (O : List Nat) (F0 H0 F H : Hp) (σ : L2.St) (ρ : Rho) : Prop where
  en : En K C O F H σ ρ
  sp : Stp F0 H0 F H
  nw : ∀ i d p, i ∈ O → lk ρ i = some d → σ[i]? = some (some (.ref p)) → H0 p = none
def endR (K : PySem.W.Frag) (C : Addr) (O' : List Nat) (F0 H0 F : Hp) (Z : Ends) : R → Prop
  | .nx ρ' => ∀ σ' F' H', Sn K C O' F0 H0 F' H' σ' ρ' → Same F F' → Z.nx σ' H'
  | .rt d => ∀ v F' H', Stp F0 H0 F' H' → Rp K C F' d v → Z.rt v H'
def tDS (K : PySem.W.Frag) (C : Addr) (O O' : List Nat) (f : DS) : TS := fun Z σ H => ∃ F0 H0 F ρ r, Sn K C O F0 H0 F H σ ρ ∧ f ρ = some r ∧ endR K C O' F0 H0 F Z r
abbrev DSt (X : Cx) (C : Addr) (O O' : List Nat) (s : Stmt) (f : DS) : Prop := PS X s (tDS X.K C O O' f)
abbrev DSs (X : Cx) (C : Addr) (O O' : List Nat) (s : List Stmt) (f : DS) : Prop := PSs X s (tDS X.K C O O' f)
section
variable {K : PySem.W.Frag} {C : Addr} {O O' : List Nat} {F0 H0 F H F' H' : Hp} {σ : L2.St} {ρ : Rho} {Z : Ends}
theorem endR.mono {r : R} (h : endR K C O' F0 H0 F Z r) (s : Same F F') : endR K C O' F0 H0 F' Z r := by
  cases r with
  | nx ρ' => exact fun σ' F2 H2 S sm => h σ' F2 H2 S (s.trans sm)
  | rt d => exact h
theorem Sn.step (h : Sn K C O F0 H0 F H σ ρ) (s : Stp F H F' H') : Sn K C O F0 H0 F' H' σ ρ := ⟨h.en.step s, h.sp.trans s, h.nw⟩
theorem Sn.set {i : Nat} {d : D} {v : V} (h : Sn K C O F0 H0 F H σ ρ) (hi : i ∉ O) (hv : Rp K C F d v) : Sn K C O F0 H0 F H (σ.set i (some v)) (st ρ i d) := by
  refine ⟨h.en.set hi hv, h.sp, fun j e p hj q1 q2 => ?_⟩
  have hji : j ≠ i := fun z => hi (z ▸ hj)
  rw [lk_st_ne hji] at q1
  rw [List.getElem?_set_ne (Ne.symm hji)] at q2
  exact h.nw j e p hj q1 q2
/-- the slots are another, the lists of one's own the same -/
theorem Sn.keep {σ' : L2.St} {ρ' : Rho} (h : Sn K C O F0 H0 F H σ ρ) (E : En K C O F H σ' ρ') (kp : Kp O σ σ' ρ ρ') : Sn K C O F0 H0 F H σ' ρ' := by
  refine ⟨E, h.sp, fun j e p hj q1 q2 => ?_⟩
  rw [(kp j hj).2] at q1
  rw [(kp j hj).1] at q2
  exact h.nw j e p hj q1 q2
/-- a list that nobody knows becomes one's own -/
theorem Sn.adopt {i : Nat} {p : Addr} {ds : List D} {vs : List V} (h : Sn K C O F0 H0 F H σ ρ) (hi : i ∉ O) (hH : H p = some (.lst vs)) (hF : F p = none) (h0 : H0 p = none)
    (hn : ∀ j d, j ∈ O → lk ρ j = some d → σ[j]? ≠ some (some (.ref p))) (hl : RpL K C F ds vs) : Sn K C (i :: O) F0 H0 F H (σ.set i (some (.ref p))) (st ρ i (.lst ds)) := by
  have hE := h.en
  have nlt : ∀ {d : D}, lk (st ρ i (.lst ds)) i = some d → i < σ.length := fun {d} q => by
    have := lk_lt q
    rw [st_len, ← hE.len] at this
    exact this
  refine ⟨⟨hE.fh, by rw [List.length_set, st_len]; exact hE.len, fun j e hj q => ?_, fun j e hj q => ?_, fun j k e e' p' hj hk q1 q2 q3 q4 => ?_⟩, h.sp, fun j e p' hj q1 q2 => ?_⟩
  · have hji : j ≠ i := fun z => hj (by rw [z]; exact List.mem_cons_self)
    rw [lk_st_ne hji] at q
    rw [List.getElem?_set_ne (Ne.symm hji)]
    exact hE.pl j e (fun z => hj (List.mem_cons_of_mem _ z)) q
  · by_cases hji : j = i
    · subst hji
      have e1 := lk_st_same q
      subst e1
      exact ⟨p, vs, ds, List.getElem?_set_self (nlt q), rfl, hH, hF, hl⟩
    · rw [lk_st_ne hji] at q
      rw [List.getElem?_set_ne (Ne.symm hji)]
      exact hE.ow j e ((List.mem_cons.mp hj).elim (fun z => absurd z hji) id) q
  · by_cases hji : j = i
    · by_cases hki : k = i
      · rw [hji, hki]
      · exfalso
        subst hji
        rw [lk_st_ne hki] at q2
        rw [List.getElem?_set_ne (Ne.symm hki)] at q4
        rw [List.getElem?_set_self (nlt q1)] at q3
        cases q3
        exact hn k e' ((List.mem_cons.mp hk).elim (fun z => absurd z hki) id) q2 q4
    · by_cases hki : k = i
      · exfalso
        subst hki
        rw [lk_st_ne hji] at q1
        rw [List.getElem?_set_ne (Ne.symm hji)] at q3
        rw [List.getElem?_set_self (nlt q2)] at q4
        cases q4
        exact hn j e ((List.mem_cons.mp hj).elim (fun z => absurd z hji) id) q1 q3
      · rw [lk_st_ne hji] at q1
        rw [lk_st_ne hki] at q2
        rw [List.getElem?_set_ne (Ne.symm hji)] at q3
        rw [List.getElem?_set_ne (Ne.symm hki)] at q4
        exact hE.ap j k e e' p' ((List.mem_cons.mp hj).elim (fun z => absurd z hji) id) ((List.mem_cons.mp hk).elim (fun z => absurd z hki) id) q1 q2 q3 q4
  · by_cases hji : j = i
    · subst hji
      rw [List.getElem?_set_self (nlt q1)] at q2
      cases q2
      exact h0
    · rw [lk_st_ne hji] at q1
      rw [List.getElem?_set_ne (Ne.symm hji)] at q2
      exact h.nw j e p' ((List.mem_cons.mp hj).elim (fun z => absurd z hji) id) q1 q2
/-- a list just made, known to nobody, becomes one's own -/
theorem Sn.own {i : Nat} {p : Addr} {ds : List D} {vs : List V} (h : Sn K C O F0 H0 F H σ ρ) (hi : i ∉ O) (hH : H p = none) (hl : RpL K C F ds vs) :
    Sn K C (i :: O) F0 H0 F (upd H p (.lst vs)) (σ.set i (some (.ref p))) (st ρ i (.lst ds)) := by
  refine (h.step (Stp.own h.en.fh hH)).adopt hi upd_same (none_of_same h.en.fh hH) (h.sp.hh.free hH) (fun j d hj q1 q2 => ?_) hl
  obtain ⟨p', _, _, g1, _, g3, _, _⟩ := h.en.ow j d hj q1
  rw [g1] at q2
  cases q2
  rw [hH] at g3
  cases g3
theorem Sn.mut {i : Nat} {ds ds' : List D} {vs' : List V} {p : Addr} (h : Sn K C O F0 H0 F H σ ρ) (hi : i ∈ O) (he : lk ρ i = some (.lst ds)) (hp : σ[i]? = some (some (.ref p))) (hl : RpL K C F ds' vs') :
    Sn K C O F0 H0 F (upd H p (.lst vs')) σ (st ρ i (.lst ds')) := by
  obtain ⟨p', vs, ds2, g1, g2, g3, g4, g5⟩ := h.en.ow i _ hi he
  rw [g1] at hp
  cases hp
  have h0 : H0 p = none := h.nw i _ p hi he g1
  refine ⟨h.en.mut hi he g1 g3 g4 hl, ⟨h.sp.ff, fun a o q => ?_, fun a o q => ?_, h.sp.old⟩, fun j e p' hj q1 q2 => ?_⟩
  · rw [upd_ne (ne_of_none q h0)]
    exact h.sp.hh a o q
  · rw [upd_ne (ne_of_none q g4)]
    exact h.en.fh a o q
  · by_cases hji : j = i
    · subst hji
      rw [g1] at q2
      cases q2
      exact h0
    · rw [lk_st_ne hji] at q1
      exact h.nw j e p' hj q1 q2
theorem Sn.freeze {i : Nat} (h : Sn K C O F0 H0 F H σ ρ) (hO : ∀ j, j ∈ O' ↔ j ∈ O ∧ j ≠ i) : ∃ F', Same F F' ∧ Sn K C O' F0 H0 F' H σ ρ := by
  obtain ⟨F', sm, E, ch⟩ := h.en.freeze hO
  refine ⟨F', sm, E, ⟨h.sp.ff.trans sm, h.sp.hh, E.fh, fun a o q => ?_⟩, fun j d p hj q1 q2 => h.nw j d p ((hO j).mp hj).1 q1 q2⟩
  by_cases hne : F' a = F a
  · rw [hne]
    exact h.sp.old a o q
  · obtain ⟨hi, d, e1, e2⟩ := ch a hne
    rw [h.nw i d a hi e1 e2] at q
    cases q
end
def dSeq (f g : DS) : DS := fun ρ => (f ρ).bind fun r => match r with
  | .nx ρ' => g ρ'
  | .rt d => some (.rt d)
def dNx : DS := fun ρ => some (.nx ρ)
def dRet (f : DF) : DS := fun ρ => (f ρ).bind fun d => some (.rt d)
def dSet (i : Nat) (f : DF) : DS := fun ρ => (f ρ).bind fun d => some (.nx (st ρ i d))
def dIfS (t : DB) (f g : DS) : DS := fun ρ => (t ρ).bind fun b => if b = true then f ρ else g ρ
def dAsg (g : DG) (f : DF) : DS := fun ρ => (f ρ).bind fun d => (g d ρ).bind fun ρ' => some (.nx ρ')
def forL (g : DG) (b : DS) : List D → Rho → Option R
  | [], ρ => some (.nx ρ)
  | d :: ds, ρ => (g d ρ).bind fun ρ1 => (b ρ1).bind fun r => match r with
    | .nx ρ2 => forL g b ds ρ2
    | .rt x => some (.rt x)
def dFor (it : DFs) (g : DG) (b : DS) : DS := fun ρ => (it ρ).bind fun ds => forL g b ds ρ
def whileN (t : DB) (b : DS) : Nat → Rho → Option R
  | 0, _ => none
  | n + 1, ρ => (t ρ).bind fun c => if c = true then (b ρ).bind fun r => match r with
    | .nx ρ' => whileN t b n ρ'
    | .rt d => some (.rt d) else some (.nx ρ)
def FUEL : Nat := 1000000000000000000000000000000
def dWhile (t : DB) (b : DS) : DS := fun ρ => whileN t b FUEL ρ
def dPar (i j : Nat) (f g : DF) : DS := fun ρ => (f ρ).bind fun x => (g ρ).bind fun y => some (.nx (st (st ρ i x) j y))
def asI : D → Option Int
  | .int i => some i
  | _ => none
def dAug (i : Nat) (f : DF) : DS := fun ρ => (lk ρ i).bind fun x => (asI x).bind fun a => (f ρ).bind fun y => (asI y).bind fun b => some (.nx (st ρ i (.int (a + b))))
def asL : D → Option (List D)
  | .lst xs => some xs
  | _ => none
def dApp (i : Nat) (f : DF) : DS := fun ρ => (f ρ).bind fun d => (lk ρ i).bind fun x => (asL x).bind fun ds => if ds.length < 16777216 then some (.nx (st ρ i (.lst (ds ++ [d])))) else none
def dSetIx (i : Nat) (k f : DF) : DS := fun ρ => (f ρ).bind fun d => (k ρ).bind fun j => (asI j).bind fun n => (lk ρ i).bind fun x => (asL x).bind fun ds => (ixNat ds.length n).bind fun m => some (.nx (st ρ i (.lst (ds.set m d))))
theorem asI_some {d : D} {b : Int} (h : asI d = some b) : d = .int b := by
  cases d <;> first | (cases h; rfl) | cases h
theorem asL_some {d : D} {b : List D} (h : asL d = some b) : d = .lst b := by
  cases d <;> first | (cases h; rfl) | cases h
section
variable {X : Cx} {C : Addr} {O O' O1 : List Nat} {s : Stmt} {ss : List Stmt} {f g : DS} {e a b c : Expr} {fe ge : DF} {t : DB} {pos : Pos}
theorem dss_nil : DSs X C O O [] dNx := PSsw pss_nil fun D σ H ⟨F0, H0, F, ρ, r, S, hf, k⟩ => by
  cases hf
  exact k σ F H S (Same.refl _)
theorem dss_cons (h1 : DSt X C O O1 s f) (h2 : DSs X C O1 O' ss g) : DSs X C O O' (s :: ss) (dSeq f g) := PSsw (pss_cons h1 h2) fun D σ H ⟨F0, H0, F, ρ, r, S, hf, k⟩ => by
  obtain ⟨r1, e1, e2⟩ := bind_some hf
  refine ⟨F0, H0, F, ρ, r1, S, e1, ?_⟩
  cases r1 with
  | nx ρ1 => exact fun σ1 F1 H1 S1 sm => ⟨F0, H0, F1, ρ1, r, S1, e2, k.mono sm⟩
  | rt d =>
    cases e2
    exact k
theorem dss_one (h1 : DSt X C O O' s f) : DSs X C O O' [s] f := pss_one h1
/-- ghosts: a list of one's own is frozen ahead of a statement, of a block -/
theorem ds_frz (i : Nat) (h : DSt X C O1 O' s f) (hO : ∀ j, j ∈ O1 ↔ j ∈ O ∧ j ≠ i := by intro j; simp only [List.mem_cons, List.not_mem_nil, or_false]; constructor <;> (intro h; first | omega | exact h.elim)) : DSt X C O O' s f := PSw h fun D σ H ⟨F0, H0, F, ρ, r, S, hf, k⟩ => by
  obtain ⟨F', sm, S'⟩ := S.freeze hO
  exact ⟨F0, H0, F', ρ, r, S', hf, k.mono sm⟩
theorem ds_ret (h : DE X C O e fe) : DSt X C O O (.Return (some e) pos) (dRet fe) := PSw (ps_ret h) fun D σ H ⟨F0, H0, F, ρ, r, S, hf, k⟩ => by
  obtain ⟨d, e1, e2⟩ := bind_some hf
  cases e2
  exact ⟨F, ρ, d, S.en, e1, fun v F1 H1 s1 r1 => k v F1 H1 (S.sp.trans s1) r1⟩
theorem ds_if (hc : DT X C O c t) (ha : DSs X C O O' ss f) {us : List Stmt} (hb : DSs X C O O' us g) : DSt X C O O' (.If c ss us pos) (dIfS t f g) := PSw (ps_if hc ha hb) fun D σ H ⟨F0, H0, F, ρ, r, S, hf, k⟩ => by
  obtain ⟨d, e1, e2⟩ := bind_some hf
  refine ⟨F, ρ, d, S.en, e1, fun F1 H1 s1 => ?_⟩
  cases d with
  | true =>
    rw [if_pos rfl] at e2 ⊢
    exact ⟨F0, H0, F1, ρ, r, S.step s1, e2, k.mono s1.ff⟩
  | false =>
    rw [if_neg Bool.false_ne_true] at e2 ⊢
    exact ⟨F0, H0, F1, ρ, r, S.step s1, e2, k.mono s1.ff⟩
theorem set_rd {K : PySem.W.Frag} {i : Nat} {Z : Ends} {σ : L2.St} {H : Hp} (hi : i ∉ O) (hw : tDS K C O O (dSet i fe) Z σ H) : tAsg (tD K C O fe) (gName i) Z σ H := by
  obtain ⟨F0, H0, F, ρ, r, S, hf, k⟩ := hw
  obtain ⟨d, e1, e2⟩ := bind_some hf
  cases e2
  exact ⟨F, ρ, d, S.en, e1, fun v F1 H1 s1 r1 => k _ F1 H1 ((S.step s1).set hi r1) s1.ff⟩
theorem ds_set (i : Nat) {x : Str} {pos' : Pos} (hN : X.N.Nodup) (he : DE X C O e fe) (hi : X.N[i]? = some x := by rfl) (hx : Loc X.env.scope x := by first | exact Or.inl rfl | exact Or.inr rfl) (hO : i ∉ O := by decide)
    (hs : swapsWith e (some (.Name x pos')) pos.line X.env = pure false := by rfl) (hf : X.fn x = true ∨ X.env.scope.names.lookup x = some .local := by first | exact .inl rfl | exact .inr rfl) :
    DSt X C O O (.Assign [.Name x pos'] e pos) (dSet i fe) := PSw (ps_set hN hi hx he hs hf) fun D σ H hw => set_rd hO hw
/-- any target -/
theorem ds_asg {tg : Expr} {ws : List Nat} {gg : DG} (he : DE X C O e fe) (hg : DTg X C O ws tg gg) (hs : swapsWithSole [tg] e pos.line X.env = pure false := by rfl) (hw : swappedStores [tg] e X.env = pure none := by rfl)
    (h1 : (assignEach [tg] X.env).map (·.2) = [assign tg X.env] := by rfl) : DSt X C O O (.Assign [tg] e pos) (dAsg gg fe) := PSw (ps_asg he hg hs hw h1) fun D σ H ⟨F0, H0, F, ρ, r, S, hf, k⟩ => by
  obtain ⟨d, e1, e2⟩ := bind_some hf
  obtain ⟨ρ', e3, e4⟩ := bind_some e2
  cases e4
  refine ⟨F, ρ, d, S.en, e1, fun v F1 H1 s1 r1 => ⟨F1, ρ, d, ρ', S.en.step s1, r1, e3, fun σ' E' bar kp => k σ' F1 H1 ((S.step s1).keep E' kp) s1.ff⟩⟩
theorem ds_par (i j : Nat) {x y : Str} {px py pt : Pos} {kt k2 : Nat} {pt2 : Pos} (hc : X.calm = true) (hN : X.N.Nodup) (ha : DE X C O a fe) (hb : DE X C O b ge) (hi : X.N[i]? = some x := by rfl) (hj : X.N[j]? = some y := by rfl) (hij : i ≠ j := by decide)
    (hx : X.env.scope.names.lookup x = some .local := by rfl) (hy : X.env.scope.names.lookup y = some .local := by rfl) (hO : i ∉ O := by decide) (hO2 : j ∉ O := by decide)
    (hw : swappedStores [.Tuple [.Name x px, .Name y py] kt pt] (.Tuple [a, b] k2 pt2) X.env = pure (some [x, y]) := by rfl)
    (hs : swapsWithSole [.Tuple [.Name x px, .Name y py] kt pt] (.Tuple [a, b] k2 pt2) pos.line X.env = pure false := by rfl)
    (h1 : starEach [a, b] X.env = (false, eval a X.env) :: starEach [b] X.env := by rfl) (h2 : starEach [b] X.env = (false, eval b X.env) :: starEach [] X.env := by rfl) :
    DSt X C O O (.Assign [.Tuple [.Name x px, .Name y py] kt pt] (.Tuple [a, b] k2 pt2) pos) (dPar i j fe ge) := PSw (ps_par hc hN hi hj hij hx hy (pa_cons ha (pa_cons hb pa_nil h2) h1) hw hs) fun D σ H ⟨F0, H0, F, ρ, r, S, hf, k⟩ => by
  obtain ⟨d, e1, e2⟩ := bind_some hf
  obtain ⟨d', e3, e4⟩ := bind_some e2
  cases e4
  exact ⟨F, ρ, d, S.en, e1, fun v F1 H1 s1 r1 => ⟨F1, ρ, d', S.en.step s1, e3, fun v2 F2 H2 s2 r2 => ⟨v, v2, rfl, k _ F2 H2 (((S.step (s1.trans s2)).set hO (Rp.mono s2.ff _ _ r1)).set hO2 r2) (s1.ff.trans s2.ff)⟩⟩⟩
theorem ds_aug (i : Nat) {x : Str} {pos' : Pos} (hN : X.N.Nodup) (he : DE X C O e fe) (hi : X.N[i]? = some x := by rfl) (hx : Loc X.env.scope x := by first | exact Or.inl rfl | exact Or.inr rfl) (hO : i ∉ O := by decide)
    (hf : X.fn x = true ∨ X.env.scope.names.lookup x = some .local := by first | exact .inl rfl | exact .inr rfl) : DSt X C O O (.AugAssign (.Name x pos') .Add e pos) (dAug i fe) := PSw (ps_aug hN hi hx he ip_add hf) fun D σ H ⟨F0, H0, F, ρ, r, S, hf, k⟩ => by
  obtain ⟨d, e1, e2⟩ := bind_some hf
  obtain ⟨n, e3, e4⟩ := bind_some e2
  obtain ⟨d', e5, e6⟩ := bind_some e4
  obtain ⟨m, e7, e8⟩ := bind_some e6
  obtain rfl := asI_some e3
  obtain rfl := asI_some e7
  cases e8
  obtain ⟨v, q1, q2⟩ := S.en.pl i _ hO e1
  have q2' : v = .int n := q2
  subst q2'
  refine ⟨_, q1, F, ρ, _, S.en, e5, fun v F1 H1 s1 r1 => ⟨n, m, rfl, r1, k _ F1 H1 ((S.step s1).set hO rfl) s1.ff⟩⟩
theorem ds_while {body : List Stmt} (hp : PassesOwn (model X.prog X.w) X.A X.env X.xe) (hc : DT X C O c t) (hb : DSs X C O O body f) : DSt X C O O (.While c body [] pos) (dWhile t f) := PSw (ps_while hp hc hb) fun D σ H ⟨F0, H0, F, ρ, r, S, hf, k⟩ => by
  refine ⟨fun m σ H => ∃ F1 ρ, Sn X.K C O F0 H0 F1 H σ ρ ∧ Same F F1 ∧ whileN t f m ρ = some r, ⟨FUEL, F, ρ, S, Same.refl _, hf⟩, fun m σ1 H1 ⟨F1, ρ1, S1, sm, hw⟩ => ?_⟩
  cases m with
  | zero => cases hw
  | succ m =>
    obtain ⟨c', e1, e2⟩ := bind_some hw
    refine ⟨F1, ρ1, c', S1.en, e1, fun F2 H2 s2 => ?_⟩
    cases c' with
    | true =>
      dsimp only
      rw [if_pos rfl] at e2 ⊢
      obtain ⟨r1, e3, e4⟩ := bind_some e2
      refine ⟨fun σ H => ∃ F1 ρ, Sn X.K C O F0 H0 F1 H σ ρ ∧ Same F F1 ∧ whileN t f m ρ = some r, fun σ' H' q => ⟨m, Nat.lt_succ_self _, q⟩, F0, H0, F2, ρ1, r1, S1.step s2, e3, ?_⟩
      cases r1 with
      | nx ρ2 => exact fun σ' F' H' S' sm' => ⟨F', ρ2, S', sm.trans (s2.ff.trans sm'), e4⟩
      | rt d =>
        cases e4
        exact k
    | false =>
      dsimp only
      rw [if_neg Bool.false_ne_true] at e2 ⊢
      cases e2
      exact k σ1 F2 H2 (S1.step s2) (sm.trans s2.ff)
theorem ds_for {tg iter : Expr} {body : List Stmt} {it : DFs} {ws : List Nat} {gg : DG} (hp : PassesOwn (model X.prog X.w) X.A X.env X.xe) (hc : X.calm = true) (hi : DI X C O tg iter it) (hg : DTg X C O ws tg gg) (hb : DSs X C O O body f)
    (hs : ∀ x, foldedSetIterable iter X.env x = pure x := by intro _; rfl) : DSt X C O O (.For tg iter body [] pos) (dFor it gg f) := PSw (ps_for hp hc hi hg hb hs) fun D σ H ⟨F0, H0, F, ρ, r, S, hf, k⟩ => by
  obtain ⟨ds, e1, e2⟩ := bind_some hf
  refine ⟨F, ρ, ds, S.en, e1, fun J F1 H1 s1 jd => ?_⟩
  refine ⟨fun i m σ H => m = ds.length - i ∧ i ≤ ds.length ∧ ∃ F2 ρ, Sn X.K C O F0 H0 F2 H σ ρ ∧ Same F1 F2 ∧ forL gg f (ds.drop i) ρ = some r, ⟨ds.length, rfl, Nat.zero_le _, F1, ρ, S.step s1, Same.refl _, e2⟩, fun i m σ2 H2 ⟨em, hi, F2, ρ2, S2, sm, hw⟩ => ?_⟩
  subst em
  by_cases hlt : i < ds.length
  · right
    obtain ⟨_, jg⟩ := jd i F2 H2 sm S2.en.fh
    obtain ⟨go, yl⟩ := jg ds[i] (List.getElem?_eq_getElem hlt)
    rw [List.drop_eq_getElem_cons hlt] at hw
    unfold forL at hw
    obtain ⟨ρ3, c1, c2⟩ := bind_some hw
    obtain ⟨r3, c3, c4⟩ := bind_some c2
    refine ⟨go, fun σ H => (ds.length - (i + 1)) = ds.length - (i + 1) ∧ i + 1 ≤ ds.length ∧ ∃ F2 ρ, Sn X.K C O F0 H0 F2 H σ ρ ∧ Same F1 F2 ∧ forL gg f (ds.drop (i + 1)) ρ = some r, fun σ' H' q => ⟨_, by omega, q⟩, fun x H3 y => ?_⟩
    obtain ⟨F3, s3, r3'⟩ := yl x H3 y
    refine ⟨F3, ρ2, ds[i], ρ3, S2.en.step s3, r3', c1, fun σ4 E4 bar kp => ⟨F0, H0, F3, ρ3, r3, (S2.step s3).keep E4 kp, c3, ?_⟩⟩
    cases r3 with
    | nx ρ4 => exact fun σ' F' H' S' sm' => ⟨rfl, hlt, F', ρ4, S', sm.trans (s3.ff.trans sm'), c4⟩
    | rt d =>
      cases c4
      exact k
  · left
    have ei : i = ds.length := by omega
    subst ei
    obtain ⟨js, _⟩ := jd ds.length F2 H2 sm S2.en.fh
    rw [List.drop_length] at hw
    cases hw
    exact ⟨js rfl, k σ2 F2 H2 S2 (s1.ff.trans sm)⟩
end
end DL
namespace DL
open PySem PySem.Spec PyProof.Rows L2
/-- a new list that nobody knows yet -/
def tDN (K : PySem.W.Frag) (C : Addr) (O : List Nat) (f : DFs) : TE := fun σ H Q => ∃ F ρ ds, En K C O F H σ ρ ∧ f ρ = some ds ∧ ∀ p vs F' H1, Stp F H F' H1 → H1 p = none → RpL K C F' ds vs → Q (.ref p) (upd H1 p (.lst vs))
abbrev DN (X : Cx) (C : Addr) (O : List Nat) (e : Expr) (f : DFs) : Prop := PE X e (tDN X.K C O f)
def nLst (f : DFs) : DFs := fun ρ => (f ρ).bind fun ds => if ds.length ≤ 100000 then some ds else none
def nRep (f g : DF) : DFs := fun ρ => (f ρ).bind fun x => (asL x).bind fun ds => (g ρ).bind fun y => (asI y).bind fun k => if k ≤ 16777216 ∧ -16777216 ≤ k ∧ ds.length * k.toNat ≤ 16777216 then some (List.replicate k.toNat ds).flatten else none
def nOf (f : DF) : DFs := fun ρ => (f ρ).bind asSeq
def dSetN (i : Nat) (f : DFs) : DS := fun ρ => (f ρ).bind fun ds => some (.nx (st ρ i (.lst ds)))
def dParN1 (i j : Nat) (f : DFs) (g : DF) : DS := fun ρ => (f ρ).bind fun ds => (g ρ).bind fun y => some (.nx (st (st ρ i (.lst ds)) j y))
def dParNN (i j : Nat) (f g : DFs) : DS := fun ρ => (f ρ).bind fun ds => (g ρ).bind fun es => some (.nx (st (st ρ i (.lst ds)) j (.lst es)))
section
variable {X : Cx} {C : Addr} {O O' O1 : List Nat} {s : Stmt} {ss : List Stmt} {f g : DS} {e a b c : Expr} {es : List Expr} {fe ge : DF} {fs gs : DFs} {t : DB} {pos : Pos}
theorem dn_lst (ha : DA X C O es fs) : DN X C O (.List es pos) (nLst fs) := PEw (pe_lst ha) fun σ H Q ⟨F, ρ, t, E, hf, k⟩ => by
  obtain ⟨ds, h1, hf1⟩ := bind_some hf
  split at hf1
  · rename_i hz
    cases hf1
    exact ⟨F, ρ, _, E, h1, fun vs F1 H1 s1 r1 => ⟨by rw [← r1.len]; exact sz100 hz, fun p hp => k p vs F1 H1 s1 hp r1⟩⟩
  · cases hf1
theorem dn_rep (ha : DE X C O a fe) (hb : DE X C O b ge) : DN X C O (.BinOp a .Mult b pos) (nRep fe ge) := PEw (pe_op op_rep ha hb) fun σ H Q ⟨F, ρ, t, E, hf, k⟩ => by
  obtain ⟨x, h1, hf1⟩ := bind_some hf
  obtain ⟨ds, h2, hf2⟩ := bind_some hf1
  obtain ⟨y, h3, hf3⟩ := bind_some hf2
  obtain ⟨n, h4, hf4⟩ := bind_some hf3
  obtain rfl := asL_some h2
  obtain rfl := asI_some h4
  split at hf4
  · rename_i hz
    cases hf4
    refine ⟨F, ρ, _, E, h1, fun v F1 H1 s1 r1 => ⟨F1, ρ, _, E.step s1, h3, fun u F2 H2 s2 r2 => ?_⟩⟩
    obtain ⟨p, vs, rfl, hp, hl⟩ := r1
    have e63 : (2 : Int) ^ 63 = 9223372036854775808 := by decide
    have hl2 := RpL.mono s2.ff _ _ hl
    exact ⟨p, n, vs, rfl, r2, s2.fh _ _ (s2.ff _ _ hp), by rw [e63]; omega, by rw [e63]; omega, szl_ok (by rw [← hl.len]; exact hz.2.2), fun q hq => k q _ F2 H2 (s1.trans s2) hq (RpL.rep hl2 _)⟩
  · cases hf4
theorem ds_setN (i : Nat) {x : Str} {pos' : Pos} (hN : X.N.Nodup) (he : DN X C O e fs) (hi : X.N[i]? = some x := by rfl) (hx : Loc X.env.scope x := by first | exact Or.inl rfl | exact Or.inr rfl) (hO : i ∉ O := by decide)
    (hs : swapsWith e (some (.Name x pos')) pos.line X.env = pure false := by rfl) (hf : X.fn x = true ∨ X.env.scope.names.lookup x = some .local := by first | exact .inl rfl | exact .inr rfl) :
    DSt X C O (i :: O) (.Assign [.Name x pos'] e pos) (dSetN i fs) := PSw (ps_set hN hi hx he hs hf) fun Z σ H ⟨F0, H0, F, ρ, r, S, hf, k⟩ => by
  obtain ⟨ds, e1, e2⟩ := bind_some hf
  cases e2
  exact ⟨F, ρ, ds, S.en, e1, fun p vs F1 H1 s1 hp r1 => k _ F1 _ ((S.step s1).own hO hp r1) s1.ff⟩
/-- x.append(e) -/
theorem ds_app (i : Nat) {x : Str} {p1 p2 p3 : Pos} (he : DE X C O e fe) (hi : X.N[i]? = some x := by rfl) (hv : Vis X.env.scope x := by first | exact Or.inl rfl | exact Or.inr (Or.inl rfl) | exact Or.inr (Or.inr rfl)) (hO : i ∈ O := by decide)
    (hd : (x == ("__debug__" : Str)) = false := by decide) (hcd : (x == ("__classdict__" : Str)) = false := by decide)
    (hbase : attributeBase (.Name x p1) "append" X.env (eval (.Name x p1) X.env) = eval (.Name x p1) X.env := by rfl)
    (hfew : ((backTo p3 (starEach [e] X.env)).all (fun x => !x.1) && (backToKw p3 (keywordEach [] X.env)).all (fun x => x.1.isSome)
      && decide ([e].length + ([] : List Keyword).length + (if ([] : List Keyword).isEmpty then 0 else 1) < 30)) = true := by rfl)
    (hline : (p2.endLine == p3.line) = true := by rfl) (hs : starEach [e] X.env = (false, eval e X.env) :: starEach [] X.env := by rfl) (hplain : (backTo p3 (starEach [] X.env)).any (·.1) = false := by rfl)
    (hsw : swapsWith (.Call (.Attribute (.Name x p1) "append" p2) [e] [] p3) none pos.line X.env = pure false := by rfl) :
    DSt X C O O (.Expr (.Call (.Attribute (.Name x p1) "append" p2) [e] [] p3) pos) (dApp i fe) :=
  PSw (ps_expr (pe_bm PySem.F.plainAttrs_list PySem.F.slot_list_append PySem.F.type_list_append mt_append (pe_var hi hv hd hcd) (pa_cons he pa_nil hs) hbase hfew hline hs hplain) hsw) fun Z σ H ⟨F0, H0, F, ρ, r, S, hf, k⟩ => by
    obtain ⟨d, e1, e2⟩ := bind_some hf
    obtain ⟨y, e3, e4⟩ := bind_some e2
    obtain ⟨ds, e5, e6⟩ := bind_some e4
    obtain rfl := asL_some e5
    split at e6
    · rename_i hz
      cases e6
      obtain ⟨p, vs, ds2, g1, g2, g3, g4, g5⟩ := S.en.ow i _ hO e3
      cases g2
      refine ⟨.ref p, g1, .inl ⟨rfl, vs, SqL.of g3⟩, F, ρ, d, S.en, e1, fun v F1 H1 s1 r1 => ?_⟩
      have S1 := S.step s1
      have hl : RpL X.K C F1 (ds ++ [d]) (vs ++ [v]) := RpL.append (RpL.mono s1.ff _ _ g5) (RpL.one r1)
      exact ⟨p, vs, v, rfl, rfl, s1.hh _ _ g3, Nat.lt_of_lt_of_le (by rw [← g5.len]; exact hz) (szl_ok (Nat.le_refl _)), k σ F1 _ (S1.mut hO e3 g1 hl) s1.ff⟩
    · cases e6
/-- x[k] = e -/
theorem ds_setIx (i : Nat) {x : Str} {p1 p2 : Pos} (he : DE X C O e fe) (hk : DE X C O a ge) (hi : X.N[i]? = some x := by rfl) (hv : Vis X.env.scope x := by first | exact Or.inl rfl | exact Or.inr (Or.inl rfl) | exact Or.inr (Or.inr rfl)) (hO : i ∈ O := by decide)
    (hd : (x == ("__debug__" : Str)) = false := by decide) (hcd : (x == ("__classdict__" : Str)) = false := by decide)
    (ha : ∀ v, assign (.Subscript (.Name x p1) a p2) X.env v = (do
      let ov ← holding [v] (eval (.Name x p1) X.env)
      let iv ← holding [v, ov] (eval a X.env)
      standAt p2
      holding [v, ov, iv] (setItem ov iv v)
      release [v, ov, iv] []) := by intro _; rfl)
    (hs : swapsWithSole [.Subscript (.Name x p1) a p2] e pos.line X.env = pure false := by rfl) (hw : swappedStores [.Subscript (.Name x p1) a p2] e X.env = pure none := by rfl)
    (h1 : (assignEach [.Subscript (.Name x p1) a p2] X.env).map (·.2) = [assign (.Subscript (.Name x p1) a p2) X.env] := by rfl) :
    DSt X C O O (.Assign [.Subscript (.Name x p1) a p2] e pos) (dSetIx i ge fe) :=
  PSw (ps_asg he (pg_sub (pe_var hi hv hd hcd) hk set_list ha) hs hw h1) fun Z σ H ⟨F0, H0, F, ρ, r, S, hf, k⟩ => by
    obtain ⟨d, e1, e2⟩ := bind_some hf
    obtain ⟨j, e3, e4⟩ := bind_some e2
    obtain ⟨n, e5, e6⟩ := bind_some e4
    obtain ⟨y, e7, e8⟩ := bind_some e6
    obtain ⟨ds, e9, e10⟩ := bind_some e8
    obtain ⟨m, e11, e12⟩ := bind_some e10
    obtain rfl := asI_some e5
    obtain rfl := asL_some e9
    cases e12
    obtain ⟨p, vs, ds2, g1, g2, g3, g4, g5⟩ := S.en.ow i _ hO e7
    cases g2
    refine ⟨F, ρ, d, S.en, e1, fun v F1 H1 s1 r1 => ⟨.ref p, g1, F1, ρ, _, S.en.step s1, e3, fun u F2 H2 s2 r2 => ?_⟩⟩
    have s12 := s1.trans s2
    have hl : RpL X.K C F2 (ds.set m d) (vs.set m v) := RpL.set m (RpL.mono s12.ff _ _ g5) (Rp.mono s2.ff _ _ r1)
    refine ⟨p, vs, n, m, rfl, r2, s12.hh _ _ g3, ?_, k σ F2 _ ((S.step s12).mut hO e7 g1 hl) s12.ff⟩
    rw [← g5.len, ← ixNat_eq]
    exact e11
/-- x[k], len(x) of a list of one's own -/
theorem de_ownIx (i : Nat) {x : Str} {p1 : Pos} (hk : DE X C O a ge) (hi : X.N[i]? = some x := by rfl) (hv : Vis X.env.scope x := by first | exact Or.inl rfl | exact Or.inr (Or.inl rfl) | exact Or.inr (Or.inr rfl)) (hO : i ∈ O := by decide)
    (hd : (x == ("__debug__" : Str)) = false := by decide) (hcd : (x == ("__classdict__" : Str)) = false := by decide) (hs : PlainIx a := by exact fun _ _ => rfl) : DE X C O (.Subscript (.Name x p1) a pos) (d2 opIx (dv i) ge) :=
  PEw (pe_ix ix_list (pe_var hi hv hd hcd) hk hs) fun σ H Q ⟨F, ρ, d, E, hf, k⟩ => by
    obtain ⟨y, e1, e2⟩ := bind_some hf
    obtain ⟨j, e3, e4⟩ := bind_some e2
    obtain ⟨p, vs, ds, g1, g2, g3, g4, g5⟩ := E.ow i _ hO e1
    subst g2
    refine ⟨.ref p, g1, F, ρ, j, E, e3, fun v F1 H1 s1 r1 => ?_⟩
    cases j <;> first | (cases e4; done) | skip
    obtain ⟨m, e5, e6⟩ := bind_some e4
    obtain ⟨u, h1, h2⟩ := RpL.get g5 e6
    refine ⟨p, vs, _, u, rfl, r1, SqL.of (s1.hh _ _ g3), ?_, k _ F1 H1 s1 (Rp.mono s1.ff _ _ h2)⟩
    unfold atI
    rw [← g5.len, ← ixNat_eq, e5]
    exact h1
/-- a, b = e1, e2: lists of one's own on the right -/
theorem par_rd1 {K : PySem.W.Frag} {F0 H0 F H F1 H1 F2 H2 : Hp} {σ : L2.St} {ρ : Rho} {i j : Nat} {p : Addr} {ds : List D} {vs : List V} {d : D} {v : V} (S : Sn K C O F0 H0 F H σ ρ) (s1 : Stp F H F1 H1) (hp : H1 p = none) (r1 : RpL K C F1 ds vs) (s2 : Stp F1 (upd H1 p (.lst vs)) F2 H2)
    (r2 : Rp K C F2 d v) (hi : i ∉ O) (hj : j ∉ O) (hij : i ≠ j) : Sn K C (i :: O) F0 H0 F2 H2 ((σ.set i (some (.ref p))).set j (some v)) (st (st ρ i (.lst ds)) j d) := by
  have S1 := (S.step s1).own (i := i) hi hp r1
  refine (S1.step s2).set (fun z => ?_) r2
  rcases List.mem_cons.mp z with z | z
  · exact hij z.symm
  · exact hj z
theorem ds_parN1 (i j : Nat) {x y : Str} {px py pt : Pos} {kt k2 : Nat} {pt2 : Pos} (hc : X.calm = true) (hN : X.N.Nodup) (ha : DN X C O a fs) (hb : DE X C O b ge) (hi : X.N[i]? = some x := by rfl) (hj : X.N[j]? = some y := by rfl) (hij : i ≠ j := by decide)
    (hx : X.env.scope.names.lookup x = some .local := by rfl) (hy : X.env.scope.names.lookup y = some .local := by rfl) (hO : i ∉ O := by decide) (hO2 : j ∉ O := by decide)
    (hw : swappedStores [.Tuple [.Name x px, .Name y py] kt pt] (.Tuple [a, b] k2 pt2) X.env = pure (some [x, y]) := by rfl)
    (hs : swapsWithSole [.Tuple [.Name x px, .Name y py] kt pt] (.Tuple [a, b] k2 pt2) pos.line X.env = pure false := by rfl)
    (h1 : starEach [a, b] X.env = (false, eval a X.env) :: starEach [b] X.env := by rfl) (h2 : starEach [b] X.env = (false, eval b X.env) :: starEach [] X.env := by rfl) :
    DSt X C O (i :: O) (.Assign [.Tuple [.Name x px, .Name y py] kt pt] (.Tuple [a, b] k2 pt2) pos) (dParN1 i j fs ge) := PSw (ps_par hc hN hi hj hij hx hy (pa_cons ha (pa_cons hb pa_nil h2) h1) hw hs) fun Z σ H ⟨F0, H0, F, ρ, r, S, hf, k⟩ => by
  obtain ⟨ds, e1, e2⟩ := bind_some hf
  obtain ⟨d', e3, e4⟩ := bind_some e2
  cases e4
  exact ⟨F, ρ, ds, S.en, e1, fun p vs F1 H1 s1 hp r1 => ⟨F1, ρ, d', S.en.step (s1.trans (Stp.own s1.fh hp)), e3, fun v2 F2 H2 s2 r2 => ⟨.ref p, v2, rfl, k _ F2 H2 (par_rd1 S s1 hp r1 s2 r2 hO hO2 hij) (s1.ff.trans s2.ff)⟩⟩⟩
theorem par_rdN {K : PySem.W.Frag} {F0 H0 F H F1 H1 F2 H2 : Hp} {σ : L2.St} {ρ : Rho} {i j : Nat} {p q : Addr} {ds es : List D} {vs us : List V} (S : Sn K C O F0 H0 F H σ ρ) (s1 : Stp F H F1 H1) (hp : H1 p = none) (r1 : RpL K C F1 ds vs) (s2 : Stp F1 (upd H1 p (.lst vs)) F2 H2)
    (hq : H2 q = none) (r2 : RpL K C F2 es us) (hi : i ∉ O) (hj : j ∉ O) (hij : i ≠ j) : Sn K C (j :: i :: O) F0 H0 F2 (upd H2 q (.lst us)) ((σ.set i (some (.ref p))).set j (some (.ref q))) (st (st ρ i (.lst ds)) j (.lst es)) := by
  have S1 := (S.step s1).own (i := i) hi hp r1
  refine (S1.step s2).own (fun z => ?_) hq r2
  rcases List.mem_cons.mp z with z | z
  · exact hij z.symm
  · exact hj z
theorem ds_parNN (i j : Nat) {x y : Str} {px py pt : Pos} {kt k2 : Nat} {pt2 : Pos} (hc : X.calm = true) (hN : X.N.Nodup) (ha : DN X C O a fs) (hb : DN X C O b gs) (hi : X.N[i]? = some x := by rfl) (hj : X.N[j]? = some y := by rfl) (hij : i ≠ j := by decide)
    (hx : X.env.scope.names.lookup x = some .local := by rfl) (hy : X.env.scope.names.lookup y = some .local := by rfl) (hO : i ∉ O := by decide) (hO2 : j ∉ O := by decide)
    (hw : swappedStores [.Tuple [.Name x px, .Name y py] kt pt] (.Tuple [a, b] k2 pt2) X.env = pure (some [x, y]) := by rfl)
    (hs : swapsWithSole [.Tuple [.Name x px, .Name y py] kt pt] (.Tuple [a, b] k2 pt2) pos.line X.env = pure false := by rfl)
    (h1 : starEach [a, b] X.env = (false, eval a X.env) :: starEach [b] X.env := by rfl) (h2 : starEach [b] X.env = (false, eval b X.env) :: starEach [] X.env := by rfl) :
    DSt X C O (j :: i :: O) (.Assign [.Tuple [.Name x px, .Name y py] kt pt] (.Tuple [a, b] k2 pt2) pos) (dParNN i j fs gs) := PSw (ps_par hc hN hi hj hij hx hy (pa_cons ha (pa_cons hb pa_nil h2) h1) hw hs) fun Z σ H ⟨F0, H0, F, ρ, r, S, hf, k⟩ => by
  obtain ⟨ds, e1, e2⟩ := bind_some hf
  obtain ⟨d', e3, e4⟩ := bind_some e2
  cases e4
  exact ⟨F, ρ, ds, S.en, e1, fun p vs F1 H1 s1 hp r1 => ⟨F1, ρ, d', S.en.step (s1.trans (Stp.own s1.fh hp)), e3, fun q us F2 H2 s2 hq r2 => ⟨.ref p, .ref q, rfl, k _ F2 _ (par_rdN S s1 hp r1 s2 hq r2 hO hO2 hij) (s1.ff.trans s2.ff)⟩⟩⟩
/-- y = [..] on one line -/
theorem ds_setLc (i : Nat) {y : Str} {py : Pos} {elt tg iter : Expr} {ifs : List Expr} {scope : Scope} {own : List (Str × Nat)} {pos spos : Pos} {it : DFs} {gg : DG} {tt : DB} {ee : DF} {ws : List Nat} (hc : X.calm = true) (hN : X.N.Nodup)
    (hi : DI X C O tg iter it) (ok : BlkOk X.N X.env.scope scope own)
    (hg : ∀ (s : Shared) (H : Hp) (D : Addr) (cl : List (Str × Addr)) (fp : List Addr), DTg (X.blk s H scope (compEnvC scope cl D X.env) fp) C O ws tg gg) (ht : ∀ (s : Shared) (H : Hp) (D : Addr) (cl : List (Str × Addr)) (fp : List Addr), DTs (X.blk s H scope (compEnvC scope cl D X.env) fp) C O ifs tt)
    (he : ∀ (s : Shared) (H : Hp) (D : Addr) (cl : List (Str × Addr)) (fp : List Addr), DE (X.blk s H scope (compEnvC scope cl D X.env) fp) C O elt ee)
    (hy : X.N[i]? = some y := by rfl) (hyl : X.env.scope.names.lookup y = some .local := by rfl)
    (hsw : swapsWith (.ListComp elt [⟨tg, iter, ifs, 0⟩] scope pos) (some (.Name y py)) spos.line X.env = pure true := by exact sw_true rfl rfl rfl (by decide +kernel)) (hO : i ∉ O := by decide)
    (hv : ∀ i ∈ ws, i ∈ own.map (·.2) := by decide) (hs : ∀ x, foldedSetIterable iter X.env x = pure x := by intro _; rfl) :
    DSt X C O O (.Assign [.Name y py] (.ListComp elt [⟨tg, iter, ifs, 0⟩] scope pos) spos) (dSet i (dComp it gg tt ee (own.map (·.2)))) := PSw (ps_setLc hc hN hy hyl hsw hi ok hg ht he hs) fun Z σ H hw => by
  obtain ⟨F0, H0, F, ρ, r, S, hf, k⟩ := hw
  obtain ⟨d, e1, e2⟩ := bind_some hf
  cases e2
  exact comp_rd hv ⟨F, ρ, d, S.en, e1, fun v F1 H1 s1 r1 => k _ F1 H1 ((S.step s1).set hO r1) s1.ff⟩
end
def runD (n a : Nat) (f : DS) : List D → Option D := fun ds => if ds.length = a then (f (ds.map some ++ List.replicate (n - a) none)).bind fun r => match r with
  | .rt d => some d
  | .nx _ => some .non else none
theorem lk_app : ∀ {ds : List D} {r : Nat} {i : Nat} {d : D}, lk (ds.map some ++ List.replicate r none) i = some d → ds[i]? = some d
  | [], r, i, d, h => by
    exfalso
    have z : ∀ (r i : Nat), lk (List.replicate r none) i = none := by
      intro r
      induction r with
      | zero => intro i; rfl
      | succ r ih =>
        intro i
        cases i with
        | zero => rfl
        | succ i => exact ih i
    have h' : lk (List.replicate r none) i = some d := h
    rw [z] at h'
    cases h'
  | x :: ds, r, 0, d, h => h
  | x :: ds, r, i + 1, d, h => by
    rw [List.getElem?_cons_succ]
    exact lk_app (ds := ds) h
theorem start_get : ∀ {vs : List V} {r : List (Option V)} {i : Nat} {v : V}, vs[i]? = some v → (vs.map some ++ r)[i]? = some (some v)
  | [], r, i, v, h => by simp at h
  | x :: vs, r, 0, v, h => by
    have e : x = v := by simpa using h
    subst e
    rfl
  | x :: vs, r, i + 1, v, h => by
    rw [List.getElem?_cons_succ] at h
    show ((some x :: (vs.map some ++ r)))[i + 1]? = _
    rw [List.getElem?_cons_succ]
    exact start_get h
section
variable {P : Program} {w : World} {K : PySem.W.Frag} {mg : Str → Option Value} {base : Heap} {C : Addr}
/-- THE RULE for a pure def -/
theorem fnD {x qual : Str} {st : Stmt} {f : Addr} {fd : FuncData} {N ps : List Str} {k : Nat} {O' : List Nat} {body : DS} (F : Fun K x qual st f fd) (S : FnScope N ps (defScope st)) (hl : ps.length ≤ N.length)
    (h : ∀ (cdv : Value) (A : Around) (outer : List Env) (s : Shared) (H : Hp) (E : XK), Room k (A.deeper (envOfC qual (defScope st) s.heap.objs.size f cdv)) → DSs ((cxOf CX0 P w K mg base N qual (defScope st) f cdv A outer s H E).nox) C [] O' (defBody st) body) :
    FnOk P w K mg base CX0 (k + 1) f fd ps (spD K C (runD N.length ps.length body)) := by
  have ln : ∀ vs H Q E, spD K C (runD N.length ps.length body) vs H Q E → vs.length = ps.length := fun vs H Q E ⟨F, ds, d, fh, r, hm, _⟩ => by
    unfold runD at hm
    split at hm
    · rename_i hz
      rw [← r.len]
      exact hz
    · cases hm
  refine F.ok S ln fun cdv A outer s H vs Q E hr hsp => ⟨_, h cdv A outer s H E hr, ?_⟩
  have lv := ln vs H Q E hsp
  obtain ⟨F1, ds, d, fh, r, hm, g⟩ := hsp
  unfold runD at hm
  split at hm
  · rename_i hz
    obtain ⟨r1, e1, e2⟩ := bind_some hm
    refine ⟨F1, H, F1, _, r1, ⟨⟨fh, ?_, fun i d hi q => ?_, fun i d hi _ => absurd hi (List.not_mem_nil), fun i j d e p hi _ _ _ _ _ => absurd hi (List.not_mem_nil)⟩, Stp.refl fh, fun i d p hi _ _ => absurd hi (List.not_mem_nil)⟩, e1, ?_⟩
    · unfold L2.start
      rw [List.length_append, List.length_append, List.length_map, List.length_map, List.length_replicate, List.length_replicate, lv, hz]
    · have q1 := lk_app q
      obtain ⟨v, h1, h2⟩ := RpL.get r q1
      exact ⟨v, start_get h1, h2⟩
    · cases r1 with
      | nx ρ' =>
        cases e2
        exact fun σ' F' H' S' _ => g .non F' H' S'.sp rfl
      | rt d' =>
        cases e2
        exact fun v F' H' s' r' => g v F' H' s' r'
  · cases hm
end
end DL
namespace DL
open PySem PySem.Spec PyProof.Rows L2
theorem hu65 {k : Nat} {A : Around} (hr : Room k A) : A.units + 65 < cLine := by have := hr.un; omega
theorem bt_len : bootBuiltins "len" = some (.builtin "len") := by decide +kernel
theorem bt_sorted : bootBuiltins "sorted" = some (.builtin "sorted") := by decide +kernel
theorem bt_all : bootBuiltins "all" = some (.builtin "all") := by decide +kernel
theorem bt_any : bootBuiltins "any" = some (.builtin "any") := by decide +kernel
theorem bt_max : bootBuiltins "max" = some (.builtin "max") := by decide +kernel
theorem bt_min : bootBuiltins "min" = some (.builtin "min") := by decide +kernel
theorem bt_tuple : bootBuiltins "tuple" = some (.type "tuple") := by decide +kernel
theorem bt_int : bootBuiltins "int" = some (.type "int") := by decide +kernel
theorem bt_bool : bootBuiltins "bool" = some (.type "bool") := by decide +kernel
def compL2 (g : DG) (it2 : DFs) (g2 : DG) (t : DB) (e : DF) (vs1 : List Nat) (ρ : Rho) : List D → Option (List D)
  | [] => some []
  | d :: ds => (g d ρ).bind fun ρ1 => (it2 ρ1).bind fun es => (compL g2 t e (wipeR ρ1 vs1) es).bind fun r => (compL2 g it2 g2 t e vs1 ρ ds).bind fun q => some (r ++ q)
def dComp2 (it : DFs) (g : DG) (it2 : DFs) (g2 : DG) (t : DB) (e : DF) (vs vs1 : List Nat) : DF := fun ρ => (it ρ).bind fun ds => (compL2 g it2 g2 t e vs1 (wipeR ρ vs) ds).bind lstOk
theorem En.mono0 {K : PySem.W.Frag} {C : Addr} {F F' H H' : Hp} {σ : L2.St} {ρ : Rho} (h : En K C [] F H σ ρ) (s : Same F F') (fh : Same F' H') : En K C [] F' H' σ ρ where
  fh := fh
  len := h.len
  pl := fun i d hi e => by
    obtain ⟨v, h1, h2⟩ := h.pl i d hi e
    exact ⟨v, h1, Rp.mono s d v h2⟩
  ow := fun i d hi => absurd hi (List.not_mem_nil)
  ap := fun i j d e p hi => absurd hi (List.not_mem_nil)
section
variable {X : Cx} {C : Addr}
def CW2 (K : PySem.W.Frag) (C : Addr) (F0 H0 : Hp) (Rst : Nat → Option (List D)) (n : Nat) (rs : List D) (Dl : Addr) (i m : Nat) (H : Hp) : Prop :=
  m = n - i ∧ i ≤ n ∧ ∃ F acc racc rest, Stp F0 H0 F H ∧ H Dl = some (.lst acc) ∧ F Dl = none ∧ RpL K C F racc acc ∧ Rst i = some rest ∧ rs = racc ++ rest
theorem comp2_rd {K : PySem.W.Frag} {it it2 : DFs} {g g2 : DG} {t : DB} {e : DF} {ws ws1 vs vs1 : List Nat} {σ : L2.St} {H : Hp} {Q : VK} (hs : ∀ i ∈ ws, i ∈ vs) (hs1 : ∀ i ∈ ws1, i ∈ vs1) (hw : tD K C [] (dComp2 it g it2 g2 t e vs vs1) σ H Q) :
    tLc2 (tDI K C [] it) (tDG K C [] ws g) (fun _ H Q => Q true H) (tDI K C [] it2) (tDG K C [] ws1 g2) (tDT K C [] t) (tD K C [] e) vs vs1 σ H Q := by
  obtain ⟨F, ρ, d, E, hf, k⟩ := hw
  obtain ⟨ds, h1, hf1⟩ := bind_some hf
  obtain ⟨rs, h2, hf2⟩ := bind_some hf1
  clear hf hf1
  unfold lstOk at hf2
  split at hf2
  · rename_i hz
    cases hf2
    refine ⟨F, ρ, ds, E, h1, fun J F1 H1 s1 jd Dl hD => ?_⟩
    have E1 : En K C [] F1 H1 (wipe σ vs) (wipeR ρ vs) := (E.step s1).wipe vs
    refine ⟨CW2 K C F1 H1 (fun i => compL2 g it2 g2 t e vs1 (wipeR ρ vs) (ds.drop i)) ds.length rs Dl, ⟨ds.length, rfl, Nat.zero_le _, F1, [], [], rs, Stp.own s1.fh hD, upd_same, none_of_same s1.fh hD, RpL.nil, h2, rfl⟩, fun i m H2 hW => ?_⟩
    obtain ⟨rfl, hi, F2, acc, racc, rest, s2, hH, hF, hR, hc, he⟩ := hW
    by_cases hlt : i < ds.length
    · right
      obtain ⟨_, jg⟩ := jd i F2 H2 s2.ff s2.fh
      obtain ⟨go, yl⟩ := jg ds[i] (List.getElem?_eq_getElem hlt)
      dsimp only at hc
      rw [List.drop_eq_getElem_cons hlt] at hc
      unfold compL2 at hc
      obtain ⟨ρ1, c1, hc1⟩ := bind_some hc
      obtain ⟨es, c2, hc2⟩ := bind_some hc1
      obtain ⟨rin, c3, hc3⟩ := bind_some hc2
      obtain ⟨rout, c4, hc4⟩ := bind_some hc3
      clear hc hc1 hc2 hc3
      cases hc4
      refine ⟨go, CW2 K C F1 H1 (fun i => compL2 g it2 g2 t e vs1 (wipeR ρ vs) (ds.drop i)) ds.length rs Dl (i + 1) (ds.length - (i + 1)), fun H' hN => ⟨_, by omega, hN⟩, fun x H3 y => ?_⟩
      obtain ⟨F3, s3, r3⟩ := yl x H3 y
      have s13 := s2.trans s3
      refine ⟨F3, wipeR ρ vs, ds[i], ρ1, E1.step s13, r3, c1, fun σ4 E4 bar _ => ⟨wipe_bar bar hs, ?_⟩⟩
      dsimp only
      rw [if_pos rfl]
      refine ⟨F3, ρ1, es, E4, c2, fun J1 F5 H5 s5 jd1 => ?_⟩
      have s15 := s13.trans s5
      have sD := s3.trans s5
      have E5 : En K C [] F5 H5 (wipe σ4 vs1) (wipeR ρ1 vs1) := (E4.step s5).wipe vs1
      have hlen0 : rs.length ≤ 16777216 := hz
      have e0 : rs = racc ++ (rin ++ rout) := he
      refine ⟨fun j m H => m = es.length - j ∧ j ≤ es.length ∧ ∃ F acc racc' rest, Stp F1 H1 F H ∧ Same F5 F ∧ H Dl = some (.lst acc) ∧ F Dl = none ∧ RpL K C F racc' acc ∧ compL g2 t e (wipeR ρ1 vs1) (es.drop j) = some rest ∧ rs = racc' ++ (rest ++ rout),
        ⟨es.length, rfl, Nat.zero_le _, F5, acc, racc, rin, s15, Same.refl _, sD.hh _ _ hH, (sD.old _ _ hH).trans hF, RpL.mono sD.ff _ _ hR, c3, e0⟩, fun j kk H6 hW => ?_⟩
      obtain ⟨rfl, hj, F6, acc6, racc6, rest6, s16, s56, hH6, hF6, hR6, hc6, he6⟩ := hW
      have E6 := E5.mono0 s56 s16.fh
      by_cases hltj : j < es.length
      · right
        obtain ⟨_, jg1⟩ := jd1 j F6 H6 s56 s16.fh
        obtain ⟨go1, yl1⟩ := jg1 es[j] (List.getElem?_eq_getElem hltj)
        rw [List.drop_eq_getElem_cons hltj] at hc6
        unfold compL at hc6
        obtain ⟨ρ7, c7, hc7⟩ := bind_some hc6
        obtain ⟨b, c8, hc8⟩ := bind_some hc7
        clear hc6 hc7
        refine ⟨go1, fun H => (es.length - (j + 1)) = es.length - (j + 1) ∧ j + 1 ≤ es.length ∧ ∃ F acc racc' rest, Stp F1 H1 F H ∧ Same F5 F ∧ H Dl = some (.lst acc) ∧ F Dl = none ∧ RpL K C F racc' acc ∧ compL g2 t e (wipeR ρ1 vs1) (es.drop (j + 1)) = some rest ∧ rs = racc' ++ (rest ++ rout), fun H' hN => ⟨_, by omega, hN⟩, fun x7 H7 y7 => ?_⟩
        obtain ⟨F7, s7, r7⟩ := yl1 x7 H7 y7
        refine ⟨F7, wipeR ρ1 vs1, es[j], ρ7, E6.step s7, r7, c7, fun σ8 E8 bar8 _ => ⟨wipe_bar bar8 hs1, F7, ρ7, b, E8, c8, fun F9 H9 s9 => ?_⟩⟩
        have s79 := s7.trans s9
        have s19 := s16.trans s79
        cases b with
        | true =>
          dsimp only
          rw [if_pos rfl] at hc8 ⊢
          obtain ⟨z, c9, hc9⟩ := bind_some hc8
          obtain ⟨rest', c10, hc10⟩ := bind_some hc9
          cases hc10
          refine ⟨F9, ρ7, z, E8.step s9, c9, fun v Fa Ha sa ra => ?_⟩
          have s1a := s19.trans sa
          have s6a := s79.trans sa
          have hlen := hR6.len
          have hl2 : acc6.length < 16777216 := by
            rw [he6, List.length_append, List.length_append, List.length_cons] at hz
            omega
          have hFn : Fa Dl = none := (s6a.old _ _ hH6).trans hF6
          refine ⟨acc6, s6a.hh _ _ hH6, Nat.lt_of_lt_of_le hl2 (szl_ok (Nat.le_refl _)), rfl, hltj, Fa, acc6 ++ [v], racc6 ++ [z], rest', ⟨s1a.ff, fun a o q => ?_, fun a o q => ?_, s1a.old⟩, s56.trans s6a.ff, upd_same, hFn, RpL.append (RpL.mono s6a.ff _ _ hR6) (RpL.one ra), c10, by rw [he6, List.append_assoc]; rfl⟩
          · rw [upd_ne (ne_of_none q hD)]
            exact s1a.hh a o q
          · rw [upd_ne (ne_of_none q hFn)]
            exact s1a.fh a o q
        | false =>
          dsimp only
          rw [if_neg Bool.false_ne_true] at hc8 ⊢
          exact ⟨rfl, hltj, F9, acc6, racc6, rest6, s19, s56.trans s79.ff, s79.hh _ _ hH6, (s79.old _ _ hH6).trans hF6, RpL.mono s79.ff _ _ hR6, hc8, he6⟩
      · left
        have ej : j = es.length := by omega
        subst ej
        obtain ⟨js1, _⟩ := jd1 es.length F6 H6 s56 s16.fh
        rw [List.drop_length] at hc6
        cases hc6
        exact ⟨js1 rfl, rfl, hlt, F6, acc6, racc6, rout, s16, hH6, hF6, hR6, c4, he6⟩
    · left
      have ei : i = ds.length := by omega
      subst ei
      obtain ⟨js, _⟩ := jd ds.length F2 H2 s2.ff s2.fh
      refine ⟨js rfl, ?_⟩
      dsimp only at hc
      rw [List.drop_length] at hc
      cases hc
      rw [List.append_nil] at he
      subst he
      have sF : Same F2 (upd F2 Dl (.lst acc)) := same_upd hF
      refine k _ (upd F2 Dl (.lst acc)) H2 (s1.trans ⟨s2.ff.trans sF, s2.hh, fun a o q => ?_, fun a o q => ?_⟩) ⟨Dl, acc, rfl, upd_same, RpL.mono sF _ _ hR⟩
      · by_cases ha : a = Dl
        · subst ha
          rw [upd_same] at q
          rw [← q]
          exact hH
        · rw [upd_ne ha] at q
          exact s2.fh a o q
      · rw [upd_ne (ne_of_none q hD)]
        exact s2.old a o q
  · cases hf2
variable {elt tg iter tg1 iter1 : Expr} {ifs1 : List Expr} {scope : Scope} {pos : Pos} {it it2 : DFs} {g g2 : DG} {t : DB} {e : DF} {ws ws1 : List Nat}
end
end DL
namespace DL
open PySem PySem.Spec PyProof.Rows L2
theorem RpL.ofGet {K : PySem.W.Frag} {C : Addr} {F : Hp} : ∀ {ds : List D} {vs : List V}, ds.length = vs.length → (∀ (j : Nat) (d : D) (v : V), ds[j]? = some d → vs[j]? = some v → Rp K C F d v) → RpL K C F ds vs
  | [], vs, hl, _ => List.eq_nil_of_length_eq_zero hl.symm
  | d :: ds, vs, hl, h => by
    cases vs with
    | nil => cases hl
    | cons v vs => exact RpL.cons (h 0 d v rfl rfl) (RpL.ofGet (by simpa using hl) fun j d' v' h1 h2 => h (j + 1) d' v' (by simpa using h1) (by simpa using h2))
structure Nst (K : PySem.W.Frag) (C : Addr) (H0 F H : Hp) (p : Addr) (qs : List Addr) (dss : List (List D)) : Prop where
  hp : H p = some (.lst (qs.map V.ref))
  fp : F p = none
  h0 : H0 p = none
  ln : qs.length = dss.length
  at_ : ∀ (j : Nat) (q : Addr) (ds : List D), qs[j]? = some q → dss[j]? = some ds → ∃ vs, H q = some (.lst vs) ∧ F q = none ∧ H0 q = none ∧ RpL K C F ds vs
  nd : ∀ (j k : Nat) (q : Addr), qs[j]? = some q → qs[k]? = some q → j = k
  np : p ∉ qs
structure Sn2 (K : PySem.W.Frag) (C : Addr) (i : Nat) (F0 H0 F H : Hp) (σ : L2.St) (ρ : Rho) : Prop where
  en : En K C [] F H σ (un ρ i)
  sp : Stp F0 H0 F H
  ns : ∃ p qs dss, lk ρ i = some (.lst (dss.map D.lst)) ∧ σ[i]? = some (some (.ref p)) ∧ Nst K C H0 F H p qs dss
section
variable {K : PySem.W.Frag} {C : Addr} {i : Nat} {F0 H0 F H F' H' : Hp} {σ : L2.St} {ρ : Rho}
/-- all is frozen -/
theorem Sn2.freeze (S : Sn2 K C i F0 H0 F H σ ρ) : ∃ F', Same F F' ∧ Sn K C [] F0 H0 F' H σ ρ := by
  obtain ⟨p, qs, dss, e1, e2, N⟩ := S.ns
  have memq : ∀ {q : Addr}, q ∈ qs → ∃ vs ds j, qs[j]? = some q ∧ dss[j]? = some ds ∧ H q = some (.lst vs) ∧ F q = none ∧ H0 q = none ∧ RpL K C F ds vs := fun {q} hq => by
    obtain ⟨j, hj, rfl⟩ := List.getElem_of_mem hq
    have hj2 : j < dss.length := by rw [← N.ln]; exact hj
    obtain ⟨vs, h1, h2, h3, h4⟩ := N.at_ j qs[j] dss[j] (List.getElem?_eq_getElem hj) (List.getElem?_eq_getElem hj2)
    exact ⟨vs, dss[j], j, List.getElem?_eq_getElem hj, List.getElem?_eq_getElem hj2, h1, h2, h3, h4⟩
  let G : Hp := fun a => if a = p ∨ a ∈ qs then H a else F a
  have gin : ∀ {a}, (a = p ∨ a ∈ qs) → G a = H a := fun {a} h => if_pos h
  have gout : ∀ {a}, ¬ (a = p ∨ a ∈ qs) → G a = F a := fun {a} h => if_neg h
  have fin : ∀ {a}, (a = p ∨ a ∈ qs) → F a = none := fun {a} h => by
    rcases h with rfl | h
    · exact N.fp
    · obtain ⟨_, _, _, _, _, _, hf, _⟩ := memq h
      exact hf
  have hin : ∀ {a}, (a = p ∨ a ∈ qs) → H0 a = none := fun {a} h => by
    rcases h with rfl | h
    · exact N.h0
    · obtain ⟨_, _, _, _, _, _, _, hf, _⟩ := memq h
      exact hf
  have sm : Same F G := fun a o e => by
    have hn : ¬ (a = p ∨ a ∈ qs) := fun h => by rw [fin h] at e; cases e
    rw [gout hn]
    exact e
  have gh : Same G H := fun a o e => by
    by_cases h : a = p ∨ a ∈ qs
    · rw [gin h] at e
      exact e
    · rw [gout h] at e
      exact S.en.fh a o e
  refine ⟨G, sm, ⟨gh, ?_, fun j d hj q => ?_, fun j d hj => absurd hj List.not_mem_nil, fun j k d e p hj => absurd hj List.not_mem_nil⟩, ⟨S.sp.ff.trans sm, S.sp.hh, gh, fun a o e => ?_⟩, fun j d p hj => absurd hj List.not_mem_nil⟩
  · rw [S.en.len, un_len]
  · by_cases hji : j = i
    · subst hji
      rw [e1] at q
      cases q
      refine ⟨.ref p, e2, p, _, rfl, (gin (.inl rfl)).trans N.hp, RpL.ofGet (by rw [List.length_map, List.length_map, N.ln]) fun j d v h1 h2 => ?_⟩
      rw [List.getElem?_map] at h1 h2
      obtain ⟨ds, g1, rfl⟩ := Option.map_eq_some_iff.mp h1
      obtain ⟨q, g2, rfl⟩ := Option.map_eq_some_iff.mp h2
      obtain ⟨vs, g3, g4, g5, g6⟩ := N.at_ j q ds g2 g1
      exact ⟨q, vs, rfl, (gin (.inr (List.mem_of_getElem? g2))).trans g3, RpL.mono sm _ _ g6⟩
    · have q' : lk (un ρ i) j = some d := by rw [lk_un_ne hji]; exact q
      obtain ⟨v, h1, h2⟩ := S.en.pl j d List.not_mem_nil q'
      exact ⟨v, h1, Rp.mono sm _ _ h2⟩
  · have hn : ¬ (a = p ∨ a ∈ qs) := fun h => by rw [hin h] at e; cases e
    rw [gout hn]
    exact S.sp.old a o e
/-- what was evaluated meanwhile leaves it as it is -/
theorem Sn2.step (S : Sn2 K C i F0 H0 F H σ ρ) (hh : Same H H') : Sn2 K C i F0 H0 F H' σ ρ := by
  obtain ⟨p, qs, dss, e1, e2, N⟩ := S.ns
  have st : Stp F H F H' := ⟨Same.refl _, hh, S.en.fh.trans hh, fun _ _ _ => rfl⟩
  refine ⟨S.en.step st, S.sp.trans st, p, qs, dss, e1, e2, ⟨hh _ _ N.hp, N.fp, N.h0, N.ln, fun j q ds h1 h2 => ?_, N.nd, N.np⟩⟩
  obtain ⟨vs, g1, g2⟩ := N.at_ j q ds h1 h2
  exact ⟨vs, hh _ _ g1, g2⟩
theorem un_st_ne : ∀ {ρ : Rho} {i j : Nat} {d : D}, j ≠ i → un (st ρ j d) i = st (un ρ i) j d
  | [], _, _, _, _ => rfl
  | _ :: _, 0, 0, _, h => absurd rfl h
  | _ :: _, 0, j + 1, _, _ => rfl
  | _ :: _, i + 1, 0, _, _ => rfl
  | x :: r, i + 1, j + 1, d, h => by
    show x :: un (st r j d) i = x :: st (un r i) j d
    rw [un_st_ne fun z => h (by rw [z])]
/-- a scalar is stored -/
theorem Sn2.set {j : Nat} {d : D} {v : V} (S : Sn2 K C i F0 H0 F H σ ρ) (hj : j ≠ i) (r : Rp K C F d v) : Sn2 K C i F0 H0 F H (σ.set j (some v)) (st ρ j d) := by
  obtain ⟨p, qs, dss, e1, e2, N⟩ := S.ns
  refine ⟨?_, S.sp, p, qs, dss, ?_, ?_, N⟩
  · rw [un_st_ne hj]
    exact S.en.set List.not_mem_nil r
  · rw [lk_st_ne (Ne.symm hj)]
    exact e1
  · rw [List.getElem?_set_ne hj]
    exact e2
end
def endR2 (K : PySem.W.Frag) (C : Addr) (i : Nat) (F0 H0 F : Hp) (Z : Ends) : R → Prop
  | .nx ρ' => ∀ σ' F' H', Sn2 K C i F0 H0 F' H' σ' ρ' → Same F F' → Z.nx σ' H'
  | .rt d => ∀ v F' H', Stp F0 H0 F' H' → Rp K C F' d v → Z.rt v H'
theorem endR2.mono {K : PySem.W.Frag} {C : Addr} {i : Nat} {F0 H0 F F' : Hp} {Z : Ends} {r : R} (h : endR2 K C i F0 H0 F Z r) (s : Same F F') : endR2 K C i F0 H0 F' Z r := by
  cases r with
  | nx ρ' => exact fun σ' F2 H2 S sm => h σ' F2 H2 S (s.trans sm)
  | rt d => exact h
end DL
namespace DL
open PySem PySem.Spec PyProof.Rows L2
end DL
namespace DL
open PySem PySem.Spec PyProof.Rows L2
section
variable {X : Cx} {C : Addr}
/-- y = [.. for .. for ..] on one line -/
theorem ds_setLc2 (i : Nat) {y : Str} {py : Pos} {elt tg iter tg1 iter1 : Expr} {ifs1 : List Expr} {scope : Scope} {own : List (Str × Nat)} {vs1 : List Nat} {pos spos : Pos} {it it2 : DFs} {g g2 : DG} {t : DB} {e : DF} {ws ws1 : List Nat} (hc : X.calm = true) (hN : X.N.Nodup)
    (hi : DI X C [] tg iter it) (ok : BlkOk X.N X.env.scope scope own)
    (hg : ∀ (s : Shared) (H : Hp) (D : Addr) (cl : List (Str × Addr)) (fp : List Addr), DTg (X.blk s H scope (compEnvC scope cl D X.env) fp) C [] ws tg g)
    (hi1 : ∀ (s : Shared) (H : Hp) (D : Addr) (cl : List (Str × Addr)) (fp : List Addr), DI (X.blk s H scope (compEnvC scope cl D X.env) fp) C [] tg1 iter1 it2)
    (hg1 : ∀ (s : Shared) (H : Hp) (D : Addr) (cl : List (Str × Addr)) (fp : List Addr), DTg (X.blk s H scope (compEnvC scope cl D X.env) fp) C [] ws1 tg1 g2)
    (ht1 : ∀ (s : Shared) (H : Hp) (D : Addr) (cl : List (Str × Addr)) (fp : List Addr), DTs (X.blk s H scope (compEnvC scope cl D X.env) fp) C [] ifs1 t)
    (he : ∀ (s : Shared) (H : Hp) (D : Addr) (cl : List (Str × Addr)) (fp : List Addr), DE (X.blk s H scope (compEnvC scope cl D X.env) fp) C [] elt e)
    (hy : X.N[i]? = some y := by rfl) (hyl : X.env.scope.names.lookup y = some .local := by rfl)
    (hsw : swapsWith (.ListComp elt [⟨tg, iter, [], 0⟩, ⟨tg1, iter1, ifs1, 0⟩] scope pos) (some (.Name y py)) spos.line X.env = pure true := by exact sw_true rfl rfl rfl (by decide +kernel))
    (hv : ∀ i ∈ ws, i ∈ own.map (·.2) := by decide) (hv1 : ∀ i ∈ ws1, i ∈ vs1 := by decide) (hvv : ∀ i ∈ vs1, i ∈ own.map (·.2) := by decide)
    (hs : ∀ x, foldedSetIterable iter X.env x = pure x := by intro _; rfl) (hs1 : ∀ env x, foldedSetIterable iter1 env x = pure x := by intro _ _; rfl) :
    DSt X C [] [] (.Assign [.Name y py] (.ListComp elt [⟨tg, iter, [], 0⟩, ⟨tg1, iter1, ifs1, 0⟩] scope pos) spos) (dSet i (dComp2 it g it2 g2 t e (own.map (·.2)) vs1)) :=
  PSw (ps_setLc2 hc hN hy hyl hsw hi ok hvv hg (fun _ _ _ _ _ => pts_nil) hi1 hg1 ht1 he hs hs1) fun Z σ H hw => by
    obtain ⟨F0, H0, F, ρ, r, S, hf, k⟩ := hw
    obtain ⟨d, e1, e2⟩ := bind_some hf
    cases e2
    exact comp2_rd hv hv1 ⟨F, ρ, d, S.en, e1, fun v F1 H1 s1 r1 => k _ F1 H1 ((S.step s1).set List.not_mem_nil r1) s1.ff⟩
end
end DL
namespace DL
open PySem PySem.Spec PyProof.Rows L2
/-- the truth of None, bools and ints -/
def truI : D → Option Bool
  | .non => some false
  | .bl b => some b
  | .int i => some (i != 0)
  | _ => none
def dOrT (f g : DF) : DF := fun ρ => (f ρ).bind fun x => (truI x).bind fun k => if k = true then some x else g ρ
end DL
namespace DL
open PySem PySem.Spec PyProof.Rows L2
end DL
namespace DL
open PySem PySem.Spec PyProof.Rows L2
end DL
namespace DL
open PySem PySem.Spec PyProof.Rows L2
abbrev Pr := Int × List Int
def prD (p : Pr) : D := .tup [.int p.1, .tup (p.2.map .int)]
theorem asInts_eq : ∀ {ds : List D} {ns : List Int}, asInts ds = some ns → ds = ns.map .int
  | [], ns, e => by cases e; rfl
  | .int i :: ds, ns, e => by
    simp only [asInts, Option.map_eq_some_iff] at e
    obtain ⟨ns', e1, rfl⟩ := e
    rw [asInts_eq e1]
    rfl
  | .non :: _, _, e => by simp [asInts] at e
  | .bl _ :: _, _, e => by simp [asInts] at e
  | .str _ :: _, _, e => by simp [asInts] at e
  | .tup _ :: _, _, e => by simp [asInts] at e
  | .lst _ :: _, _, e => by simp [asInts] at e
  | .bell _ :: _, _, e => by simp [asInts] at e
  | .scr _ :: _, _, e => by simp [asInts] at e
theorem toPs_ints : ∀ ns : List Int, toPs (ns.map .int) = ns.map .int
  | [] => rfl
  | n :: ns => by
    rw [List.map_cons, List.map_cons, ← toPs_ints ns]
    rfl
end DL
namespace DL
open PySem PySem.Spec PyProof.Rows L2
end DL
namespace DL
open PySem PySem.Spec PyProof.Rows L2
inductive Kd
  | l
  | t
def ItrK (k : Kd) (h : Heap) (it a : Addr) (i : Nat) : Prop := match k with
  | .l => h.IsListIter it a i
  | .t => h.IsTupleIter it a i
def obK (k : Kd) (a : Addr) : Obj := match k with
  | .l => { cls := .type "list_iterator", data := .fields #[.ref a, .int 0 0] }
  | .t => { cls := .type "tuple_iterator", data := .fields #[.ref a, .int 0 0] }
theorem ItrK.start {k : Kd} {h : Heap} {it a : Addr} (g : h.get? it = some (obK k a)) : ItrK k h it a 0 := by
  cases k
  · exact ⟨_, g, rfl, rfl⟩
  · exact ⟨_, g, rfl, rfl⟩
theorem ItrK.at {k : Kd} {h h' : Heap} {it a : Addr} {i : Nat} (g : ItrK k h it a i) (f : ∀ o, h.get? it = some o → h'.get? it = some o) : ItrK k h' it a i := by
  cases k
  · exact Heap.IsListIter.at g f
  · exact Heap.IsTupleIter.at g f
section
variable {K : PySem.W.Frag} {C : Addr} {F H : Hp} {a b : Addr} {xs ys : List V} {ds es : List D}
def InK (F : Hp) (k : Kd) (a : Addr) (us : List V) : Prop := (k = Kd.l ∧ F a = some (.lst us)) ∨ (k = Kd.t ∧ F a = some (.tup us))
end
section
variable {X : Cx} {C : Addr} {O : List Nat} {e e2 e3 : Expr} {fs : DFs} {p pos tpos : Pos} {elts : List Expr} {kk : Nat}
theorem InK.mono {F F1 : Hp} {k : Kd} {a : Addr} {us : List V} (h : InK F k a us) (s : Same F F1) : InK F1 k a us := by
  rcases h with ⟨rfl, h⟩ | ⟨rfl, h⟩
  · exact .inl ⟨rfl, s _ _ h⟩
  · exact .inr ⟨rfl, s _ _ h⟩
end
end DL
namespace DL
open PySem PySem.Spec PyProof.Rows L2
def opPer : D → Option D
  | .bell ps => some (.tup (ps.map .int))
  | _ => none
def bellOk (ns : List Int) : Bool := decide (1 ≤ ns.length) && (decide (ns.length ≤ 5) && ns.all fun i => decide (1 ≤ i) && decide (i ≤ 1000))
def opBells : List D → Option D := fun ds => (asInts ds).bind fun ns => if bellOk ns = true then some (.bell ns) else none
/-- __init__ -/
def spInit (C : Addr) : Sp := fun vs H Q _ => ∃ x dx p ns, vs = [.ref x, .ref p] ∧ H x = some (.ins C dx []) ∧ H p = some (.tup (ns.map V.int)) ∧ bellOk ns = true ∧ ∀ H', Same H H' → Q .non (upd H' x (.ins C dx [("row", .ref p)]))
def spStar (sp : Sp) : Sp := fun vs H Q E => ∃ ws rest, vs = ws ++ rest ∧ ws.length = 1 ∧ rest.length ≤ sizeLine ∧ ∀ p, H p = Option.none → sp (ws ++ [V.ref p]) (upd H p (.tup rest)) Q E
/-- what the class must have -/
structure BeC (P : Program) (w : World) (K : PySem.W.Frag) (mg : Str → Option Value) (base : Heap) (C : Addr) : Prop where
  cls : Cls K C
  row : NoAttr K C "row"
  mks : ∃ f, Mk K C f ∧ FnR P w K mg base CX0 4 f (spStar (spInit C)) ∧ mg "Bells" = some (.ref C)
  prop : ∃ p g fd, PropOf K C "periods" p g ∧ FnOk P w K mg base CX0 1 g fd ["self"] (getSp C "row") ∧ Binds K fd ["self"] []
section
variable {X : Cx} {C : Addr} {O : List Nat} {e : Expr} {es : List Expr} {f : DF} {fs : DFs} {p pos : Pos}
theorem de_periods {j : Nat} (B : BeC X.prog X.w X.K X.mg X.base C) (hr : Room j X.A) (he : DE X C O e f) (hk : 2 ≤ j := by decide) (hb : attributeBase e "periods" X.env (eval e X.env) = eval e X.env := by rfl) : DE X C O (.Attribute e "periods" pos) (d1 opPer f) := by
  obtain ⟨p, g, fd, hp, F0, hbi⟩ := B.prop
  refine PEw (pe_prop (E := E0) he B.cls hp F0 (hr.mono hk) hbi .nil pass0 hb) fun σ H Q ⟨F, ρ, d, E, hf, k⟩ => ?_
  obtain ⟨x, q1, q2⟩ := bind_some hf
  refine ⟨F, ρ, x, E, q1, fun v F1 H1 s1 r1 => ?_⟩
  cases x with
  | bell ps =>
    cases q2
    obtain ⟨a, dx, t, rfl, ha, ht⟩ := r1
    exact ⟨a, dx, _, rfl, s1.fh _ _ ha, a, dx, _, .ref t, rfl, s1.fh _ _ ha, rfl, k _ F1 H1 s1 ⟨t, _, rfl, ht, RpL.ofInts ps⟩⟩
  | _ => cases q2
theorem made_rd {K : PySem.W.Frag} {F H H' : Hp} {x dx p : Addr} {ns : List Int} (fh : Same F H) (hx : H x = none) (hdx : H dx = none) (hne : dx ≠ x) (hp : (upd (upd H dx (.own x)) x (.ins C dx [])) p = none)
    (s : Same (upd (upd (upd H dx (.own x)) x (.ins C dx [])) p (.tup (ns.map V.int))) H') :
    ∃ F2, Stp F H F2 (upd H' x (.ins C dx [("row", .ref p)])) ∧ Rp K C F2 (.bell ns) (.ref x) := by
  have px : p ≠ x := fun e => by rw [e, upd_same] at hp; cases hp
  have pd : p ≠ dx := fun e => by rw [e, upd_ne hne, upd_same] at hp; cases hp
  have hp' : H p = none := by rw [upd_ne px, upd_ne pd] at hp; exact hp
  have hh : Same H H' := fun b o e => s b o (by
    have b1 : b ≠ p := fun z => by rw [z, hp'] at e; cases e
    have b2 : b ≠ x := fun z => by rw [z, hx] at e; cases e
    have b3 : b ≠ dx := fun z => by rw [z, hdx] at e; cases e
    rw [upd_ne b1, upd_ne b2, upd_ne b3]
    exact e)
  have tp : H' p = some (.tup (ns.map V.int)) := s p _ upd_same
  have ne_of : ∀ {b : Addr} {o : HO}, H b = some o → b ≠ x := fun e z => by rw [z, hx] at e; cases e
  have nep : ∀ {b : Addr} {o : HO}, H b = some o → b ≠ p := fun e z => by rw [z, hp'] at e; cases e
  refine ⟨upd (upd F p (.tup (ns.map V.int))) x (.ins C dx [("row", .ref p)]), ⟨fun b o e => ?_, fun b o e => ?_, fun b o e => ?_, fun b o e => ?_⟩, x, dx, p, rfl, upd_same, ?_⟩
  · have e' := fh b o e
    rw [upd_ne (ne_of e'), upd_ne (nep e')]
    exact e
  · rw [upd_ne (ne_of e)]
    exact hh b o e
  · by_cases z : b = x
    · subst z
      rw [upd_same] at e ⊢
      exact e
    · rw [upd_ne z] at e ⊢
      by_cases z2 : b = p
      · subst z2
        rw [upd_same] at e
        rw [← e]
        exact tp
      · rw [upd_ne z2] at e
        exact hh b o (fh b o e)
  · rw [upd_ne (ne_of e), upd_ne (nep e)]
  · rw [upd_ne px, upd_same]
/-- Bells(..) -/
theorem de_bells {j : Nat} (B : BeC X.prog X.w X.K X.mg X.base C) (hr : Room j X.A) (hg : Gl X "Bells") (ha : DA X C O (e :: es) fs) (hk : 5 ≤ j := by decide)
    (he : starEach (e :: es) X.env = (false, eval e X.env) :: starEach es X.env := by rfl) (hpl : (backTo pos (starEach es X.env)).any (·.1) = false := by rfl) :
    DE X C O (.Call (.Name "Bells" p) (e :: es) [] pos) (dL opBells fs) := by
  obtain ⟨f, M, F0, hm⟩ := B.mks
  refine PEw (StX.pe_makeR (E := E0) M F0 (hr.mono hk) hg hm pass0 ha (he := he) (hpl := hpl)) fun σ H Q ⟨F, ρ, d, E, hf, k⟩ => ?_
  obtain ⟨ds, q1, q2⟩ := bind_some hf
  refine ⟨F, ρ, ds, E, q1, fun vs F1 H1 s1 r1 x dx hx hdx hne => ?_⟩
  obtain ⟨ns, q3, q4⟩ := bind_some q2
  by_cases ok : bellOk ns = true
  · rw [if_pos ok] at q4
    cases q4
    have ev := intsRp q3 r1
    subst ev
    have ln : ns.length ≤ 5 := by
      unfold bellOk at ok
      rw [Bool.and_eq_true, Bool.and_eq_true] at ok
      exact of_decide_eq_true ok.2.1
    refine ⟨[.ref x], ns.map V.int, rfl, rfl, by rw [List.length_map, sizeLine_eq]; omega, fun p hp => ⟨x, dx, p, ns, rfl, ?_, upd_same, ok, fun H' same => ⟨rfl, ?_⟩⟩⟩
    · have px : p ≠ x := fun e => by rw [e, upd_same] at hp; cases hp
      rw [upd_ne (Ne.symm px), upd_same]
    · obtain ⟨F2, st, rp⟩ := made_rd (K := X.K) (C := C) s1.fh hx hdx hne hp same
      exact k _ F2 _ (s1.trans st) rp
  · rw [if_neg ok] at q4
    cases q4
end
structure Most (K : PySem.W.Frag) (C : Addr) : Prop where
  ex : ∃ mc u, ClX.CRead K C mc ∧ ClX.CVal K C mc "MOST" (.int 5) u
section
variable {X : Cx} {C : Addr} {O : List Nat} {p pos : Pos}
theorem de_most (M : Most X.K C) (hg : Gl X "Bells") (hm : X.mg "Bells" = some (.ref C)) (hb : attributeBase (.Name "Bells" p) "MOST" X.env (eval (.Name "Bells" p) X.env) = eval (.Name "Bells" p) X.env := by rfl) :
    DE X C O (.Attribute (.Name "Bells" p) "MOST" pos) (dc (.int 5)) :=
  PEw (ClX.pe_cval (pe_glob (v := .ref C) hg hm rfl) hb) fun σ H Q ⟨F, ρ, d, E, hf, k⟩ => by
    cases hf
    obtain ⟨mc, u, r, v⟩ := M.ex
    exact ⟨C, mc, .int 5, u, rfl, r, v, k _ F H (Stp.refl E.fh) rfl⟩
end
section
variable {P : Program} {w : World} {K : PySem.W.Frag} {mg : Str → Option Value} {base : Heap} {C : Addr}
theorem init_ok {st : Stmt} {f : Addr} {fd : FuncData} {N : List Str} {k : Nat} {c : Expr} {ra : List Stmt} {g : DB} {p1 p2 p3 p4 p5 : Pos} (F : Fun K "__init__" "Bells.__init__" st f fd) (S : FnScope N ((["self"] : List Str) ++ [("periods" : Str)]) (defScope st)) (cl : Cls K C) (nr : NoAttr K C "row")
    (hbd : defBody st = [.If c ra [] p1, .Assign [.Attribute (.Name "self" p2) "row" p3] (.Name "periods" p4) p5])
    (hb : ∀ (kV doc pm : Value) (an : Option Addr) (cdv ct : Value) (us rest : List Value), us.length = 1 → bindArgs (PySem.W.fnOf "__init__" "Bells.__init__" (defArgs st) (defBody st) (defScope st) .none kV doc pm an cdv ct) ⟨us ++ rest, []⟩ = (newTuple rest >>= fun t => pure ((["self"] : List Str).zip us ++ [(("periods" : Str), t)])))
    (ht : ∀ (cdv : Value) (A : Around) (outer : List Env) (s : Shared) (H : Hp) (E : XK), Room k (A.deeper (envOfC "Bells.__init__" (defScope st) s.heap.objs.size f cdv)) → DT ((cxOf CX0 P w K mg base N "Bells.__init__" (defScope st) f cdv A outer s H E).nox) C [] c g)
    (hv : ∀ ns, bellOk ns = true → g (none :: some (.tup (ns.map .int)) :: List.replicate (N.length - 2) none) = some false) (h0 : N[0]? = some ("self" : Str)) (h1 : N[1]? = some ("periods" : Str)) (hl : 2 ≤ N.length) (v0 : Vis (defScope st) "self") (v1 : Vis (defScope st) "periods")
    (hs : ∀ env : Env, swapsWith (.Name "periods" p4) (some (.Attribute (.Name "self" p2) "row" p3)) p5.line env = pure false) : FnR P w K mg base CX0 (k + 1) f (spStar (spInit C)) := by
  obtain ⟨oc, od, kV, doc, pm, an, cdv, ct, osl, rfl, lk, hcd⟩ := F.ex
  refine StX.fn_star (ps := ["self"]) (sp := spInit C) lk hcd S (fun _ _ _ _ _ _ _ _ _ _ _ z => z) (fun us rest h => hb kV doc pm an cdv ct us rest h) fun A outer s H vs Q E hr hsp => ?_
  obtain ⟨x, dx, p, ns, rfl, hx, hp, ok, q⟩ := hsp
  refine ⟨_, PSs.nox (hbd ▸ pss_cons (ps_if (ht cdv A outer s H E hr) pss_never pss_nil) (pss_one (ps_fld (pe_var h0 v0) (pe_var h1 v1) (hs _)))), ?_⟩
  refine ⟨fun b => if b = p then some (.tup (ns.map V.int)) else none, none :: some (.tup (ns.map .int)) :: List.replicate (N.length - 2) none, false, ⟨fun b o e => ?_, ?_, fun i d hi e => ?_, fun i d hi _ => absurd hi List.not_mem_nil, fun i j d e p hi _ _ _ _ _ => absurd hi List.not_mem_nil⟩, hv ns ok, fun F' H' st => ?_⟩
  · by_cases z : b = p
    · rw [if_pos z] at e
      rw [z, hp]
      exact e
    · rw [if_neg z] at e
      cases e
  · unfold L2.start
    simp
  · match i, e with
    | 0, e => cases e
    | 1, e =>
      cases e
      exact ⟨.ref p, rfl, p, _, rfl, if_pos rfl, RpL.ofInts ns⟩
    | i + 2, e =>
      exfalso
      have e : DL.lk (List.replicate (N.length - 2) none) i = some d := e
      have : ∀ (r i : Nat), DL.lk (List.replicate r none) i = none := by
        intro r
        induction r with
        | zero => intro i; rfl
        | succ r ih =>
          intro i
          cases i with
          | zero => rfl
          | succ i => exact ih i
      rw [this] at e
      cases e
  · refine ⟨.ref p, rfl, .ref x, rfl, x, C, dx, [], rfl, st.hh x _ hx, cl, nr, by decide, ?_⟩
    exact q H' st.hh
theorem prop_ok {st : Stmt} {p g : Addr} {fd : FuncData} {N : List Str} {p1 p2 p3 : Pos} (F : Fun K "periods" "Bells.periods" st g fd) (S : FnScope N ["self"] (defScope st)) (hN : N[0]? = some ("self" : Str)) (hb : defBody st = [.Return (some (.Attribute (.Name "self" p1) "row" p2)) p3]) (cl : Cls K C) (nr : NoAttr K C "row")
    (hbi : ∀ (kV doc pm : Value) (an : Option Addr) (cdv ct : Value) (us : List Value), us.length = 1 → bindArgs (PySem.W.fnOf "periods" "Bells.periods" (defArgs st) (defBody st) (defScope st) .none kV doc pm an cdv ct) ⟨us, []⟩ = pure ((["self"] : List Str).zip us)) (hp : PropOf K C "periods" p g) :
    ∃ p g fd, PropOf K C "periods" p g ∧ FnOk P w K mg base CX0 1 g fd ["self"] (getSp C "row") ∧ Binds K fd ["self"] [] := by
  have bi := F.binds (ps := ["self"]) hbi
  obtain ⟨oc, od, kV, doc, pm, an, cdv, ct, osl, rfl, lk, hcd⟩ := F.ex
  exact ⟨p, g, _, hp, fn_getter lk hcd S hN hb cl nr, bi⟩
end
end DL
namespace DL
open PySem PySem.Spec PyProof.Rows L2
end DL
namespace DL
open PySem PySem.Spec PyProof.Rows L2
def opMinT : List D → Option D
  | [.tup xs] => (asInts xs).bind fun ns => match ns with
    | [] => none
    | n :: r => some (.int (r.foldl min n))
  | _ => none
section
variable {X : Cx} {C : Addr}
theorem okDs_intsT : ∀ ns : List Int, okDs 3 (ns.map .int) = true
  | [] => rfl
  | n :: ns => by
    rw [List.map_cons]
    unfold okDs
    rw [okDs_intsT ns]
    rfl
theorem cd_minT (hc : X.calm = true) (hu : X.A.units + 65 < cLine) : CallD X C (.builtin "min") opMinT := by
  intro pins s σ H xs us Q I r ⟨F, ds, c, fh, rl, ho, g⟩
  match ds, ho, rl with
  | [.tup es], ho, rl =>
    obtain ⟨ns, e1, e2⟩ := bind_some ho
    have ee := asInts_eq e1
    obtain ⟨v, rfl, a, vs, rfl, ha, hl⟩ := RpL.one_inv rl
    obtain ⟨its, rv, isl, hz⟩ := I.tuple (SqT.of (fh _ _ ha))
    rw [Vals.ref1 r]
    have lay := okDs_lay 3 es (by rw [ee]; exact okDs_intsT ns)
    have dp := RpL.dp 3 es vs (by rw [ee]; exact okDs_intsT ns) (RpL.mono fh _ _ hl)
    obtain ⟨as, rs⟩ := Dp.readsAll I (toPs es) vs its dp rv
    cases ns with
    | nil => cases e2
    | cons n ns =>
      cases e2
      have et : toPs es = PyData.int n :: ns.map .int := by rw [ee, toPs_ints]; rfl
      rw [et] at rs lay
      refine PySem.W.min_tuple_data (I.ok.hd hc) isl (as := as) (by simpa using rs) ⟨fun d hd e he => ?_, fun d hd => ?_⟩ (by omega) fun i w h' tk bs hi rd kp => ?_
      · rw [← List.map_cons] at hd he
        obtain ⟨p, _, rfl⟩ := List.mem_map.mp hd
        obtain ⟨q, _, rfl⟩ := List.mem_map.mp he
        simp [PySem.W.alike]
      · rw [← List.map_cons] at hd
        obtain ⟨p, _, rfl⟩ := List.mem_map.mp hd
        intro z
        cases z
      · rw [PySem.W.minD_ints] at rd
        have hw : ∃ t, w = .int (ns.foldl min n) t := by
          cases rd; exact ⟨_, rfl⟩
        exact ⟨.int (ns.foldl min n), H, I.kept kp, hw, got0 g fh rfl⟩
end
end DL
namespace DL
open PySem PySem.Spec PyProof.Rows L2
end DL
namespace Mi
open DL
def m_gcd_b1 : DS := (dPar 0 1 (dv 1) (d2 opMod (dv 0) (dv 1)))
def m_gcd : List D → Option D := runD 2 2 ((dSeq (dWhile (bV (d2 opGt (dv 1) (dc (.int 0)))) m_gcd_b1)
    (dRet (dv 0))))
def m_lcm : List D → Option D := runD 2 2 ((dRet (d2 opMul (d2 opFdiv (dv 0) (dL m_gcd (dcons (dv 0) (dcons (dv 1) dnil)))) (dv 1))))
def m_turned_c1 : DF := (dComp (iSeq (dv 0)) (gN 2) bYes (d2 opIx (dv 2) (dv 1)) [2])
def m_turned_c2 : DF := (dComp (iRng1 (dcons (dL opLen (dcons (d2 opIx (dv 0) (dc (.int 0))) dnil)) dnil)) (gN 1) bYes (dL opTuple (dcons m_turned_c1 dnil)) [1])
def m_turned : List D → Option D := runD 3 1 ((dRet (dL opTuple (dcons m_turned_c2 dnil))))
def m_row_divisor_b1 : DS := (dIfS (bV (d2 opIsNot (dv 2) (dc .non))) (dSet 1 (dL m_gcd (dcons (dv 2) (dcons (dv 1) dnil)))) dNx)
def m_row_divisor : List D → Option D := runD 3 1 ((dSeq (dSet 1 (dc (.int 0)))
    (dSeq (dFor (iSeq (dv 0)) (gN 2) m_row_divisor_b1)
    (dRet (dv 1)))))
def m_greatest_c1 : DF := (dComp (iSeq (dL m_turned (dcons (dv 0) dnil))) (gN 1) bYes (dL m_row_divisor (dcons (dv 1) dnil)) [1])
def m_greatest_c2 : DF := (dComp (iSeq (dv 0)) (gN 1) bYes (dL m_row_divisor (dcons (dv 1) dnil)) [1])
def m_greatest : List D → Option D := runD 2 1 ((dRet (dL opTup (dcons (dL opTuple (dcons m_greatest_c2 dnil)) (dcons (dL opTuple (dcons m_greatest_c1 dnil)) dnil)))))
def m_known_places_c1 : DF := (dComp (iRng1 (dcons (dL opLen (dcons (d2 opIx (dv 0) (dc (.int 0))) dnil)) dnil)) (gN 3) (bV (d2 opIsNot (d2 opIx (d2 opIx (dv 0) (dv 2)) (dv 3)) (dc .non))) (dL opTup (dcons (dv 2) (dcons (dv 3) dnil))) [3])
def m_known_places_b1 : DS := (dSet 1 (d2 opAdd (dv 1) m_known_places_c1))
def m_known_places : List D → Option D := runD 4 1 ((dSeq (dSet 1 (dL opLst dnil))
    (dSeq (dFor (iRng1 (dcons (dL opLen (dcons (dv 0) dnil)) dnil)) (gN 2) m_known_places_b1)
    (dRet (dv 1)))))
def m_is_real_c1 : DF := (dComp (iSeq (dL m_known_places (dcons (dv 0) dnil))) (gT (gsCons (gN 3) (gsCons (gN 4) gsNil))) bYes (d2 opEq (dL m_lcm (dcons (d2 opIx (dv 1) (dv 3)) (dcons (d2 opIx (dv 2) (dv 4)) dnil))) (d2 opIx (d2 opIx (dv 0) (dv 3)) (dv 4))) [3, 4])
def m_is_real : List D → Option D := runD 5 1 ((dSeq (dAsg (gT (gsCons (gN 1) (gsCons (gN 2) gsNil))) (dL m_greatest (dcons (dv 0) dnil)))
    (dRet (dL opAll (dcons m_is_real_c1 dnil)))))
def m_law_cell : List D → Option D := runD 2 2 ((dSeq (dIfS (bV (d2 opLt (dv 1) (dL opLen (dcons (dv 0) dnil)))) (dRet (d2 opIx (dv 0) (dv 1))) dNx)
    (dSeq (dIfS (bV (d2 opEq (dL opLen (dcons (dv 0) dnil)) (dc (.int 0)))) (dRet (d2 opAdd (d2 opMul (dc (.int 7919)) (dv 1)) (dc (.int 101)))) dNx)
    (dRet (d2 opAdd (d2 opMod (d2 opIx (dv 0) (d2 opMod (dv 1) (dL opLen (dcons (dv 0) dnil)))) (dc (.int 1000003))) (d2 opMul (dc (.int 7919)) (dv 1)))))))
def m_law_digits_b1 : DS := (dSeq (dSet 9 (d2 opMul (d2 opMod (dv 5) (d2 opIx (dv 4) (d2 opMod (dv 8) (dc (.int 8))))) (d2 opAdd (dc (.int 48271)) (d2 opMul (d2 opMul (dc (.int 2)) (dv 8)) (dv 8)))))
    (dSeq (dSet 9 (d2 opAdd (d2 opAdd (dv 9) (d2 opMul (d2 opMul (dc (.int 7919)) (d2 opAdd (dv 8) (dc (.int 1)))) (d2 opAdd (dv 8) (dc (.int 1))))) (d2 opMul (dc (.int 104729)) (dv 1))))
    (dSeq (dSet 9 (d2 opMod (dv 9) (d2 opIx (dv 4) (d2 opMod (d2 opAdd (d2 opMul (dc (.int 3)) (dv 8)) (dv 1)) (dc (.int 8))))))
    (dSeq (dSet 9 (d2 opMod (d2 opMul (d2 opMul (dv 9) (dv 9)) (dv 9)) (d2 opIx (dv 4) (d2 opMod (d2 opAdd (dv 8) (dc (.int 5))) (dc (.int 8))))))
    (dSeq (dIfS (bV (d2 opGt (dv 6) (dc (.int 0)))) (dSet 9 (dv 6)) dNx)
    (dSeq (dApp 7 (d2 opMod (dv 9) (dv 3)))
    (dSet 6 (d2 opFdiv (dv 6) (dv 3)))))))))
def m_law_digits : List D → Option D := runD 10 4 ((dSeq (dSet 4 (dL opTup (dcons (dc (.int 2147483647)) (dcons (dc (.int 2147483629)) (dcons (dc (.int 2147483587)) (dcons (dc (.int 2147483579)) (dcons (dc (.int 2147483563)) (dcons (dc (.int 2147483549)) (dcons (dc (.int 2147483543)) (dcons (dc (.int 2147483497)) dnil))))))))))
    (dSeq (dSet 5 (dL m_law_cell (dcons (dv 0) (dcons (dv 1) dnil))))
    (dSeq (dSet 6 (dIf (bV (d2 opGe (dv 5) (d2 opPow (dc (.int 10)) (dc (.int 18))))) (dv 5) (dc (.int 0))))
    (dSeq (dSetN 7 (nLst dnil))
    (dSeq (dFor (iRng1 (dcons (dv 2) dnil)) (gN 8) m_law_digits_b1)
    (dRet (dv 7))))))))
end Mi
namespace Mi
open DL
end Mi
namespace Mi
open DL
def m_without_c1 : DF := (dComp (iRng1 (dcons (dL opLen (dcons (d2 opIx (dv 0) (dc (.int 0))) dnil)) dnil)) (gN 5) bYes (dIf (bV (d2 opIn (dL opTup (dcons (dv 3) (dcons (dv 5) dnil))) (dv 1))) (dc .non) (d2 opIx (d2 opIx (dv 0) (dv 3)) (dv 5))) [5])
def m_without_b1 : DS := (dSeq (dSet 4 m_without_c1)
    (dApp 2 (dL opTuple (dcons (dv 4) dnil))))
def m_without : List D → Option D := runD 6 2 ((dSeq (dSetN 2 (nLst dnil))
    (dSeq (dFor (iRng1 (dcons (dL opLen (dcons (dv 0) dnil)) dnil)) (gN 3) m_without_b1)
    (dRet (dL opTuple (dcons (dv 2) dnil))))))
end Mi
namespace Mi
open DL
def m_prime_factors_b1 : DS := (dSet 0 (d2 opFdiv (dv 0) (dv 2)))
def m_prime_factors_b2 : DS := (dSeq (dIfS (bV (d2 opEq (d2 opMod (dv 0) (dv 2)) (dc (.int 0)))) (dSeq (dApp 1 (dv 2))
    (dWhile (bV (d2 opEq (d2 opMod (dv 0) (dv 2)) (dc (.int 0)))) m_prime_factors_b1)) dNx)
    (dAug 2 (dc (.int 1))))
def m_prime_factors : List D → Option D := runD 3 1 ((dSeq (dParN1 1 2 (nLst dnil) (dc (.int 2)))
    (dSeq (dWhile (bV (d2 opLe (d2 opMul (dv 2) (dv 2)) (dv 0))) m_prime_factors_b2)
    (dRet (dIf (bV (d2 opGt (dv 0) (dc (.int 1)))) (d2 opAdd (dv 1) (dL opLst (dcons (dv 0) dnil))) (dv 1))))))
def m_exponent_b1 : DS := (dPar 1 2 (d2 opFdiv (dv 1) (dv 0)) (d2 opAdd (dv 2) (dc (.int 1))))
def m_exponent : List D → Option D := runD 3 2 ((dSeq (dSet 2 (dc (.int 0)))
    (dSeq (dWhile (bV (d2 opEq (d2 opMod (dv 1) (dv 0)) (dc (.int 0)))) m_exponent_b1)
    (dRet (dv 2)))))
def m_power_b1 : DS := (dSet 2 (d2 opMul (dv 2) (dv 0)))
def m_power : List D → Option D := runD 4 2 ((dSeq (dSet 2 (dc (.int 1)))
    (dSeq (dFor (iRng1 (dcons (dv 1) dnil)) (gN 3) m_power_b1)
    (dRet (dv 2)))))
def m_between_c1 : DF := (dComp2 (iSeq (dv 2)) (gN 5) (iRng1 (dcons (d2 opAdd (dv 4) (dc (.int 1))) dnil)) (gN 6) bYes (d2 opMul (dv 5) (dL m_power (dcons (dv 3) (dcons (dv 6) dnil)))) [5, 6] [6])
def m_between_b1 : DS := (dSeq (dSet 4 (dL m_exponent (dcons (dv 3) (dcons (d2 opFdiv (dv 1) (dv 0)) dnil))))
    (dSet 2 m_between_c1))
def m_between : List D → Option D := runD 7 2 ((dSeq (dSet 2 (dL opLst (dcons (dv 0) dnil)))
    (dSeq (dFor (iSeq (dL m_prime_factors (dcons (d2 opFdiv (dv 1) (dv 0)) dnil))) (gN 3) m_between_b1)
    (dRet (dL opSorted (dcons (dv 2) dnil))))))
def m_all_primes_c1 : DF := (dComp (iSeq (dL m_prime_factors (dcons (d2 opIx (d2 opIx (dv 0) (dv 2)) (dv 3)) dnil))) (gN 4) (bV (d2 opNotIn (dv 4) (dv 1))) (dv 4) [4])
def m_all_primes_b1 : DS := (dSet 1 (d2 opAdd (dv 1) m_all_primes_c1))
def m_all_primes : List D → Option D := runD 5 1 ((dSeq (dSet 1 (dL opLst dnil))
    (dSeq (dFor (iSeq (dL m_known_places (dcons (dv 0) dnil))) (gT (gsCons (gN 2) (gsCons (gN 3) gsNil))) m_all_primes_b1)
    (dRet (dL opSorted (dcons (dv 1) dnil))))))
def m_sure_b1 : DS := (dSeq (dSet 8 (dL m_exponent (dcons (dv 5) (dcons (d2 opIx (d2 opIx (dv 0) (dv 6)) (dv 7)) dnil))))
    (dSeq (dIfS (bV (d2 opLt (dL m_exponent (dcons (dv 5) (dcons (d2 opIx (dv 4) (dv 7)) dnil))) (dv 8))) (dSetIx 1 (dv 6) (dL m_lcm (dcons (d2 opIx (dv 1) (dv 6)) (dcons (dL m_power (dcons (dv 5) (dcons (dv 8) dnil))) dnil)))) dNx)
    (dIfS (bV (d2 opLt (dL m_exponent (dcons (dv 5) (dcons (d2 opIx (dv 3) (dv 6)) dnil))) (dv 8))) (dSetIx 2 (dv 7) (dL m_lcm (dcons (d2 opIx (dv 2) (dv 7)) (dcons (dL m_power (dcons (dv 5) (dcons (dv 8) dnil))) dnil)))) dNx)))
def m_sure_b2 : DS := (dFor (iSeq (dL m_known_places (dcons (dv 0) dnil))) (gT (gsCons (gN 6) (gsCons (gN 7) gsNil))) m_sure_b1)
def m_sure : List D → Option D := runD 9 1 ((dSeq (dParNN 1 2 (nRep (dL opLst (dcons (dc (.int 1)) dnil)) (dL opLen (dcons (dv 0) dnil))) (nRep (dL opLst (dcons (dc (.int 1)) dnil)) (dL opLen (dcons (d2 opIx (dv 0) (dc (.int 0))) dnil))))
    (dSeq (dAsg (gT (gsCons (gN 3) (gsCons (gN 4) gsNil))) (dL m_greatest (dcons (dv 0) dnil)))
    (dSeq (dFor (iSeq (dL m_all_primes (dcons (dv 0) dnil))) (gN 5) m_sure_b2)
    (dRet (dL opTup (dcons (dL opTuple (dcons (dv 1) dnil)) (dcons (dL opTuple (dcons (dv 2) dnil)) dnil))))))))
end Mi
namespace Mi
open DL
def m_entry_values : List D → Option D := runD 7 3 ((dSeq (dAsg (gT (gsCons (gN 3) (gsCons (gN 4) gsNil))) (dL m_greatest (dcons (dv 0) dnil)))
    (dSeq (dIfS (bV (d2 opIsNot (d2 opIx (d2 opIx (dv 0) (dv 1)) (dv 2)) (dc .non))) (dRet (dL opLst (dcons (d2 opIx (d2 opIx (dv 0) (dv 1)) (dv 2)) dnil))) dNx)
    (dSeq (dIfS (bOr (bV (d2 opEq (d2 opIx (dv 3) (dv 1)) (dc (.int 0)))) (bV (d2 opEq (d2 opIx (dv 4) (dv 2)) (dc (.int 0))))) (dRet (dc .non)) dNx)
    (dSeq (dAsg (gT (gsCons (gN 5) (gsCons (gN 6) gsNil))) (dL m_sure (dcons (dv 0) dnil)))
    (dRet (dL m_between (dcons (dL m_lcm (dcons (d2 opIx (dv 5) (dv 1)) (dcons (d2 opIx (dv 6) (dv 2)) dnil))) (dcons (dL m_lcm (dcons (d2 opIx (dv 3) (dv 1)) (dcons (d2 opIx (dv 4) (dv 2)) dnil))) dnil)))))))))
end Mi
namespace Mi
open DL
def m_sets_for_c1 : DF := (dComp (iSeq (d2 opAdd (dv 2) (dv 3))) (gN 13) bYes (dL m_exponent (dcons (dv 1) (dcons (dv 13) dnil))) [13])
def m_sets_for_c2 : DF := (dComp (iSeq (d2 opAdd (dv 4) (dv 5))) (gN 13) bYes (dL m_exponent (dcons (dv 1) (dcons (dv 13) dnil))) [13])
def m_sets_for_c3 : DF := (dComp (iRng1 (dcons (dL opLen (dcons (dv 6) dnil)) dnil)) (gN 10) (bV (d2 opGt (d2 opIx (dv 6) (dv 10)) (d2 opIx (dv 7) (dv 10)))) (dv 10) [10])
def m_sets_for_c4 : DF := (dComp (iSeq (dv 9)) (gN 16) bYes (d2 opAdd (dv 16) (dL opTup (dcons (dv 10) dnil))) [16])
def m_sets_for_b1 : DS := (dSet 9 (d2 opAdd (dv 9) m_sets_for_c4))
def m_sets_for_c5 : DF := (dComp (iSeq (dL m_known_places (dcons (dv 0) dnil))) (gT (gsCons (gN 14) (gsCons (gN 15) gsNil))) (bV (d2 opGt (dL m_exponent (dcons (dv 1) (dcons (d2 opIx (d2 opIx (dv 0) (dv 14)) (dv 15)) dnil))) (dc (.int 0)))) (dL opTup (dcons (dv 14) (dcons (d2 opAdd (dv 11) (dv 15)) dnil))) [14, 15])
def m_sets_for_c6 : DF := (dComp (iSeq (dv 12)) (gT (gsCons (gN 17) (gsCons (gN 18) gsNil))) bYes (dAnd (d2 opIn (dv 17) (dv 16)) (d2 opIn (dv 18) (dv 16))) [17, 18])
def m_sets_for_c7 : DF := (dComp (iSeq (dv 9)) (gN 16) (bNot (bV (dL opAny (dcons m_sets_for_c6 dnil)))) (dv 16) [16])
def m_sets_for : List D → Option D := runD 19 2 ((dSeq (dAsg (gT (gsCons (gN 2) (gsCons (gN 3) gsNil))) (dL m_greatest (dcons (dv 0) dnil)))
    (dSeq (dAsg (gT (gsCons (gN 4) (gsCons (gN 5) gsNil))) (dL m_sure (dcons (dv 0) dnil)))
    (dSeq (dSet 6 m_sets_for_c1)
    (dSeq (dSet 7 m_sets_for_c2)
    (dSeq (dSet 8 m_sets_for_c3)
    (dSeq (dSet 9 (dL opLst (dcons (dL opTup dnil) dnil)))
    (dSeq (dFor (iSeq (dv 8)) (gN 10) m_sets_for_b1)
    (dSeq (dSet 11 (dL opLen (dcons (dv 0) dnil)))
    (dSeq (dSet 12 m_sets_for_c5)
    (dRet (dL opTup (dcons (dv 6) (dcons m_sets_for_c7 dnil))))))))))))))
end Mi
namespace Mi
open DL
end Mi
namespace Mi
open DL
end Mi
namespace Mi
open DL
def m_single_mends_b1 : DS := (dSeq (dSet 4 (dL m_without (dcons (dv 0) (dcons (dL opLst (dcons (dL opTup (dcons (dv 2) (dcons (dv 3) dnil))) dnil)) dnil))))
    (dIfS (bV (dL m_is_real (dcons (dv 4) dnil))) (dApp 1 (dL opTup (dcons (dv 2) (dcons (dv 3) (dcons (dL m_entry_values (dcons (dv 4) (dcons (dv 2) (dcons (dv 3) dnil)))) dnil))))) dNx))
def m_single_mends : List D → Option D := runD 5 1 ((dSeq (dSetN 1 (nLst dnil))
    (dSeq (dFor (iSeq (dL m_known_places (dcons (dv 0) dnil))) (gT (gsCons (gN 2) (gsCons (gN 3) gsNil))) m_single_mends_b1)
    (dRet (dv 1)))))
def m_wrong_sets_c1 : DF := (dComp (iSeq (dv 1)) (gN 5) (bV (dL m_is_real (dcons (dL m_without (dcons (dv 0) (dcons (dv 5) dnil))) dnil))) (dv 5) [5])
def m_wrong_sets_c2 : DF := (dComp (iSeq (dv 2)) (gN 6) (bOr (bV (d2 opEq (dv 5) (dL opTup dnil))) (bV (d2 opGt (dv 6) (d2 opIx (dv 5) (d1 opNeg (dc (.int 1))))))) (d2 opAdd (dv 5) (dL opTup (dcons (dv 6) dnil))) [6])
def m_wrong_sets_b1 : DS := (dSet 4 (d2 opAdd (dv 4) m_wrong_sets_c2))
def m_wrong_sets_b2 : DS := (dSeq (dSet 3 m_wrong_sets_c1)
    (dSeq (dIfS (bV (d2 opNe (dv 3) (dL opLst dnil))) (dRet (dv 3)) dNx)
    (dSeq (dSet 4 (dL opLst dnil))
    (dSeq (dFor (iSeq (dv 1)) (gN 5) m_wrong_sets_b1)
    (dSet 1 (dv 4))))))
def m_wrong_sets : List D → Option D := runD 7 1 ((dSeq (dPar 1 2 (dL opLst (dcons (dL opTup dnil) dnil)) (dL m_known_places (dcons (dv 0) dnil)))
    (dSeq (dWhile (bV (d2 opNe (dv 1) (dL opLst dnil))) m_wrong_sets_b2)
    (dRet (dL opLst dnil)))))
def m_surely_wrong_c1 : DF := (dComp (iSeq (dv 1)) (gN 3) bYes (d2 opIn (dv 2) (dv 3)) [3])
def m_surely_wrong_c2 : DF := (dComp (iSeq (dL m_known_places (dcons (dv 0) dnil))) (gN 2) (bV (dL opAll (dcons m_surely_wrong_c1 dnil))) (dv 2) [2])
def m_surely_wrong : List D → Option D := runD 4 1 ((dSeq (dSet 1 (dL m_wrong_sets (dcons (dv 0) dnil)))
    (dRet m_surely_wrong_c2)))
end Mi
namespace Mi
open DL
def m_count_solutions_b1 : DS := (dSet 7 (d2 opMul (dv 7) (d2 opIx (dv 3) (dv 8))))
def m_count_solutions_b2 : DS := (dSeq (dSet 7 (dc (.int 1)))
    (dSeq (dFor (iSeq (dv 6)) (gN 8) m_count_solutions_b1)
    (dSet 5 (d2 opAdd (dv 5) (dv 7)))))
def m_count_solutions_b3 : DS := (dSeq (dAsg (gT (gsCons (gN 3) (gsCons (gN 4) gsNil))) (dL m_sets_for (dcons (dv 0) (dcons (dv 2) dnil))))
    (dSeq (dSet 5 (dc (.int 0)))
    (dSeq (dFor (iSeq (dv 4)) (gN 6) m_count_solutions_b2)
    (dSet 1 (d2 opMul (dv 1) (dv 5))))))
def m_count_solutions : List D → Option D := runD 9 1 ((dSeq (dSet 1 (dc (.int 1)))
    (dSeq (dFor (iSeq (dL m_all_primes (dcons (dv 0) dnil))) (gN 2) m_count_solutions_b3)
    (dRet (dv 1)))))
end Mi
namespace Mi
open DL
def m_ways_with_b1 : DS := (dSet 6 (d2 opMul (dv 6) (dIf (bV (d2 opNe (dv 7) (dv 2))) (d2 opIx (dv 0) (dv 7)) (dc (.int 1)))))
def m_ways_with_b2 : DS := (dIfS (bOr (bAnd (bV (d2 opLt (dv 3) (d2 opIx (dv 0) (dv 2)))) (bV (d2 opIn (dv 2) (dv 5)))) (bAnd (bV (d2 opEq (dv 3) (d2 opIx (dv 0) (dv 2)))) (bV (d2 opNotIn (dv 2) (dv 5))))) (dSeq (dSet 6 (dc (.int 1)))
    (dSeq (dFor (iSeq (dv 5)) (gN 7) m_ways_with_b1)
    (dSet 4 (d2 opAdd (dv 4) (dv 6))))) dNx)
def m_ways_with : List D → Option D := runD 8 4 ((dSeq (dSet 4 (dc (.int 0)))
    (dSeq (dFor (iSeq (dv 1)) (gN 5) m_ways_with_b2)
    (dRet (dv 4)))))
def m_prime_ways_c1 : DF := (dComp (iRng1 (dcons (d2 opAdd (d2 opIx (dv 4) (dv 1)) (dc (.int 1))) dnil)) (gN 6) bYes (dL m_ways_with (dcons (dv 4) (dcons (dv 5) (dcons (dv 1) (dcons (dv 6) dnil))))) [6])
def m_prime_ways_b1 : DS := (dSeq (dAsg (gT (gsCons (gN 4) (gsCons (gN 5) gsNil))) (dL m_sets_for (dcons (dv 0) (dcons (dv 3) dnil))))
    (dApp 2 (dL opTup (dcons (dv 3) (dcons m_prime_ways_c1 dnil)))))
def m_prime_ways : List D → Option D := runD 7 2 ((dSeq (dSetN 2 (nLst dnil))
    (dSeq (dFor (iSeq (dL m_all_primes (dcons (dv 0) dnil))) (gN 3) m_prime_ways_b1)
    (dRet (dv 2)))))
def m_count_with_b1 : DS := (dSet 3 (d2 opMul (dv 3) (d2 opIx (dv 5) (dL m_exponent (dcons (dv 4) (dcons (dv 2) dnil))))))
def m_count_with : List D → Option D := runD 6 3 ((dSeq (dIfS (bV (d2 opNe (d2 opMod (d2 opIx (d2 opIx (dL m_greatest (dcons (dv 0) dnil)) (dc (.int 0))) (dv 1)) (dv 2)) (dc (.int 0)))) (dRet (dc (.int 0))) dNx)
    (dSeq (dSet 3 (dc (.int 1)))
    (dSeq (dFor (iSeq (dL m_prime_ways (dcons (dv 0) (dcons (dv 1) dnil)))) (gT (gsCons (gN 4) (gsCons (gN 5) gsNil))) m_count_with_b1)
    (dRet (dv 3))))))
def m_number_share : List D → Option D := runD 6 3 ((dSeq (dPar 3 4 (dL m_count_with (dcons (dv 0) (dcons (dv 1) (dcons (dv 2) dnil)))) (dL m_count_solutions (dcons (dv 0) dnil)))
    (dSeq (dSet 5 (dL m_gcd (dcons (dv 4) (dcons (dv 3) dnil))))
    (dRet (dL opTup (dcons (d2 opFdiv (dv 3) (dv 5)) (dcons (d2 opFdiv (dv 4) (dv 5)) dnil)))))))
def m_likeliest_c1 : DF := (dComp (iEn (dcons (dv 4) dnil)) (gT (gsCons (gN 6) (gsCons (gN 7) gsNil))) (bV (d2 opEq (dv 7) (dL opMax (dcons (dv 4) dnil)))) (dv 6) [6, 7])
def m_likeliest_c2 : DF := (dComp2 (iSeq (dv 2)) (gN 8) (iSeq (dv 5)) (gN 6) bYes (d2 opMul (dv 8) (dL m_power (dcons (dv 3) (dcons (dv 6) dnil)))) [8, 6] [6])
def m_likeliest_b1 : DS := (dSeq (dSet 5 m_likeliest_c1)
    (dSet 2 m_likeliest_c2))
def m_likeliest : List D → Option D := runD 9 2 ((dSeq (dSet 2 (dL opLst (dcons (dc (.int 1)) dnil)))
    (dSeq (dFor (iSeq (dL m_prime_ways (dcons (dv 0) (dcons (dv 1) dnil)))) (gT (gsCons (gN 3) (gsCons (gN 4) gsNil))) m_likeliest_b1)
    (dRet (dL opSorted (dcons (dv 2) dnil))))))
end Mi
namespace Mi
open DL
end Mi
namespace Mi
open DL
end Mi
namespace Mi
open DL
end Mi
namespace Mi
open DL
def m_is_integer : List D → Option D := runD 3 3 ((dRet (dAnd (d1 (opIsi "int") (dv 0)) (dAnd (dNot (d1 (opIsi "bool") (dv 0))) (dCh opLe opLe (dv 1) (dv 0) (dv 2))))))
def m_meetings_c1 : DF := (dComp (iSeq (dv 1)) (gT (gsCons (gN 3) (gsCons (gN 4) gsNil))) bYes (dL opTup (dcons (d2 opAdd (dv 3) (dc (.int 1))) (dcons (dL m_lcm (dcons (dv 4) (dcons (dv 2) dnil))) dnil))) [3, 4])
def m_meetings_b1 : DS := (dSet 1 (d2 opAdd (dv 1) m_meetings_c1))
def m_meetings : List D → Option D := runD 5 1 ((dSeq (dSet 1 (dL opLst (dcons (dL opTup (dcons (dc (.int 0)) (dcons (dc (.int 1)) dnil))) dnil)))
    (dSeq (dFor (iSeq (d1 opPer (dv 0))) (gN 2) m_meetings_b1)
    (dRet (dv 1)))))
def m_choose_b1 : DS := (dSet 2 (d2 opFdiv (d2 opMul (dv 2) (d2 opSub (dv 0) (dv 3))) (d2 opAdd (dv 3) (dc (.int 1)))))
def m_choose : List D → Option D := runD 4 2 ((dSeq (dSet 2 (dc (.int 1)))
    (dSeq (dFor (iRng1 (dcons (dv 1) dnil)) (gN 3) m_choose_b1)
    (dRet (dv 2)))))
def m_rung_to_b1 : DS := (dIfS (bV (d2 opGt (dv 3) (dc (.int 0)))) (dSet 2 (d2 opAdd (dv 2) (d2 opMul (d2 opAdd (d2 opFdiv (dv 1) (dv 4)) (dc (.int 1))) (dIf (bV (d2 opEq (d2 opMod (dv 3) (dc (.int 2))) (dc (.int 1)))) (dc (.int 1)) (d1 opNeg (dc (.int 1))))))) dNx)
def m_rung_to : List D → Option D := runD 5 2 ((dSeq (dSet 2 (dc (.int 0)))
    (dSeq (dFor (iSeq (dv 0)) (gT (gsCons (gN 3) (gsCons (gN 4) gsNil))) m_rung_to_b1)
    (dRet (dv 2)))))
def m_just_to_b1 : DS := (dIfS (bV (d2 opGe (dv 4) (dv 1))) (dSet 3 (d2 opAdd (dv 3) (d2 opMul (d2 opMul (d2 opAdd (d2 opFdiv (dv 2) (dv 5)) (dc (.int 1))) (dL m_choose (dcons (dv 4) (dcons (dv 1) dnil)))) (dIf (bV (d2 opEq (d2 opMod (d2 opSub (dv 4) (dv 1)) (dc (.int 2))) (dc (.int 0)))) (dc (.int 1)) (d1 opNeg (dc (.int 1))))))) dNx)
def m_just_to : List D → Option D := runD 6 3 ((dSeq (dSet 3 (dc (.int 0)))
    (dSeq (dFor (iSeq (dv 0)) (gT (gsCons (gN 4) (gsCons (gN 5) gsNil))) m_just_to_b1)
    (dRet (dv 3)))))
def m_count_rings : List D → Option D := runD 4 3 ((dSeq (dSet 3 (dL m_meetings (dcons (dv 0) dnil)))
    (dRet (dIf (bV (d2 opLe (dv 1) (dv 2))) (dL opMax (dcons (dc (.int 0)) (dcons (d2 opSub (dL m_rung_to (dcons (dv 3) (dcons (dv 2) dnil))) (dL m_rung_to (dcons (dv 3) (dcons (d2 opSub (dv 1) (dc (.int 1))) dnil)))) dnil))) (dc (.int 0))))))
def m_count_just : List D → Option D := runD 5 4 ((dSeq (dSet 4 (dL m_meetings (dcons (dv 0) dnil)))
    (dRet (dIf (bV (d2 opLe (dv 2) (dv 3))) (d2 opSub (dL m_just_to (dcons (dv 4) (dcons (dv 1) (dcons (dv 3) dnil)))) (dL m_just_to (dcons (dv 4) (dcons (dv 1) (dcons (d2 opSub (dv 2) (dc (.int 1))) dnil))))) (dc (.int 0))))))
def m_init_c1 : DF := (dComp (iSeq (dv 1)) (gN 2) bYes (dL m_is_integer (dcons (dv 2) (dcons (dc (.int 1)) (dcons (dc (.int 1000)) dnil)))) [2])
def m_init_t : DB := (bOr (bNot (bV (dCh opLe opLe (dc (.int 1)) (dL opLen (dcons (dv 1) dnil)) (dc (.int 5))))) (bNot (bV (dL opAll (dcons m_init_c1 dnil)))))
end Mi
namespace Mi
open DL
end Mi
namespace Mi
open DL
def m_ring_at_b1 : DS := (dSeq (dSet 5 (d2 opFdiv (d2 opAdd (dv 3) (dv 4)) (dc (.int 2))))
    (dIfS (bV (d2 opGt (dL m_rung_to (dcons (dv 2) (dcons (dv 5) dnil))) (dv 1))) (dSet 4 (dv 5)) (dSet 3 (d2 opAdd (dv 5) (dc (.int 1))))))
def m_ring_at : List D → Option D := runD 6 2 ((dSeq (dSet 2 (dL m_meetings (dcons (dv 0) dnil)))
    (dSeq (dPar 3 4 (dc (.int 0)) (d2 opMul (dv 1) (dL opMinT (dcons (d1 opPer (dv 0)) dnil))))
    (dSeq (dWhile (bV (d2 opLt (dv 3) (dv 4))) m_ring_at_b1)
    (dRet (dv 3))))))
def m_first_with_b1 : DS := (dSet 3 (dL m_lcm (dcons (dv 3) (dcons (d2 opIx (d1 opPer (dv 0)) (dv 4)) dnil))))
def m_first_with_c1 : DF := (dComp (iEn (dcons (d1 opPer (dv 0)) dnil)) (gT (gsCons (gN 4) (gsCons (gN 8) gsNil))) (bV (d2 opNotIn (dv 4) (dv 1))) (dv 8) [4, 8])
def m_first_with_c2 : DF := (dComp (iSeq (dv 5)) (gN 8) bYes (d2 opFdiv (dv 8) (dL m_gcd (dcons (dv 8) (dcons (dv 3) dnil)))) [8])
def m_first_with_c3 : DF := (dComp (iSeq (dv 6)) (gN 9) bYes (d2 opEq (d2 opMod (dv 7) (dv 9)) (dc (.int 0))) [9])
def m_first_with_b2 : DS := (dAug 7 (dc (.int 1)))
def m_first_with : List D → Option D := runD 10 3 ((dSeq (dSet 3 (dc (.int 1)))
    (dSeq (dFor (iSeq (dv 1)) (gN 4) m_first_with_b1)
    (dSeq (dSet 5 m_first_with_c1)
    (dSeq (dSet 6 m_first_with_c2)
    (dSeq (dIfS (bV (d2 opIn (dc (.int 1)) (dv 6))) (dRet (dc .non)) dNx)
    (dSeq (dSet 7 (d2 opFdiv (d2 opSub (d2 opAdd (dv 2) (dv 3)) (dc (.int 1))) (dv 3)))
    (dSeq (dWhile (bV (dL opAny (dcons m_first_with_c3 dnil))) m_first_with_b2)
    (dRet (d2 opMul (dv 7) (dv 3)))))))))))
def m_law_one_bell : List D → Option D := runD 3 1 ((dSeq (dPar 1 2 (dL opBells (dcons (dv 0) dnil)) (dL opBells (dcons (dv 0) (dcons (dv 0) dnil))))
    (dSeq (dIfS (bOr (bV (d2 opNe (dL m_count_rings (dcons (dv 1) (dcons (dc (.int 0)) (dcons (d2 opMul (dc (.int 100)) (dv 0)) dnil)))) (dc (.int 101)))) (bV (d2 opNe (dL m_count_just (dcons (dv 2) (dcons (dc (.int 2)) (dcons (dc (.int 1)) (dcons (d2 opMul (dc (.int 100)) (dv 0)) dnil))))) (dc (.int 100))))) (dRet (dc (.bl false))) dNx)
    (dSeq (dIfS (bOr (bV (d2 opNe (dL m_count_just (dcons (dv 2) (dcons (dc (.int 1)) (dcons (dc (.int 0)) (dcons (d2 opPow (dc (.int 10)) (dc (.int 6))) dnil))))) (dc (.int 0)))) (bV (d2 opNe (dL m_count_just (dcons (dv 1) (dcons (dc (.int 0)) (dcons (dc (.int 1)) (dcons (d2 opMul (dc (.int 100)) (dv 0)) dnil))))) (d2 opSub (d2 opMul (dc (.int 100)) (dv 0)) (dc (.int 100)))))) (dRet (dc (.bl false))) dNx)
    (dSeq (dIfS (bOr (bV (d2 opNe (dL m_ring_at (dcons (dv 2) (dcons (d2 opPow (dc (.int 10)) (dc (.int 11))) dnil))) (d2 opMul (dv 0) (d2 opPow (dc (.int 10)) (dc (.int 11)))))) (bV (d2 opIsNot (dL m_first_with (dcons (dv 2) (dcons (dL opTup (dcons (dc (.int 0)) dnil)) (dcons (dc (.int 5)) dnil)))) (dc .non)))) (dRet (dc (.bl false))) dNx)
    (dRet (dAnd (d2 opEq (dL m_first_with (dcons (dv 2) (dcons (dL opTup (dcons (dc (.int 0)) (dcons (dc (.int 1)) dnil))) (dcons (dc (.int 1)) dnil)))) (dv 0)) (d2 opEq (dL m_first_with (dcons (dv 1) (dcons (dL opTup (dcons (dc (.int 0)) dnil)) (dcons (d2 opAdd (dv 0) (dc (.int 1))) dnil)))) (d2 opMul (dc (.int 2)) (dv 0))))))))))
def m_law_power_b1 : DS := (dPar 1 2 (d2 opAdd (dv 1) (dc (.int 1))) (d2 opMul (dc (.int 2)) (dv 2)))
def m_law_power : List D → Option D := runD 3 1 ((dSeq (dAsg (gT (gsCons (gN 1) (gsCons (gN 2) gsNil))) (dL opTup (dcons (dc (.int 0)) (dcons (dc (.int 1)) dnil))))
    (dSeq (dWhile (bV (d2 opLe (d2 opMul (dc (.int 2)) (dv 2)) (dv 0))) m_law_power_b1)
    (dSeq (dIfS (bOr (bV (d2 opNe (dL m_count_with (dcons (dL opTup (dcons (dL opTup (dcons (dv 2) dnil)) dnil)) (dcons (dc (.int 0)) (dcons (dv 2) dnil)))) (d2 opAdd (dv 1) (dc (.int 1))))) (bV (d2 opNe (dL m_count_with (dcons (dL opTup (dcons (dL opTup (dcons (dv 2) dnil)) dnil)) (dcons (dc (.int 0)) (dcons (dc (.int 3)) dnil)))) (dc (.int 0))))) (dRet (dc (.bl false))) dNx)
    (dSeq (dIfS (bAnd (bV (d2 opGt (dv 1) (dc (.int 0)))) (bOr (bV (d2 opNe (dL m_count_with (dcons (dL opTup (dcons (dL opTup (dcons (dv 2) dnil)) dnil)) (dcons (dc (.int 0)) (dcons (dc (.int 1)) dnil)))) (dc (.int 1)))) (bV (d2 opNe (dL m_likeliest (dcons (dL opTup (dcons (dL opTup (dcons (dv 2) dnil)) dnil)) (dcons (dc (.int 0)) dnil))) (dL opLst (dcons (dv 2) dnil)))))) (dRet (dc (.bl false))) dNx)
    (dRet (d2 opEq (dL m_number_share (dcons (dL opTup (dcons (dL opTup (dcons (dv 2) dnil)) dnil)) (dcons (dc (.int 0)) (dcons (dv 2) dnil)))) (dL opTup (dcons (d2 opAdd (dv 1) (dc (.int 1))) (dcons (d2 opAdd (d2 opMul (dc (.int 2)) (dv 1)) (dc (.int 1))) dnil))))))))))
def m_k30_b1 : DS := (dSeq (dSet 2 (d2 opAdd (dc (.int 1)) (d2 opIx (dL m_law_digits (dcons (dv 0) (dcons (dv 1) (dcons (dc (.int 4)) (dcons (dc (.int 990)) dnil))))) (dc (.int 0)))))
    (dIfS (bOr (bNot (bV (dL m_law_one_bell (dcons (dv 2) dnil)))) (bNot (bV (dL m_law_power (dcons (dv 2) dnil))))) (dRet (dc (.bl false))) dNx))
def m_k30_c1 : DF := (dComp (iSeq (dL opTup (dcons (dc (.int 6)) (dcons (dc (.int 3)) dnil)))) (gN 5) bYes (dL m_count_with (dcons (dv 3) (dcons (dc (.int 1)) (dcons (dv 5) dnil)))) [5])
def m_k30_c2 : DF := (dComp (iSeq (dL opTup (dcons (dL opTup (dcons (dc (.int 0)) dnil)) (dcons (dL opTup (dcons (dc (.int 0)) (dcons (dc (.int 1)) dnil))) (dcons (dL opTup dnil) dnil))))) (gN 4) bYes (dL m_first_with (dcons (dL opBells (dcons (dc (.int 4)) (dcons (dc (.int 6)) dnil))) (dcons (dv 4) (dcons (dc (.int 1)) dnil)))) [4])
def m_k30 : List D → Option D := runD 6 1 ((dSeq (dFor (iRng1 (dcons (dc (.int 6)) dnil)) (gN 1) m_k30_b1)
    (dSeq (dSet 3 (dL opTup (dcons (dL opTup (dcons (dc (.int 12)) (dcons (dc (.int 20)) dnil))) (dcons (dL opTup (dcons (dc (.int 6)) (dcons (dc (.int 30)) dnil))) dnil))))
    (dSeq (dIfS (bOr (bV (d2 opNe m_k30_c1 (dL opLst (dcons (dc (.int 4)) (dcons (dc (.int 1)) dnil))))) (bV (d2 opNe (dL m_count_with (dcons (dv 3) (dcons (dc (.int 0)) (dcons (dc (.int 4)) dnil)))) (dc (.int 5))))) (dRet (dc (.bl false))) dNx)
    (dSeq (dIfS (bOr (bV (d2 opNe (dL m_number_share (dcons (dv 3) (dcons (dc (.int 1)) (dcons (dc (.int 3)) dnil)))) (dL opTup (dcons (dc (.int 1)) (dcons (dc (.int 5)) dnil))))) (bOr (bV (d2 opNe (dL m_likeliest (dcons (dv 3) (dcons (dc (.int 1)) dnil))) (dL opLst (dcons (dc (.int 6)) dnil)))) (bV (d2 opNe (dL m_likeliest (dcons (dL opTup (dcons (dL opTup (dcons (dc (.int 8)) dnil)) dnil)) (dcons (dc (.int 0)) dnil))) (dL opLst (dcons (dc (.int 8)) dnil)))))) (dRet (dc (.bl false))) dNx)
    (dSeq (dIfS (bV (d2 opNe (dL m_single_mends (dcons (dL opTup (dcons (dL opTup (dcons (dc (.int 4)) (dcons (dc (.int 1)) dnil))) (dcons (dL opTup (dcons (dc (.int 1)) (dcons (dc (.int 1)) dnil))) dnil))) dnil)) (dL opLst (dcons (dL opTup (dcons (dc (.int 0)) (dcons (dc (.int 0)) (dcons (dL opLst (dcons (dc (.int 1)) dnil)) dnil)))) (dcons (dL opTup (dcons (dc (.int 0)) (dcons (dc (.int 1)) (dcons (dL opLst (dcons (dc (.int 4)) dnil)) dnil)))) (dcons (dL opTup (dcons (dc (.int 1)) (dcons (dc (.int 0)) (dcons (dL opLst (dcons (dc (.int 4)) dnil)) dnil)))) dnil)))))) (dRet (dc (.bl false))) dNx)
    (dSeq (dIfS (bOr (bV (d2 opNe (dL m_wrong_sets (dcons (dL opTup (dcons (dL opTup (dcons (dc (.int 4)) (dcons (dc (.int 1)) dnil))) (dcons (dL opTup (dcons (dc (.int 1)) (dcons (dc (.int 1)) dnil))) dnil))) dnil)) (dL opLst (dcons (dL opTup (dcons (dL opTup (dcons (dc (.int 0)) (dcons (dc (.int 0)) dnil))) dnil)) (dcons (dL opTup (dcons (dL opTup (dcons (dc (.int 0)) (dcons (dc (.int 1)) dnil))) dnil)) (dcons (dL opTup (dcons (dL opTup (dcons (dc (.int 1)) (dcons (dc (.int 0)) dnil))) dnil)) dnil)))))) (bV (d2 opNe (dL m_wrong_sets (dcons (dv 3) dnil)) (dL opLst (dcons (dL opTup dnil) dnil))))) (dRet (dc (.bl false))) dNx)
    (dSeq (dIfS (bV (d2 opNe (dL m_surely_wrong (dcons (dL opTup (dcons (dL opTup (dcons (dc (.int 4)) (dcons (dc (.int 1)) (dcons (dc (.int 1)) dnil)))) (dcons (dL opTup (dcons (dc (.int 1)) (dcons (dc (.int 1)) (dcons (dc (.int 1)) dnil)))) (dcons (dL opTup (dcons (dc (.int 1)) (dcons (dc (.int 1)) (dcons (dc (.int 1)) dnil)))) dnil)))) dnil)) (dL opLst (dcons (dL opTup (dcons (dc (.int 0)) (dcons (dc (.int 0)) dnil))) dnil)))) (dRet (dc (.bl false))) dNx)
    (dSeq (dIfS (bV (d2 opNe (dL opLst (dcons (dL m_ring_at (dcons (dL opBells (dcons (dc (.int 4)) (dcons (dc (.int 6)) dnil))) (dcons (dc (.int 0)) dnil))) (dcons (dL m_ring_at (dcons (dL opBells (dcons (dc (.int 4)) (dcons (dc (.int 6)) dnil))) (dcons (dc (.int 4)) dnil))) (dcons (dL m_ring_at (dcons (dL opBells (dcons (dc (.int 7)) dnil)) (dcons (d2 opPow (dc (.int 10)) (dc (.int 12))) dnil))) dnil)))) (dL opLst (dcons (dc (.int 0)) (dcons (dc (.int 12)) (dcons (d2 opMul (dc (.int 7)) (d2 opPow (dc (.int 10)) (dc (.int 12)))) dnil)))))) (dRet (dc (.bl false))) dNx)
    (dRet (d2 opEq m_k30_c2 (dL opLst (dcons (dc (.int 4)) (dcons (dc (.int 12)) (dcons (dc (.int 1)) dnil)))))))))))))))
end Mi
namespace Mi
open DL
def bnd {α β : Type} (x : Option α) (f : α → Option β) : Option β := x.bind f
@[simp] theorem bnd_some {α β : Type} (x : α) (f : α → Option β) : bnd (some x) f = f x := (rfl)
@[simp] theorem bnd_none {α β : Type} (f : α → Option β) : bnd none f = none := (rfl)
section
variable {ρ : Rho} {x y z : D}
@[simp] theorem p_dc : dc x ρ = some x := (rfl)
@[simp] theorem p_dv (i : Nat) : dv i ρ = lk ρ i := (rfl)
@[simp] theorem lk_z (a : Option D) (r : Rho) : lk (a :: r) 0 = a := (rfl)
@[simp] theorem lk_s (a : Option D) (r : Rho) (n : Nat) : lk (a :: r) (n + 1) = lk r n := (rfl)
@[simp] theorem st_z (a : Option D) (r : Rho) : st (a :: r) 0 x = some x :: r := (rfl)
@[simp] theorem st_s (a : Option D) (r : Rho) (n : Nat) : st (a :: r) (n + 1) x = a :: st r n x := (rfl)
@[simp] theorem un_z (a : Option D) (r : Rho) : un (a :: r) 0 = none :: r := (rfl)
@[simp] theorem un_s (a : Option D) (r : Rho) (n : Nat) : un (a :: r) (n + 1) = a :: un r n := (rfl)
@[simp] theorem wipe_n : wipeR ρ [] = ρ := (rfl)
@[simp] theorem wipe_c (v : Nat) (vs : List Nat) : wipeR ρ (v :: vs) = un (wipeR ρ vs) v := (rfl)
@[simp] theorem p_d2 (op : D → D → Option D) (f g : DF) : d2 op f g ρ = bnd (f ρ) fun x => bnd (g ρ) fun y => op x y := (rfl)
@[simp] theorem p_d1 (op : D → Option D) (f : DF) : d1 op f ρ = bnd (f ρ) op := (rfl)
@[simp] theorem p_dnil : dnil ρ = some [] := (rfl)
@[simp] theorem p_dcons (f : DF) (g : DFs) : dcons f g ρ = bnd (f ρ) fun x => bnd (g ρ) fun xs => some (x :: xs) := (rfl)
@[simp] theorem p_dL (op : List D → Option D) (f : DFs) : dL op f ρ = bnd (f ρ) op := (rfl)
@[simp] theorem p_asB (b : Bool) : asB (.bl b) = some b := (rfl)
@[simp] theorem p_asI (b : Int) : asI (.int b) = some b := (rfl)
@[simp] theorem p_asL (b : List D) : asL (.lst b) = some b := (rfl)
@[simp] theorem p_asSeqL (b : List D) : asSeq (.lst b) = some b := (rfl)
@[simp] theorem p_asSeqT (b : List D) : asSeq (.tup b) = some b := (rfl)
@[simp] theorem p_bV (f : DF) : bV f ρ = bnd (f ρ) asB := (rfl)
@[simp] theorem p_dB (g : DB) : dB g ρ = bnd (g ρ) fun b => some (.bl b) := (rfl)
@[simp] theorem p_bAnd (g h : DB) : bAnd g h ρ = bnd (g ρ) fun b => if b = true then h ρ else some false := (rfl)
@[simp] theorem p_bOr (g h : DB) : bOr g h ρ = bnd (g ρ) fun b => if b = true then some true else h ρ := (rfl)
@[simp] theorem p_bNot (g : DB) : bNot g ρ = bnd (g ρ) fun b => some (!b) := (rfl)
@[simp] theorem p_dIf (g : DB) (f h : DF) : dIf g f h ρ = bnd (g ρ) fun b => if b = true then f ρ else h ρ := (rfl)
@[simp] theorem p_dAnd (f g : DF) : dAnd f g ρ = bnd (f ρ) fun x => bnd (asB x) fun b => if b = true then g ρ else some (.bl false) := (rfl)
@[simp] theorem p_dOr (f g : DF) : dOr f g ρ = bnd (f ρ) fun x => bnd (asB x) fun b => if b = true then some (.bl true) else g ρ := (rfl)
@[simp] theorem p_dNot (f : DF) : dNot f ρ = bnd (f ρ) fun x => bnd (asB x) fun b => some (.bl (!b)) := (rfl)
@[simp] theorem p_dCh (o o' : D → D → Option D) (f g h : DF) : dCh o o' f g h ρ = bnd (f ρ) fun x => bnd (g ρ) fun y => bnd (o x y) fun z => bnd (asB z) fun k => if k = true then bnd (h ρ) fun w => o' y w else some (.bl false) := (rfl)
@[simp] theorem p_bYes : bYes ρ = some true := (rfl)
@[simp] theorem p_gN (i : Nat) : gN i x ρ = some (st ρ i x) := (rfl)
@[simp] theorem p_gT (h : DGs) (ds : List D) : gT h (.tup ds) ρ = h ds ρ := (rfl)
@[simp] theorem p_gsNil : gsNil [] ρ = some ρ := (rfl)
@[simp] theorem p_gsCons (g : DG) (h : DGs) (r : List D) : gsCons g h (x :: r) ρ = bnd (g x ρ) (h r) := (rfl)
@[simp] theorem p_dNx : dNx ρ = some (.nx ρ) := (rfl)
@[simp] theorem p_dRet (f : DF) : dRet f ρ = bnd (f ρ) fun d => some (.rt d) := (rfl)
@[simp] theorem p_dSet (i : Nat) (f : DF) : dSet i f ρ = bnd (f ρ) fun d => some (.nx (st ρ i d)) := (rfl)
@[simp] theorem p_dIfS (t : DB) (f g : DS) : dIfS t f g ρ = bnd (t ρ) fun b => if b = true then f ρ else g ρ := (rfl)
@[simp] theorem p_dAsg (g : DG) (f : DF) : dAsg g f ρ = bnd (f ρ) fun d => bnd (g d ρ) fun ρ' => some (.nx ρ') := (rfl)
@[simp] theorem p_dPar (i j : Nat) (f g : DF) : dPar i j f g ρ = bnd (f ρ) fun x => bnd (g ρ) fun y => some (.nx (st (st ρ i x) j y)) := (rfl)
@[simp] theorem p_dAug (i : Nat) (f : DF) : dAug i f ρ = bnd (lk ρ i) fun x => bnd (asI x) fun a => bnd (f ρ) fun y => bnd (asI y) fun b => some (.nx (st ρ i (.int (a + b)))) := (rfl)
@[simp] theorem p_dApp (i : Nat) (f : DF) : dApp i f ρ = bnd (f ρ) fun d => bnd (lk ρ i) fun x => bnd (asL x) fun ds => if ds.length < 16777216 then some (.nx (st ρ i (.lst (ds ++ [d])))) else none := (rfl)
@[simp] theorem p_dSetIx (i : Nat) (k f : DF) : dSetIx i k f ρ = bnd (f ρ) fun d => bnd (k ρ) fun j => bnd (asI j) fun n => bnd (lk ρ i) fun x => bnd (asL x) fun ds => bnd (ixNat ds.length n) fun m => some (.nx (st ρ i (.lst (ds.set m d)))) := (rfl)
@[simp] theorem p_nLst (f : DFs) : nLst f ρ = bnd (f ρ) fun ds => if ds.length ≤ 100000 then some ds else none := (rfl)
@[simp] theorem p_nRep (f g : DF) : nRep f g ρ = bnd (f ρ) fun x => bnd (asL x) fun ds => bnd (g ρ) fun y => bnd (asI y) fun k => if k ≤ 16777216 ∧ -16777216 ≤ k ∧ ds.length * k.toNat ≤ 16777216 then some (List.replicate k.toNat ds).flatten else none := (rfl)
@[simp] theorem p_nOf (f : DF) : nOf f ρ = bnd (f ρ) asSeq := (rfl)
@[simp] theorem p_dSetN (i : Nat) (f : DFs) : dSetN i f ρ = bnd (f ρ) fun ds => some (.nx (st ρ i (.lst ds))) := (rfl)
@[simp] theorem p_dParN1 (i j : Nat) (f : DFs) (g : DF) : dParN1 i j f g ρ = bnd (f ρ) fun ds => bnd (g ρ) fun y => some (.nx (st (st ρ i (.lst ds)) j y)) := (rfl)
@[simp] theorem p_dParNN (i j : Nat) (f g : DFs) : dParNN i j f g ρ = bnd (f ρ) fun ds => bnd (g ρ) fun es => some (.nx (st (st ρ i (.lst ds)) j (.lst es))) := (rfl)
@[simp] theorem p_iSeq (f : DF) : iSeq f ρ = bnd (f ρ) asSeq := (rfl)
@[simp] theorem p_iRng1 (f : DFs) : iRng1 f ρ = bnd (f ρ) opRng1 := (rfl)
@[simp] theorem p_iRng2 (f : DFs) : iRng2 f ρ = bnd (f ρ) opRng2 := (rfl)
@[simp] theorem p_oNo : oNo ρ = some none := (rfl)
@[simp] theorem p_oIx (f : DF) : oIx f ρ = bnd (f ρ) fun d => bnd (asIx d) fun i => some (some i) := (rfl)
@[simp] theorem p_dSl (f : DF) (l u : DOx) : dSl f l u ρ = bnd (f ρ) fun x => bnd (l ρ) fun lo => bnd (u ρ) fun hi => opSl lo hi x := (rfl)
@[simp] theorem p_asIx (i : Int) : asIx (.int i) = some i := (rfl)
@[simp] theorem p_opTup (ds : List D) : opTup ds = if ds.length ≤ 100000 then some (.tup ds) else none := (rfl)
@[simp] theorem p_opLst (ds : List D) : opLst ds = if ds.length ≤ 100000 then some (.lst ds) else none := (rfl)
@[simp] theorem p_lenT (ds : List D) : opLen [.tup ds] = some (.int ds.length) := (rfl)
@[simp] theorem p_lenL (ds : List D) : opLen [.lst ds] = some (.int ds.length) := (rfl)
@[simp] theorem p_lenS (ds : List Int) : opLen [.scr ds] = some (.int ds.length) := (rfl)
@[simp] theorem p_tupT (ds : List D) : opTuple [.tup ds] = some (.tup ds) := (rfl)
@[simp] theorem p_tupL (ds : List D) : opTuple [.lst ds] = some (.tup ds) := (rfl)
@[simp] theorem p_add (a b : Int) : opAdd (.int a) (.int b) = some (.int (a + b)) := (rfl)
@[simp] theorem p_sub (a b : Int) : opSub (.int a) (.int b) = some (.int (a - b)) := (rfl)
@[simp] theorem p_mul (a b : Int) : opMul (.int a) (.int b) = if mulOk a b = true then some (.int (a * b)) else none := (rfl)
@[simp] theorem p_lt (a b : Int) : opLt (.int a) (.int b) = some (.bl (decide (a < b))) := (rfl)
@[simp] theorem p_le (a b : Int) : opLe (.int a) (.int b) = some (.bl (decide (a ≤ b))) := (rfl)
@[simp] theorem p_gt (a b : Int) : opGt (.int a) (.int b) = some (.bl (decide (b < a))) := (rfl)
@[simp] theorem p_ge (a b : Int) : opGe (.int a) (.int b) = some (.bl (decide (b ≤ a))) := (rfl)
@[simp] theorem p_eqI (a b : Int) : opEq (.int a) (.int b) = some (.bl (decide (a = b))) := by
  by_cases h : a = b <;> simp [opEq, okD, eqD, h]
@[simp] theorem p_neI (a b : Int) : opNe (.int a) (.int b) = some (.bl (!decide (a = b))) := by
  by_cases h : a = b <;> simp [opNe, okD, eqD, h]
theorem dec_cast {p q : Prop} [Decidable p] [Decidable q] (h : p ↔ q) : some (D.bl (decide p)) = some (D.bl (decide q)) := by simp only [h]
@[simp high] theorem p_eqN (a b : Nat) : opEq (.int (a : Int)) (.int (b : Int)) = some (.bl (decide (a = b))) := by rw [p_eqI]; exact dec_cast (by omega)
@[simp high] theorem p_neN (a b : Nat) : opNe (.int (a : Int)) (.int (b : Int)) = some (.bl (!decide (a = b))) := by
  rw [p_neI]
  have : ((a : Int) = (b : Int)) ↔ a = b := by omega
  simp only [this]
@[simp high] theorem p_ltN (a b : Nat) : opLt (.int (a : Int)) (.int (b : Int)) = some (.bl (decide (a < b))) := by rw [p_lt]; exact dec_cast (by omega)
@[simp high] theorem p_leN (a b : Nat) : opLe (.int (a : Int)) (.int (b : Int)) = some (.bl (decide (a ≤ b))) := by rw [p_le]; exact dec_cast (by omega)
@[simp high] theorem p_gtN (a b : Nat) : opGt (.int (a : Int)) (.int (b : Int)) = some (.bl (decide (b < a))) := by rw [p_gt]; exact dec_cast (by omega)
@[simp high] theorem p_geN (a b : Nat) : opGe (.int (a : Int)) (.int (b : Int)) = some (.bl (decide (b ≤ a))) := by rw [p_ge]; exact dec_cast (by omega)
@[simp] theorem p_isN (d : D) : opIs d .non = some (.bl (isNone d)) := by cases d <;> rfl
@[simp] theorem p_isnN (d : D) : opIsNot d .non = some (.bl (!isNone d)) := by cases d <;> rfl
@[simp] theorem p_isB (a b : Bool) : opIs (.bl a) (.bl b) = some (.bl (decide (a = b))) := (rfl)
@[simp] theorem p_isnB (a b : Bool) : opIsNot (.bl a) (.bl b) = some (.bl (!decide (a = b))) := (rfl)
@[simp] theorem p_isNone_n : isNone .non = true := (rfl)
@[simp] theorem p_isNone_i (i : Int) : isNone (.int i) = false := (rfl)
@[simp] theorem p_isNone_t (i : List D) : isNone (.tup i) = false := (rfl)
@[simp] theorem p_isNone_l (i : List D) : isNone (.lst i) = false := (rfl)
@[simp] theorem p_appL (a b : List D) : opAdd (.lst a) (.lst b) = if a.length + b.length ≤ 16777216 then some (.lst (a ++ b)) else none := (rfl)
@[simp] theorem p_appT (a b : List D) : opAdd (.tup a) (.tup b) = if a.length + b.length ≤ 16777216 then some (.tup (a ++ b)) else none := (rfl)
end
theorem b_mc {α β : Type} (f : α → β) (a : α) (l : List α) : List.map f (a :: l) = f a :: List.map f l := (rfl)
theorem b_mn {α β : Type} (f : α → β) : List.map f [] = [] := (rfl)
theorem b_ac {α : Type} (a : α) (l r : List α) : (a :: l) ++ r = a :: (l ++ r) := (rfl)
theorem b_an {α : Type} (r : List α) : ([] : List α) ++ r = r := (rfl)
theorem b_rs {α : Type} (n : Nat) (a : α) : List.replicate (n + 1) a = a :: List.replicate n a := (rfl)
theorem b_rz {α : Type} (a : α) : List.replicate 0 a = [] := (rfl)
theorem b_lc {α : Type} (a : α) (l : List α) : (a :: l).length = l.length + 1 := (rfl)
theorem b_ln {α : Type} : ([] : List α).length = 0 := (rfl)
theorem b_it {α : Type} (a b : α) : (if True then a else b) = a := by simp
theorem b_if {α : Type} (a b : α) : (if False then a else b) = b := by simp
theorem b_itt {α : Type} (a b : α) : (if true = true then a else b) = a := by simp
theorem b_iff {α : Type} (a b : α) : (if false = true then a else b) = b := by simp
theorem mod_i {a : Int} {b : Nat} (h : 0 < b) : opMod (.int a) (.int b) = some (.int (a % b)) := by
  have h' : (0 : Int) < b := by omega
  simp only [opMod, if_pos h']
theorem mul_i {a b : Int} (h : -18446744073709551616 < b) (h2 : b < 18446744073709551616) : opMul (.int a) (.int b) = some (.int (a * b)) := by
  have : mulOk a b = true := by simp [mulOk, h, h2]
  simp only [opMul, if_pos this]
theorem mul_j {a b : Int} (h : -18446744073709551616 < a) (h2 : a < 18446744073709551616) : opMul (.int a) (.int b) = some (.int (a * b)) := by
  have : mulOk a b = true := by simp [mulOk, h, h2]
  simp only [opMul, if_pos this]
theorem mod_n {a b : Nat} (h : 0 < b) : opMod (.int a) (.int b) = some (.int ((a % b : Nat) : Int)) := by
  have h' : (0 : Int) < b := by omega
  simp only [opMod, if_pos h']
  try rfl
theorem div_n {a b : Nat} (h : 0 < b) (h2 : b < 18446744073709551616) : opFdiv (.int a) (.int b) = some (.int ((a / b : Nat) : Int)) := by
  have h' : (0 : Int) < b := by omega
  have h3 : (b : Int) < 18446744073709551616 := by omega
  simp only [opFdiv, if_pos (And.intro h' h3)]
  try rfl
theorem mulOk_r {a b : Nat} (h : b < 18446744073709551616) : mulOk a b = true := by
  have h3 : (b : Int) < 18446744073709551616 := by omega
  have h4 : (-18446744073709551616 : Int) < b := by omega
  simp [mulOk, h3, h4]
theorem mul_n {a b : Nat} (h : b < 18446744073709551616) : opMul (.int a) (.int b) = some (.int ((a * b : Nat) : Int)) := by
  simp [mulOk_r h]
theorem ixN {n i : Nat} (h : i < n) : ixNat n (i : Int) = some i := by
  have h1 : (0 : Int) ≤ i := by omega
  have h2 : (i : Int) < n := by omega
  simp [ixNat, h2]
theorem ixL {xs : List D} {i : Nat} {d : D} (h : xs[i]? = some d) : opIx (.lst xs) (.int i) = some d := by
  have hl : i < xs.length := by
    apply Classical.byContradiction
    intro q
    rw [List.getElem?_eq_none (by omega)] at h
    cases h
  simp [opIx, ixN hl, h]
theorem rng1 {n : Nat} (h : n < 4611686018427387904) : opRng1 [.int n] = some ((List.range n).map fun (i : Nat) => D.int i) := by
  have h1 : (-4611686018427387904 : Int) ≤ n := by omega
  have h2 : (n : Int) < 4611686018427387904 := by omega
  simp [opRng1, h1, h2, rngD]
theorem seq_nx {f g : DS} {ρ ρ' : Rho} (h : f ρ = some (.nx ρ')) : dSeq f g ρ = g ρ' := by simp [dSeq, h]
@[simp] theorem p_dSeq (f g : DS) (ρ : Rho) : dSeq f g ρ = bnd (f ρ) fun r => match r with
  | .nx ρ' => g ρ'
  | .rt d => some (.rt d) := (rfl)
theorem run_rt {n a : Nat} {f : DS} {ds : List D} {d : D} (hl : ds.length = a) (h : f (ds.map some ++ List.replicate (n - a) none) = some (.rt d)) : runD n a f ds = some d := by
  simp [runD, hl, h]
theorem for_eq {it : DFs} {g : DG} {b : DS} {ρ : Rho} {ds : List D} (h : it ρ = some ds) : dFor it g b ρ = forL g b ds ρ := by simp [dFor, h]
/-- by an invariant of what is done so far -/
theorem for_pre {α : Type} {g : DG} {b : DS} (e : α → D) (P : List α → Rho → Prop) (xs : List α) {ρ : Rho} (hs : ∀ l x r, xs = l ++ x :: r → ∀ ρ, P l ρ → ∃ ρ1, g (e x) ρ = some ρ1 ∧ ∃ ρ2, b ρ1 = some (.nx ρ2) ∧ P (l ++ [x]) ρ2) (h : P [] ρ) :
    ∃ ρ', forL g b (xs.map e) ρ = some (.nx ρ') ∧ P xs ρ' := by
  have gen : ∀ (r l : List α) (ρ : Rho), xs = l ++ r → P l ρ → ∃ ρ', forL g b (r.map e) ρ = some (.nx ρ') ∧ P xs ρ' := by
    intro r
    induction r with
    | nil =>
      intro l ρ q hp
      rw [List.append_nil] at q
      subst q
      exact ⟨ρ, rfl, hp⟩
    | cons x r ih =>
      intro l ρ q hp
      obtain ⟨ρ1, h1, ρ2, h2, h3⟩ := hs l x r q ρ hp
      obtain ⟨ρ', h4, h5⟩ := ih (l ++ [x]) ρ2 (by rw [q]; simp) h3
      exact ⟨ρ', by rw [List.map_cons]; simp [forL, h1, h2, h4], h5⟩
  exact gen xs [] ρ rfl h
/-- over a range, by an invariant -/
theorem for_range {g : DG} {b : DS} (e : Nat → D) (P : Nat → Rho → Prop) (n : Nat) (hs : ∀ i, i < n → ∀ ρ, P i ρ → ∃ ρ1, g (e i) ρ = some ρ1 ∧ ∃ ρ2, b ρ1 = some (.nx ρ2) ∧ P (i + 1) ρ2) {ρ : Rho} (h : P 0 ρ) :
    ∃ ρ', forL g b ((List.range n).map e) ρ = some (.nx ρ') ∧ P n ρ' := by
  have gen : ∀ (k s : Nat) (ρ : Rho), s + k = n → P s ρ → ∃ ρ', forL g b ((List.range' s k).map e) ρ = some (.nx ρ') ∧ P n ρ' := by
    intro k
    induction k with
    | zero =>
      intro s ρ e hp
      have : s = n := by omega
      subst this
      exact ⟨ρ, rfl, hp⟩
    | succ k ih =>
      intro s ρ e' hp
      obtain ⟨ρ1, h1, ρ2, h2, h3⟩ := hs s (by omega) ρ hp
      obtain ⟨ρ', h4, h5⟩ := ih (s + 1) ρ2 (by omega) h3
      refine ⟨ρ', ?_, h5⟩
      rw [List.range'_succ, List.map_cons]
      simp [forL, h1, h2, h4]
  rw [List.range_eq_range']
  exact gen n 0 ρ (by omega) h
theorem while_m {t : DB} {b : DS} (P : Nat → Rho → Prop) (Q : Rho → Prop) (hs : ∀ k ρ, P k ρ → ∃ c, t ρ = some c ∧ (c = true → ∃ k' ρ', k' < k ∧ b ρ = some (.nx ρ') ∧ P k' ρ') ∧ (c = false → Q ρ)) :
    ∀ (n k : Nat) (ρ : Rho), k < n → P k ρ → ∃ ρ', whileN t b n ρ = some (.nx ρ') ∧ Q ρ'
  | 0, k, ρ, hk, _ => by omega
  | n + 1, k, ρ, hk, h => by
    obtain ⟨c, h1, h2, h3⟩ := hs k ρ h
    cases c with
    | false => exact ⟨ρ, by simp [whileN, h1], h3 rfl⟩
    | true =>
      obtain ⟨k', ρ', h4, h5, h6⟩ := h2 rfl
      obtain ⟨ρ2, h7, h8⟩ := while_m P Q hs n k' ρ' (by omega) h6
      exact ⟨ρ2, by simp [whileN, h1, h5, h7], h8⟩
theorem dWhile_m {t : DB} {b : DS} (P : Nat → Rho → Prop) (Q : Rho → Prop) {k : Nat} {ρ : Rho} (h : P k ρ) (hk : k < 1000000000000000000000000000000) (hs : ∀ k ρ, P k ρ → ∃ c, t ρ = some c ∧ (c = true → ∃ k' ρ', k' < k ∧ b ρ = some (.nx ρ') ∧ P k' ρ') ∧ (c = false → Q ρ)) :
    ∃ ρ', dWhile t b ρ = some (.nx ρ') ∧ Q ρ' := by
  unfold dWhile
  exact while_m P Q hs FUEL k ρ (by unfold FUEL; exact hk) h
theorem compL_map {α : Type} {g : DG} {t : DB} {e : DF} {ρ : Rho} (en : α → D) (p : α → Bool) (q : α → D) : ∀ (xs : List α),
    (∀ x ∈ xs, ∃ ρ1, g (en x) ρ = some ρ1 ∧ t ρ1 = some (p x) ∧ (p x = true → e ρ1 = some (q x))) → compL g t e ρ (xs.map en) = some ((xs.filter p).map q)
  | [], _ => rfl
  | x :: xs, hs => by
    obtain ⟨ρ1, h1, h2, h3⟩ := hs x List.mem_cons_self
    have ih := compL_map en p q xs fun y hy => hs y (List.mem_cons_of_mem _ hy)
    cases hp : p x with
    | true => simp [compL, h1, h2, hp, h3 hp, ih]
    | false => simp [compL, h1, h2, hp, ih]
theorem compL_all {α : Type} {g : DG} {e : DF} {ρ : Rho} (en : α → D) (q : α → D) (xs : List α)
    (hs : ∀ x ∈ xs, ∃ ρ1, g (en x) ρ = some ρ1 ∧ e ρ1 = some (q x)) : compL g bYes e ρ (xs.map en) = some (xs.map q) := by
  rw [compL_map en (fun _ => true) q xs fun x hx => by
    obtain ⟨ρ1, h1, h2⟩ := hs x hx
    exact ⟨ρ1, h1, rfl, fun _ => h2⟩]
  rw [List.filter_eq_self.mpr (fun _ _ => rfl)]
/-- a comprehension, without an if -/
theorem comp_all {α : Type} {it : DFs} {g : DG} {e : DF} {vs : List Nat} {ρ : Rho} (en : α → D) (q : α → D) (xs : List α) (hi : it ρ = some (xs.map en)) (hl : xs.length ≤ 16777216)
    (hs : ∀ x ∈ xs, ∃ ρ1, g (en x) (wipeR ρ vs) = some ρ1 ∧ e ρ1 = some (q x)) : dComp it g bYes e vs ρ = some (.lst (xs.map q)) := by
  unfold dComp
  rw [hi]
  simp only [Option.bind_some]
  rw [compL_all en q xs hs]
  simp [lstOk, hl]
theorem asBls_map {α : Type} (p : α → Bool) : ∀ xs : List α, asBls (xs.map fun x => .bl (p x)) = some (xs.map p)
  | [] => rfl
  | x :: xs => by simp [asBls, asBls_map p xs]
theorem asInts_map {α : Type} (p : α → Int) : ∀ xs : List α, asInts (xs.map fun x => .int (p x)) = some (xs.map p)
  | [] => rfl
  | x :: xs => by simp [asInts, asInts_map p xs]
@[simp] theorem p_eqB (a b : Bool) : opEq (.bl a) (.bl b) = some (.bl (decide (a = b))) := by cases a <;> cases b <;> rfl
@[simp] theorem p_neB (a b : Bool) : opNe (.bl a) (.bl b) = some (.bl (!decide (a = b))) := by cases a <;> cases b <;> rfl
mutual
def sameD : D → D → Bool
  | .non, .non => true
  | .bl a, .bl b => a == b
  | .int i, .int j => i == j
  | .str x, .str y => decide (x = y)
  | .tup xs, .tup ys => sameDs xs ys
  | .lst xs, .lst ys => sameDs xs ys
  | _, _ => false
def sameDs : List D → List D → Bool
  | [], [] => true
  | x :: xs, y :: ys => sameD x y && sameDs xs ys
  | _, _ => false
end
mutual
theorem sameD_eq : ∀ (x y : D), sameD x y = true → x = y
  | .non, y, h => by cases y <;> first | rfl | (simp [sameD] at h)
  | .bl a, y, h => by cases y <;> simp [sameD] at h <;> rw [h]
  | .int a, y, h => by cases y <;> simp [sameD] at h <;> rw [h]
  | .str a, y, h => by cases y <;> simp [sameD] at h <;> rw [h]
  | .tup a, y, h => by
    cases y <;> simp [sameD] at h
    rw [sameDs_eq _ _ h]
  | .lst a, y, h => by
    cases y <;> simp [sameD] at h
    rw [sameDs_eq _ _ h]
  | .bell a, y, h => by cases y <;> simp [sameD] at h
  | .scr a, y, h => by cases y <;> simp [sameD] at h
theorem sameDs_eq : ∀ (x y : List D), sameDs x y = true → x = y
  | [], [], _ => rfl
  | [], _ :: _, h => by simp [sameDs] at h
  | _ :: _, [], h => by simp [sameDs] at h
  | x :: xs, y :: ys, h => by
    simp only [sameDs, Bool.and_eq_true] at h
    rw [sameD_eq x y h.1, sameDs_eq xs ys h.2]
end
def sameO : Option D → D → Bool
  | some x, y => sameD x y
  | none, _ => false
theorem sameO_eq {x : Option D} {y : D} (h : sameO x y = true) : x = some y := by
  cases x with
  | none => cases h
  | some x => rw [sameD_eq x y h]
end Mi
namespace Mi
open DL
def eO : Option Nat → D
  | none => .non
  | some n => .int n
def eV (m : Nat) (f : Nat → Nat) : D := .tup ((List.range m).map fun i => .int (f i))
def eR (w : Nat) (f : Nat → Option Nat) : D := .tup ((List.range w).map fun j => eO (f j))
def eT (m w : Nat) (T : Nat → Nat → Option Nat) : D := .tup ((List.range m).map fun i => eR w (T i))
def eL (l : List Nat) : D := .lst (l.map fun n => .int (n : Nat))
@[simp] theorem len_eT (m w : Nat) (T : Nat → Nat → Option Nat) : opLen [eT m w T] = some (.int m) := by simp [eT]
@[simp] theorem len_eR (w : Nat) (T : Nat → Option Nat) : opLen [eR w T] = some (.int w) := by simp [eR]
@[simp] theorem len_eV (w : Nat) (T : Nat → Nat) : opLen [eV w T] = some (.int w) := by simp [eV]
@[simp] theorem isNone_eO (x : Option Nat) : isNone (eO x) = x.isNone := by cases x <;> rfl
@[simp] theorem seq_eT (m w : Nat) (T : Nat → Nat → Option Nat) : asSeq (eT m w T) = some ((List.range m).map fun i => eR w (T i)) := rfl
@[simp] theorem seq_eR (w : Nat) (T : Nat → Option Nat) : asSeq (eR w T) = some ((List.range w).map fun j => eO (T j)) := rfl
@[simp] theorem seq_eV (w : Nat) (T : Nat → Nat) : asSeq (eV w T) = some ((List.range w).map fun j => .int (T j)) := rfl
@[simp] theorem seq_eL (l : List Nat) : asSeq (eL l) = some (l.map fun n => .int (n : Nat)) := rfl
@[simp] theorem eO_some (n : Nat) : eO (some n) = .int n := rfl
@[simp] theorem eO_none : eO none = .non := rfl
theorem gcd_step {a b : Nat} (h : 0 < b) : Nat.gcd b (a % b) = Nat.gcd a b := by
  rw [Nat.gcd_comm b, ← Nat.gcd_rec, Nat.gcd_comm]
theorem gcd_loop (ds : DF) {a b : Nat} (hb : b < 1000000000000000000000000000000) :
    ∃ ρ', dWhile (bV (d2 opGt (dv 1) (dc (.int 0)))) m_gcd_b1 [some (.int a), some (.int b)] = some (.nx ρ') ∧ ρ' = [some (.int (Nat.gcd a b)), some (.int 0)] := by
  refine dWhile_m (fun k ρ => ∃ x y : Nat, ρ = [some (.int x), some (.int y)] ∧ y = k ∧ Nat.gcd x y = Nat.gcd a b) _ (k := b) ⟨a, b, rfl, rfl, rfl⟩ hb ?_
  rintro k ρ ⟨x, y, rfl, rfl, hg⟩
  refine ⟨decide (0 < y), by simp, ?_, ?_⟩
  · intro h
    have h := of_decide_eq_true h
    refine ⟨x % y, [some (.int y), some (.int ((x % y : Nat) : Int))], Nat.mod_lt _ h, by simp [m_gcd_b1, mod_n h], y, x % y, rfl, rfl, ?_⟩
    rw [gcd_step h, hg]
  · intro h
    have h := of_decide_eq_false h
    have : y = 0 := by omega
    subst this
    rw [Nat.gcd_zero_right] at hg
    rw [hg]
    rfl
theorem gcd_m {a b : Nat} (hb : b < 1000000000000000000000000000000) : m_gcd [.int a, .int b] = some (.int (Nat.gcd a b)) := by
  obtain ⟨ρ', h, e⟩ := gcd_loop (dv 0) (a := a) hb
  refine run_rt rfl ?_
  show dSeq _ _ [some (.int a), some (.int b)] = _
  rw [seq_nx h, e]
  simp
theorem div_gcd_mul {a b : Nat} (hg0 : 0 < Nat.gcd a b) : a / a.gcd b * b = a.lcm b := by
  unfold Nat.lcm
  rw [Nat.mul_comm, ← Nat.mul_div_assoc _ (Nat.gcd_dvd_left a b), Nat.mul_comm]
theorem lcm_m {a b : Nat} (ha : 0 < a) (hb : b < 18446744073709551616) (hg : Nat.gcd a b < 18446744073709551616) : m_lcm [.int a, .int b] = some (.int (Nat.lcm a b)) := by
  have hg0 : 0 < Nat.gcd a b := Nat.gcd_pos_of_pos_left _ ha
  have h1 := mul_n (a := a / Nat.gcd a b) hb
  have h2 := gcd_m (a := a) (b := b) (by omega)
  have h3 := div_n (a := a) hg0 hg
  refine run_rt rfl ?_
  rw [div_gcd_mul hg0] at h1
  simp only [p_dRet, p_d2, p_dL, p_dcons, p_dnil, p_dv, lk_z, lk_s, List.map_cons, List.map_nil, List.cons_append, bnd_some, h1, h2, h3]
def gStep (f : Nat → Option Nat) (g j : Nat) : Nat := match f j with
  | none => g
  | some e => Nat.gcd e g
def gRow (w : Nat) (f : Nat → Option Nat) : Nat := (List.range w).foldl (gStep f) 0
def kpRow (w : Nat) (T : Nat → Nat → Option Nat) (i : Nat) : List (Nat × Nat) := ((List.range w).filter fun j => (T i j).isSome).map fun j => (i, j)
def kp (m w : Nat) (T : Nat → Nat → Option Nat) : List (Nat × Nat) := (List.range m).flatMap (kpRow w T)
abbrev gR (w : Nat) (T : Nat → Nat → Option Nat) (i : Nat) : Nat := gRow w (T i)
end Mi
namespace Mi
open DL
theorem cell_m {ns : List Int} (h : ns.length ≤ 63) {i : Nat} (hi : i ≤ 1000) : ∃ c : Int, m_law_cell [.scr ns, .int i] = some (.int c) := by
  have ix : ∀ j : Nat, j < ns.length → ∃ c, opIx (.scr ns) (.int j) = some (.int c) := fun j hj => ⟨ns[j], by simp [opIx, ixN hj, List.getElem?_eq_getElem hj]⟩
  by_cases h1 : i < ns.length
  · obtain ⟨c, hc⟩ := ix i h1
    have h2 : ((i : Int) < (ns.length : Int)) := by omega
    exact ⟨c, run_rt rfl (by simp only [bnd_some, bnd_none, p_dc, p_dv, lk_z, lk_s, st_z, st_s, un_z, un_s, wipe_n, wipe_c, p_d2, p_d1, p_dnil, p_dcons, p_dL, p_asB, p_asI, p_asL, p_asSeqL, p_asSeqT, p_bV, p_dB, p_bAnd, p_bOr, p_bNot, p_dIf, p_dAnd, p_dOr, p_dNot, p_dCh, p_bYes, p_gN, p_gT, p_gsNil, p_gsCons, p_dNx, p_dRet, p_dSet, p_dIfS, p_dAsg, p_dPar, p_dAug, p_dApp, p_dSetIx, p_nLst, p_nRep, p_nOf, p_dSetN, p_dParN1, p_dParNN, p_iSeq, p_iRng1, p_iRng2, p_oNo, p_oIx, p_dSl, p_asIx, p_opTup, p_opLst, p_lenT, p_lenL, p_lenS, p_tupT, p_tupL, p_add, p_sub, p_mul, p_lt, p_le, p_gt, p_ge, p_eqI, p_neI, p_isN, p_isnN, p_isB, p_isnB, p_isNone_n, p_isNone_i, p_isNone_t, p_isNone_l, p_appL, p_appT, b_mc, b_mn, b_ac, b_an, b_rs, b_rz, b_lc, b_ln, b_it, b_if, b_itt, b_iff, p_dSeq, p_eqB, p_neB, len_eT, len_eR, len_eV, isNone_eO, seq_eT, seq_eR, seq_eV, seq_eL, eO_some, eO_none, ↓p_eqN, ↓p_neN, ↓p_ltN, ↓p_leN, ↓p_gtN, ↓p_geN, decide_eq_true h1, hc])⟩
  · have h2 : ¬ ((i : Int) < (ns.length : Int)) := by omega
    by_cases h3 : ns.length = 0
    · have h4 : (ns.length : Int) = 0 := by omega
      have h5 := mul_j (a := 7919) (b := i) (by decide) (by decide)
      exact ⟨_, run_rt rfl (by simp only [bnd_some, bnd_none, p_dc, p_dv, lk_z, lk_s, st_z, st_s, un_z, un_s, wipe_n, wipe_c, p_d2, p_d1, p_dnil, p_dcons, p_dL, p_asB, p_asI, p_asL, p_asSeqL, p_asSeqT, p_bV, p_dB, p_bAnd, p_bOr, p_bNot, p_dIf, p_dAnd, p_dOr, p_dNot, p_dCh, p_bYes, p_gN, p_gT, p_gsNil, p_gsCons, p_dNx, p_dRet, p_dSet, p_dIfS, p_dAsg, p_dPar, p_dAug, p_dApp, p_dSetIx, p_nLst, p_nRep, p_nOf, p_dSetN, p_dParN1, p_dParNN, p_iSeq, p_iRng1, p_iRng2, p_oNo, p_oIx, p_dSl, p_asIx, p_opTup, p_opLst, p_lenT, p_lenL, p_lenS, p_tupT, p_tupL, p_add, p_sub, p_mul, p_lt, p_le, p_gt, p_ge, p_eqI, p_neI, p_isN, p_isnN, p_isB, p_isnB, p_isNone_n, p_isNone_i, p_isNone_t, p_isNone_l, p_appL, p_appT, b_mc, b_mn, b_ac, b_an, b_rs, b_rz, b_lc, b_ln, b_it, b_if, b_itt, b_iff, p_dSeq, p_eqB, p_neB, len_eT, len_eR, len_eV, isNone_eO, seq_eT, seq_eR, seq_eV, seq_eL, eO_some, eO_none, ↓p_eqN, ↓p_neN, ↓p_ltN, ↓p_leN, ↓p_gtN, ↓p_geN, decide_eq_false h1, decide_eq_true h4, h5]; rfl)⟩
    · have h4 : ¬ (ns.length : Int) = 0 := by omega
      have h5 := mul_j (a := 7919) (b := i) (by decide) (by decide)
      have h6 := mod_n (a := i) (b := ns.length) (by omega)
      obtain ⟨c, hc⟩ := ix (i % ns.length) (Nat.mod_lt _ (by omega))
      have h7 := mod_i (a := c) (b := 1000003) (by decide)
      exact ⟨_, run_rt rfl (by simp only [bnd_some, bnd_none, p_dc, p_dv, lk_z, lk_s, st_z, st_s, un_z, un_s, wipe_n, wipe_c, p_d2, p_d1, p_dnil, p_dcons, p_dL, p_asB, p_asI, p_asL, p_asSeqL, p_asSeqT, p_bV, p_dB, p_bAnd, p_bOr, p_bNot, p_dIf, p_dAnd, p_dOr, p_dNot, p_dCh, p_bYes, p_gN, p_gT, p_gsNil, p_gsCons, p_dNx, p_dRet, p_dSet, p_dIfS, p_dAsg, p_dPar, p_dAug, p_dApp, p_dSetIx, p_nLst, p_nRep, p_nOf, p_dSetN, p_dParN1, p_dParNN, p_iSeq, p_iRng1, p_iRng2, p_oNo, p_oIx, p_dSl, p_asIx, p_opTup, p_opLst, p_lenT, p_lenL, p_lenS, p_tupT, p_tupL, p_add, p_sub, p_mul, p_lt, p_le, p_gt, p_ge, p_eqI, p_neI, p_isN, p_isnN, p_isB, p_isnB, p_isNone_n, p_isNone_i, p_isNone_t, p_isNone_l, p_appL, p_appT, b_mc, b_mn, b_ac, b_an, b_rs, b_rz, b_lc, b_ln, b_it, b_if, b_itt, b_iff, p_dSeq, p_eqB, p_neB, len_eT, len_eR, len_eV, isNone_eO, seq_eT, seq_eR, seq_eV, seq_eL, eO_some, eO_none, ↓p_eqN, ↓p_neN, ↓p_ltN, ↓p_leN, ↓p_gtN, ↓p_geN, decide_eq_false h1, decide_eq_false h4, h5, h6, hc]; erw [h7]; simp only [bnd_some, bnd_none, p_dc, p_dv, lk_z, lk_s, st_z, st_s, un_z, un_s, wipe_n, wipe_c, p_d2, p_d1, p_dnil, p_dcons, p_dL, p_asB, p_asI, p_asL, p_asSeqL, p_asSeqT, p_bV, p_dB, p_bAnd, p_bOr, p_bNot, p_dIf, p_dAnd, p_dOr, p_dNot, p_dCh, p_bYes, p_gN, p_gT, p_gsNil, p_gsCons, p_dNx, p_dRet, p_dSet, p_dIfS, p_dAsg, p_dPar, p_dAug, p_dApp, p_dSetIx, p_nLst, p_nRep, p_nOf, p_dSetN, p_dParN1, p_dParNN, p_iSeq, p_iRng1, p_iRng2, p_oNo, p_oIx, p_dSl, p_asIx, p_opTup, p_opLst, p_lenT, p_lenL, p_lenS, p_tupT, p_tupL, p_add, p_sub, p_mul, p_lt, p_le, p_gt, p_ge, p_eqI, p_neI, p_isN, p_isnN, p_isB, p_isnB, p_isNone_n, p_isNone_i, p_isNone_t, p_isNone_l, p_appL, p_appT, b_mc, b_mn, b_ac, b_an, b_rs, b_rz, b_lc, b_ln, b_it, b_if, b_itt, b_iff, p_dSeq, p_eqB, p_neB, len_eT, len_eR, len_eV, isNone_eO, seq_eT, seq_eR, seq_eV, seq_eL, eO_some, eO_none, ↓p_eqN, ↓p_neN, ↓p_ltN, ↓p_leN, ↓p_gtN, ↓p_geN]; rfl)⟩
theorem mod_z {a b : Int} (h : 0 < b) : opMod (.int a) (.int b) = some (.int (a % b)) := by simp only [opMod, if_pos h]
theorem div_z {a b : Int} (h : 0 < b) (h3 : b < 18446744073709551616) : opFdiv (.int a) (.int b) = some (.int (a / b)) := by simp only [opFdiv, if_pos (And.intro h h3)]
def prD : List D := [.int 2147483647, .int 2147483629, .int 2147483587, .int 2147483579, .int 2147483563, .int 2147483549, .int 2147483543, .int 2147483497]
theorem prime_ix {r : Nat} (h : r < 8) : ∃ p : Int, opIx (.tup prD) (.int r) = some (.int p) ∧ 0 < p ∧ p < 4294967296 := by
  have : r = 0 ∨ r = 1 ∨ r = 2 ∨ r = 3 ∨ r = 4 ∨ r = 5 ∨ r = 6 ∨ r = 7 := by omega
  rcases this with e | e | e | e | e | e | e | e <;> subst e <;> exact ⟨_, rfl, by decide, by decide⟩
theorem pIx {k : Nat} {x : D} (h : opIx (.tup prD) (.int (k % 8 : Nat)) = some x) : (bnd (opMod (.int k) (.int 8)) fun y => opIx (.tup prD) y) = some x := by
  have : opMod (.int k) (.int 8) = some (.int (k % 8 : Nat)) := mod_n (b := 8) (by decide)
  rw [this]
  simp only [bnd_some, bnd_none, p_dc, p_dv, lk_z, lk_s, st_z, st_s, un_z, un_s, wipe_n, wipe_c, p_d2, p_d1, p_dnil, p_dcons, p_dL, p_asB, p_asI, p_asL, p_asSeqL, p_asSeqT, p_bV, p_dB, p_bAnd, p_bOr, p_bNot, p_dIf, p_dAnd, p_dOr, p_dNot, p_dCh, p_bYes, p_gN, p_gT, p_gsNil, p_gsCons, p_dNx, p_dRet, p_dSet, p_dIfS, p_dAsg, p_dPar, p_dAug, p_dApp, p_dSetIx, p_nLst, p_nRep, p_nOf, p_dSetN, p_dParN1, p_dParNN, p_iSeq, p_iRng1, p_iRng2, p_oNo, p_oIx, p_dSl, p_asIx, p_opTup, p_opLst, p_lenT, p_lenL, p_lenS, p_tupT, p_tupL, p_add, p_sub, p_mul, p_lt, p_le, p_gt, p_ge, p_eqI, p_neI, p_isN, p_isnN, p_isB, p_isnB, p_isNone_n, p_isNone_i, p_isNone_t, p_isNone_l, p_appL, p_appT, b_mc, b_mn, b_ac, b_an, b_rs, b_rz, b_lc, b_ln, b_it, b_if, b_itt, b_iff, p_dSeq, p_eqB, p_neB, len_eT, len_eR, len_eV, isNone_eO, seq_eT, seq_eR, seq_eV, seq_eL, eO_some, eO_none, ↓p_eqN, ↓p_neN, ↓p_ltN, ↓p_leN, ↓p_gtN, ↓p_geN, h]
theorem dig_body {s : D} {i k : Nat} {c base r cell : Int} {ds : List Nat} (x : Option D) (hi : i ≤ 1000) (hk : k ≤ 1000) (hd : ds.length ≤ 1000) (hb0 : 0 < base) (hb : base < 18446744073709551616) :
    ∃ d : Nat, (d : Int) < base ∧ ∃ r' m : Int, m_law_digits_b1 [some s, some (.int i), some (.int c), some (.int base), some (.tup prD), some (.int cell), some (.int r), some (eL ds), some (.int k), x] =
      some (.nx [some s, some (.int i), some (.int c), some (.int base), some (.tup prD), some (.int cell), some (.int r'), some (eL (ds ++ [d])), some (.int k), some (.int m)]) := by
  obtain ⟨p1, e1, a1, b1⟩ := prime_ix (r := k % 8) (by omega)
  obtain ⟨p2, e2, a2, b2⟩ := prime_ix (r := (3 * k + i) % 8) (by omega)
  obtain ⟨p3, e3, a3, b3⟩ := prime_ix (r := (k + 5) % 8) (by omega)
  have f1 := pIx e1
  have f2 := pIx e2
  have f3 := pIx e3
  have c2 : (((3 * k + i : Nat) : Int)) = 3 * (k : Int) + i := by omega
  have c3 : (((k + 5 : Nat) : Int)) = (k : Int) + 5 := by omega
  rw [c2] at f2
  rw [c3] at f3
  have g1 := mod_z (a := cell) a1
  have u0 : (0 : Int) ≤ k := by omega
  have v0 : (k : Int) ≤ 1000 := by omega
  have m1 := mul_j (a := 2) (b := k) (by decide) (by decide)
  have m2 := mul_i (a := 2 * (k : Int)) (b := k) (by omega) (by omega)
  have w1 := Int.emod_nonneg cell (b := p1) (by omega)
  have w2 := Int.emod_lt_of_pos cell a1
  have m3 := mul_j (a := cell % p1) (b := 48271 + 2 * (k : Int) * k) (by omega) (by omega)
  have m4 := mul_j (a := 7919) (b := (k : Int) + 1) (by decide) (by decide)
  have m5 := mul_i (a := 7919 * ((k : Int) + 1)) (b := (k : Int) + 1) (by omega) (by omega)
  have m6 := mul_j (a := 104729) (b := (i : Int)) (by decide) (by decide)
  have m7 := mul_j (a := 3) (b := (k : Int)) (by decide) (by decide)
  generalize hz : cell % p1 * (48271 + 2 * (k : Int) * k) = z at m3
  generalize hy : z + 7919 * ((k : Int) + 1) * ((k : Int) + 1) + 104729 * i = y
  have g2 := mod_z (a := y) a2
  have w3 := Int.emod_nonneg y (b := p2) (by omega)
  have w4 := Int.emod_lt_of_pos y a2
  generalize hx : y % p2 = q at g2 w3 w4
  have m8 := mul_j (a := q) (b := q) (by omega) (by omega)
  have m9 := mul_i (a := q * q) (b := q) (by omega) (by omega)
  have g3 := mod_z (a := q * q * q) a3
  have g5 := fun t => div_z (a := t) hb0 hb
  have g6 : ∀ t : Int, ∃ d : Nat, (d : Int) < base ∧ opMod (.int t) (.int base) = some (.int d) := fun t => by
    have h1 := Int.emod_nonneg t (b := base) (by omega)
    have h2 := Int.emod_lt_of_pos t hb0
    exact ⟨(t % base).toNat, by omega, by rw [mod_z hb0, Int.toNat_of_nonneg h1]⟩
  have hl : (ds.map fun n : Nat => D.int n).length < 16777216 := by rw [List.length_map]; omega
  unfold m_law_digits_b1
  by_cases hr : 0 < r
  · obtain ⟨d, hd1, hd2⟩ := g6 r
    refine ⟨d, hd1, r / base, r, ?_⟩
    simp only [bnd_some, bnd_none, p_dc, p_dv, lk_z, lk_s, st_z, st_s, un_z, un_s, wipe_n, wipe_c, p_d2, p_d1, p_dnil, p_dcons, p_dL, p_asB, p_asI, p_asL, p_asSeqL, p_asSeqT, p_bV, p_dB, p_bAnd, p_bOr, p_bNot, p_dIf, p_dAnd, p_dOr, p_dNot, p_dCh, p_bYes, p_gN, p_gT, p_gsNil, p_gsCons, p_dNx, p_dRet, p_dSet, p_dIfS, p_dAsg, p_dPar, p_dAug, p_dApp, p_dSetIx, p_nLst, p_nRep, p_nOf, p_dSetN, p_dParN1, p_dParNN, p_iSeq, p_iRng1, p_iRng2, p_oNo, p_oIx, p_dSl, p_asIx, p_opTup, p_opLst, p_lenT, p_lenL, p_lenS, p_tupT, p_tupL, p_add, p_sub, p_mul, p_lt, p_le, p_gt, p_ge, p_eqI, p_neI, p_isN, p_isnN, p_isB, p_isnB, p_isNone_n, p_isNone_i, p_isNone_t, p_isNone_l, p_appL, p_appT, b_mc, b_mn, b_ac, b_an, b_rs, b_rz, b_lc, b_ln, b_it, b_if, b_itt, b_iff, p_dSeq, p_eqB, p_neB, len_eT, len_eR, len_eV, isNone_eO, seq_eT, seq_eR, seq_eV, seq_eL, eO_some, eO_none, ↓p_eqN, ↓p_neN, ↓p_ltN, ↓p_leN, ↓p_gtN, ↓p_geN, f1, g1, m1, m2, m3, m4, m5, m6, hy, m7, f2, g2, m8, m9, f3, g3, decide_eq_true hr, hd2, g5, eL, if_pos hl, List.map_append]
  · obtain ⟨d, hd1, hd2⟩ := g6 (q * q * q % p3)
    refine ⟨d, hd1, r / base, q * q * q % p3, ?_⟩
    simp only [bnd_some, bnd_none, p_dc, p_dv, lk_z, lk_s, st_z, st_s, un_z, un_s, wipe_n, wipe_c, p_d2, p_d1, p_dnil, p_dcons, p_dL, p_asB, p_asI, p_asL, p_asSeqL, p_asSeqT, p_bV, p_dB, p_bAnd, p_bOr, p_bNot, p_dIf, p_dAnd, p_dOr, p_dNot, p_dCh, p_bYes, p_gN, p_gT, p_gsNil, p_gsCons, p_dNx, p_dRet, p_dSet, p_dIfS, p_dAsg, p_dPar, p_dAug, p_dApp, p_dSetIx, p_nLst, p_nRep, p_nOf, p_dSetN, p_dParN1, p_dParNN, p_iSeq, p_iRng1, p_iRng2, p_oNo, p_oIx, p_dSl, p_asIx, p_opTup, p_opLst, p_lenT, p_lenL, p_lenS, p_tupT, p_tupL, p_add, p_sub, p_mul, p_lt, p_le, p_gt, p_ge, p_eqI, p_neI, p_isN, p_isnN, p_isB, p_isnB, p_isNone_n, p_isNone_i, p_isNone_t, p_isNone_l, p_appL, p_appT, b_mc, b_mn, b_ac, b_an, b_rs, b_rz, b_lc, b_ln, b_it, b_if, b_itt, b_iff, p_dSeq, p_eqB, p_neB, len_eT, len_eR, len_eV, isNone_eO, seq_eT, seq_eR, seq_eV, seq_eL, eO_some, eO_none, ↓p_eqN, ↓p_neN, ↓p_ltN, ↓p_leN, ↓p_gtN, ↓p_geN, f1, g1, m1, m2, m3, m4, m5, m6, hy, m7, f2, g2, m8, m9, f3, g3, decide_eq_false hr, hd2, g5, eL, if_pos hl, List.map_append]
theorem digits_m {ns : List Int} (h : ns.length ≤ 63) {i count : Nat} {base : Int} (hi : i ≤ 1000) (hc : count ≤ 1000) (hb0 : 0 < base) (hb : base < 18446744073709551616) :
    ∃ ds : List Nat, ds.length = count ∧ (∀ d ∈ ds, (d : Int) < base) ∧ m_law_digits [.scr ns, .int i, .int count, .int base] = some (eL ds) := by
  obtain ⟨c, hcell⟩ := cell_m h hi
  have hgo : ∀ r : Int, ∃ ds : List Nat, ds.length = count ∧ (∀ d ∈ ds, (d : Int) < base) ∧ ∃ ρ', lk ρ' 7 = some (eL ds) ∧ forL (gN 8) m_law_digits_b1 ((List.range count).map fun i : Nat => D.int i) [some (.scr ns), some (.int i), some (.int count), some (.int base), some (.tup prD), some (.int c), some (.int r), some (.lst []), none, none] = some (.nx ρ') := by
    intro r
    obtain ⟨ρ', h1, ds, h2, h3, r', x, y, h4⟩ := for_range (g := gN 8) (b := m_law_digits_b1) (fun i : Nat => D.int i)
      (fun (k : Nat) (ρ : Rho) => ∃ ds : List Nat, ds.length = k ∧ (∀ d ∈ ds, (d : Int) < base) ∧ ∃ (r : Int) (x y : Option D), ρ = [some (.scr ns), some (.int i), some (.int count), some (.int base), some (.tup prD), some (.int c), some (.int r), some (eL ds), x, y]) count (by
        rintro k hk ρ ⟨ds, hl, hds, r, x, y, rfl⟩
        obtain ⟨d, hd, r', m, e⟩ := dig_body (s := .scr ns) (i := i) (k := k) (c := count) (base := base) (r := r) (cell := c) (ds := ds) y hi (by omega) (by omega) hb0 hb
        refine ⟨_, rfl, _, e, ds ++ [d], by simp [hl], ?_, r', _, _, rfl⟩
        intro z hz
        rcases List.mem_append.mp hz with q | q
        · exact hds z q
        · rw [List.mem_singleton.mp q]
          exact hd) (ρ := [some (.scr ns), some (.int i), some (.int count), some (.int base), some (.tup prD), some (.int c), some (.int r), some (.lst []), none, none]) ⟨[], rfl, by simp, r, none, none, rfl⟩
    exact ⟨ds, h2, h3, ρ', by rw [h4]; rfl, h1⟩
  have hp : opPow (.int 10) (.int 18) = some (.int 1000000000000000000) := rfl
  have hn : (iRng1 (dcons (dv 2) dnil)) = (iRng1 (dcons (dv 2) dnil)) := rfl
  have hr : ∀ r : Int, dFor (iRng1 (dcons (dv 2) dnil)) (gN 8) m_law_digits_b1 [some (.scr ns), some (.int i), some (.int count), some (.int base), some (.tup prD), some (.int c), some (.int r), some (.lst []), none, none] = forL (gN 8) m_law_digits_b1 ((List.range count).map fun i : Nat => D.int i) [some (.scr ns), some (.int i), some (.int count), some (.int base), some (.tup prD), some (.int c), some (.int r), some (.lst []), none, none] := by
    intro r
    exact for_eq (by simp only [bnd_some, bnd_none, p_dc, p_dv, lk_z, lk_s, st_z, st_s, un_z, un_s, wipe_n, wipe_c, p_d2, p_d1, p_dnil, p_dcons, p_dL, p_asB, p_asI, p_asL, p_asSeqL, p_asSeqT, p_bV, p_dB, p_bAnd, p_bOr, p_bNot, p_dIf, p_dAnd, p_dOr, p_dNot, p_dCh, p_bYes, p_gN, p_gT, p_gsNil, p_gsCons, p_dNx, p_dRet, p_dSet, p_dIfS, p_dAsg, p_dPar, p_dAug, p_dApp, p_dSetIx, p_nLst, p_nRep, p_nOf, p_dSetN, p_dParN1, p_dParNN, p_iSeq, p_iRng1, p_iRng2, p_oNo, p_oIx, p_dSl, p_asIx, p_opTup, p_opLst, p_lenT, p_lenL, p_lenS, p_tupT, p_tupL, p_add, p_sub, p_mul, p_lt, p_le, p_gt, p_ge, p_eqI, p_neI, p_isN, p_isnN, p_isB, p_isnB, p_isNone_n, p_isNone_i, p_isNone_t, p_isNone_l, p_appL, p_appT, b_mc, b_mn, b_ac, b_an, b_rs, b_rz, b_lc, b_ln, b_it, b_if, b_itt, b_iff, p_dSeq, p_eqB, p_neB, len_eT, len_eR, len_eV, isNone_eO, seq_eT, seq_eR, seq_eV, seq_eL, eO_some, eO_none, ↓p_eqN, ↓p_neN, ↓p_ltN, ↓p_leN, ↓p_gtN, ↓p_geN, rng1 (n := count) (by omega)])
  by_cases h1 : (1000000000000000000 : Int) ≤ c
  · obtain ⟨ds, h2, h3, ρ', h4, h5⟩ := hgo c
    refine ⟨ds, h2, h3, run_rt rfl ?_⟩
    have h6 := (hr c).trans h5
    unfold prD at h6
    simp only [bnd_some, bnd_none, p_dc, p_dv, lk_z, lk_s, st_z, st_s, un_z, un_s, wipe_n, wipe_c, p_d2, p_d1, p_dnil, p_dcons, p_dL, p_asB, p_asI, p_asL, p_asSeqL, p_asSeqT, p_bV, p_dB, p_bAnd, p_bOr, p_bNot, p_dIf, p_dAnd, p_dOr, p_dNot, p_dCh, p_bYes, p_gN, p_gT, p_gsNil, p_gsCons, p_dNx, p_dRet, p_dSet, p_dIfS, p_dAsg, p_dPar, p_dAug, p_dApp, p_dSetIx, p_nLst, p_nRep, p_nOf, p_dSetN, p_dParN1, p_dParNN, p_iSeq, p_iRng1, p_iRng2, p_oNo, p_oIx, p_dSl, p_asIx, p_opTup, p_opLst, p_lenT, p_lenL, p_lenS, p_tupT, p_tupL, p_add, p_sub, p_mul, p_lt, p_le, p_gt, p_ge, p_eqI, p_neI, p_isN, p_isnN, p_isB, p_isnB, p_isNone_n, p_isNone_i, p_isNone_t, p_isNone_l, p_appL, p_appT, b_mc, b_mn, b_ac, b_an, b_rs, b_rz, b_lc, b_ln, b_it, b_if, b_itt, b_iff, p_dSeq, p_eqB, p_neB, len_eT, len_eR, len_eV, isNone_eO, seq_eT, seq_eR, seq_eV, seq_eL, eO_some, eO_none, ↓p_eqN, ↓p_neN, ↓p_ltN, ↓p_leN, ↓p_gtN, ↓p_geN, hcell, hp, decide_eq_true h1, Nat.reduceLeDiff, Nat.reduceAdd, Nat.reduceSub, h6, h4]
  · obtain ⟨ds, h2, h3, ρ', h4, h5⟩ := hgo 0
    refine ⟨ds, h2, h3, run_rt rfl ?_⟩
    have h6 := (hr 0).trans h5
    unfold prD at h6
    simp only [bnd_some, bnd_none, p_dc, p_dv, lk_z, lk_s, st_z, st_s, un_z, un_s, wipe_n, wipe_c, p_d2, p_d1, p_dnil, p_dcons, p_dL, p_asB, p_asI, p_asL, p_asSeqL, p_asSeqT, p_bV, p_dB, p_bAnd, p_bOr, p_bNot, p_dIf, p_dAnd, p_dOr, p_dNot, p_dCh, p_bYes, p_gN, p_gT, p_gsNil, p_gsCons, p_dNx, p_dRet, p_dSet, p_dIfS, p_dAsg, p_dPar, p_dAug, p_dApp, p_dSetIx, p_nLst, p_nRep, p_nOf, p_dSetN, p_dParN1, p_dParNN, p_iSeq, p_iRng1, p_iRng2, p_oNo, p_oIx, p_dSl, p_asIx, p_opTup, p_opLst, p_lenT, p_lenL, p_lenS, p_tupT, p_tupL, p_add, p_sub, p_mul, p_lt, p_le, p_gt, p_ge, p_eqI, p_neI, p_isN, p_isnN, p_isB, p_isnB, p_isNone_n, p_isNone_i, p_isNone_t, p_isNone_l, p_appL, p_appT, b_mc, b_mn, b_ac, b_an, b_rs, b_rz, b_lc, b_ln, b_it, b_if, b_itt, b_iff, p_dSeq, p_eqB, p_neB, len_eT, len_eR, len_eV, isNone_eO, seq_eT, seq_eR, seq_eV, seq_eL, eO_some, eO_none, ↓p_eqN, ↓p_neN, ↓p_ltN, ↓p_leN, ↓p_gtN, ↓p_geN, hcell, hp, decide_eq_false h1, Nat.reduceLeDiff, Nat.reduceAdd, Nat.reduceSub, h6, h4]
end Mi
namespace Mi
open DL
theorem ix_eL {ds : List Nat} {k : Nat} (h : k < ds.length) : opIx (eL ds) (.int k) = some (.int (ds.getD k 0)) := by
  apply ixL
  simp [h]
@[simp] theorem len_eL (ds : List Nat) : opLen [eL ds] = some (.int ds.length) := by simp [eL]
theorem lcm_pos {a b : Nat} (ha : 0 < a) (hb : 0 < b) : 0 < Nat.lcm a b := Nat.lcm_pos ha hb
end Mi
namespace Mi
open DL
structure DvM (M : Nat) (T : Nat → Nat → Option Nat) : Prop where
  pos : 0 < M
  le : M ≤ 1000000000
  dvd : ∀ i j e, T i j = some e → e ∣ M
theorem DvM.bd {M : Nat} {T : Nat → Nat → Option Nat} (h : DvM M T) {i j e : Nat} (q : T i j = some e) : 0 < e ∧ e ≤ 1000000000 := by
  have h1 := h.dvd i j e q
  exact ⟨Nat.pos_of_dvd_of_pos h1 h.pos, Nat.le_trans (Nat.le_of_dvd h.pos h1) h.le⟩
end Mi
namespace Mi
open DL
end Mi
namespace Mi
open DL
end Mi
namespace Mi
open DL
end Mi
namespace Mi
open DL
end Mi
namespace Mi
open DL
end Mi
namespace Mi
open DL
def eI (v : List Nat) : D := .tup (v.map fun n => .int (n : Nat))
end Mi
namespace Mi
open DL
structure Cov (m w : Nat) (T : Nat → Nat → Option Nat) : Prop where
  row : ∀ i, i < m → ∃ j, j < w ∧ ∃ e, T i j = some e
  col : ∀ j, j < w → ∃ i, i < m ∧ ∃ e, T i j = some e
end Mi
namespace Mi
open DL
end Mi
namespace Mi
/-- how often p divides n -/
def ex (p n : Nat) : Nat := if h : 2 ≤ p ∧ 0 < n ∧ n % p = 0 then ex p (n / p) + 1 else 0
termination_by n
decreasing_by exact Nat.div_lt_self h.2.1 h.1
end Mi
namespace Mi
open DL
end Mi
namespace Mi
open DL
end Mi
namespace Mi
open DL
end Mi
namespace Mi
open DL
end Mi
namespace Mi
open DL
def Tv (T : Nat → Nat → Option Nat) (q : Nat × Nat) : Nat := (T q.1 q.2).getD 1
/-- what the sure parts are: the least numbers with the prime powers that only they can give -/
structure SureI (T : Nat → Nat → Option Nat) (R C : Nat → Nat) (Dn : Nat → Nat × Nat → Prop) (A B : Nat → Nat) : Prop where
  row : ∀ i d, A i ∣ d ↔ ∀ p q, Dn p q → q.1 = i → ex p (C q.2) < ex p (Tv T q) → p ^ ex p (Tv T q) ∣ d
  col : ∀ j d, B j ∣ d ↔ ∀ p q, Dn p q → q.2 = j → ex p (R q.1) < ex p (Tv T q) → p ^ ex p (Tv T q) ∣ d
def upd1 (A : Nat → Nat) (c : Bool) (i x : Nat) : Nat → Nat := fun k => if c = true ∧ k = i then Nat.lcm (A k) x else A k
theorem upd1_dvd (A : Nat → Nat) (c : Bool) (i x k d : Nat) : upd1 A c i x k ∣ d ↔ A k ∣ d ∧ (c = true → k = i → x ∣ d) := by
  unfold upd1
  by_cases h : c = true ∧ k = i
  · rw [if_pos h, Nat.lcm_dvd_iff]
    constructor
    · rintro ⟨a, b⟩; exact ⟨a, fun _ _ => b⟩
    · rintro ⟨a, b⟩; exact ⟨a, b h.1 h.2⟩
  · rw [if_neg h]
    constructor
    · intro a; exact ⟨a, fun h1 h2 => absurd ⟨h1, h2⟩ h⟩
    · intro a; exact a.1
theorem SureI.step {T : Nat → Nat → Option Nat} {R C A B : Nat → Nat} {Dn : Nat → Nat × Nat → Prop} (h : SureI T R C Dn A B) (p : Nat) (q : Nat × Nat) :
    SureI T R C (fun p' q' => Dn p' q' ∨ (p' = p ∧ q' = q)) (upd1 A (decide (ex p (C q.2) < ex p (Tv T q))) q.1 (p ^ ex p (Tv T q))) (upd1 B (decide (ex p (R q.1) < ex p (Tv T q))) q.2 (p ^ ex p (Tv T q))) := by
  constructor
  · intro i d
    rw [upd1_dvd, h.row]
    constructor
    · rintro ⟨h1, h2⟩ p' q' (hd | ⟨rfl, rfl⟩) hi hl
      · exact h1 p' q' hd hi hl
      · exact h2 (decide_eq_true hl) hi.symm
    · intro h1
      exact ⟨fun p' q' hd => h1 p' q' (Or.inl hd), fun h2 h3 => h1 p q (Or.inr ⟨rfl, rfl⟩) h3.symm (of_decide_eq_true h2)⟩
  · intro j d
    rw [upd1_dvd, h.col]
    constructor
    · rintro ⟨h1, h2⟩ p' q' (hd | ⟨rfl, rfl⟩) hi hl
      · exact h1 p' q' hd hi hl
      · exact h2 (decide_eq_true hl) hi.symm
    · intro h1
      exact ⟨fun p' q' hd => h1 p' q' (Or.inl hd), fun h2 h3 => h1 p q (Or.inr ⟨rfl, rfl⟩) h3.symm (of_decide_eq_true h2)⟩
end Mi
namespace Mi
open DL
def CVal (m w : Nat) (T : Nat → Nat → Option Nat) (j d : Nat) : Prop := ∀ i, i < m → ∀ e, T i j = some e → Nat.lcm (gR w T i) d = e
end Mi
namespace Mi
open DL
end Mi
namespace Mi
open DL
end Mi
namespace Mi
open DL
end Mi
namespace Mi
open DL
end Mi
namespace Mi
open DL
end Mi
namespace Mi
open DL
end Mi
namespace Mi
open DL
end Mi
namespace Mi
open DL
end Mi
namespace Mi
open DL
end Mi
namespace Mi
open DL
end Mi
namespace Mi
open DL
end Mi
namespace Mi
open DL
end Mi
namespace Mi
open DL
end Mi
namespace Mi
open DL
@[simp] theorem p_dOrT (f g : DF) (ρ : Rho) : dOrT f g ρ = bnd (f ρ) fun x => bnd (truI x) fun k => if k = true then some x else g ρ := (rfl)
end Mi
namespace Mi
open DL
end Mi
namespace Mi
open DL
end Mi
namespace Mi
open DL
end Mi
namespace Mi
open DL
end Mi
namespace Mi
open DL
/-- T with entries of V put in -/
def Fil (T V T' : Nat → Nat → Option Nat) : Prop := ∀ i j, T' i j = T i j ∨ (T i j = none ∧ T' i j = V i j)
theorem Fil.refl (T V : Nat → Nat → Option Nat) : Fil T V T := fun _ _ => Or.inl rfl
end Mi
namespace Mi
open DL
theorem lk_st_i : ∀ {ρ : Rho} {i : Nat} {d : D}, i < ρ.length → lk (st ρ i d) i = some d
  | [], i, d, h => absurd h (Nat.not_lt_zero i)
  | _ :: _, 0, _, _ => rfl
  | _ :: r, i + 1, d, h => lk_st_i (ρ := r) (i := i) (by simpa using h)
theorem lk_st_o {ρ : Rho} {i j : Nat} {d : D} (h : (j == i) = false) : lk (st ρ i d) j = lk ρ j := lk_st_ne (by simpa using h)
theorem lk_un_o {ρ : Rho} {i j : Nat} (h : (j == i) = false) : lk (un ρ i) j = lk ρ j := lk_un_ne (by simpa using h)
theorem len_st (ρ : Rho) (i : Nat) (d : D) : (st ρ i d).length = ρ.length := st_len ρ i d
theorem len_un (ρ : Rho) (i : Nat) : (un ρ i).length = ρ.length := un_len ρ i
/-- ρ' is ρ but at the slots ws -/
def Ag (ws : List Nat) (ρ ρ' : Rho) : Prop := ρ'.length = ρ.length ∧ ∀ j, j ∉ ws → lk ρ' j = lk ρ j
theorem Ag.refl (ws : List Nat) (ρ : Rho) : Ag ws ρ ρ := ⟨rfl, fun _ _ => rfl⟩
theorem Ag.st {ws : List Nat} {ρ ρ' : Rho} {i : Nat} {d : D} (h : Ag ws ρ ρ') (hi : i ∈ ws) : Ag ws ρ (st ρ' i d) :=
  ⟨(st_len ρ' i d).trans h.1, fun j hj => (lk_st_ne (fun e : j = i => hj (by rw [e]; exact hi))).trans (h.2 j hj)⟩
theorem Ag.trans {ws : List Nat} {a b c : Rho} (h : Ag ws a b) (h' : Ag ws b c) : Ag ws a c := ⟨h'.1.trans h.1, fun j hj => (h'.2 j hj).trans (h.2 j hj)⟩
theorem Ag.mono {ws vs : List Nat} {a b : Rho} (h : Ag ws a b) (hs : ∀ i ∈ ws, i ∈ vs) : Ag vs a b := ⟨h.1, fun j hj => h.2 j fun z => hj (hs j z)⟩
theorem Ag.lk {ws : List Nat} {a b : Rho} (h : Ag ws a b) (j : Nat) (hj : j ∉ ws) {x : Option D} (e : lk a j = x) : DL.lk b j = x := (h.2 j hj).trans e
theorem for_ag {b : DS} {i n : Nat} {ws : List Nat} {ρ : Rho} (e : Nat → D) (hi : i ∈ ws) (hl : i < ρ.length) (hb : ∀ k, k < n → ∀ ρ', Ag ws ρ ρ' → lk ρ' i = some (e k) → ∃ ρ'', b ρ' = some (.nx ρ'') ∧ Ag ws ρ ρ'') :
    ∃ ρ', forL (gN i) b ((List.range n).map e) ρ = some (.nx ρ') ∧ Ag ws ρ ρ' :=
  for_range (g := gN i) e (fun _ ρ' => Ag ws ρ ρ') n (fun k hk ρ' h => ⟨_, rfl, hb k hk _ (h.st hi) (lk_st_i (by rw [h.1]; exact hl))⟩) (Ag.refl ws ρ)
end Mi
namespace Mi
open DL
end Mi
namespace Mi
open DL
end Mi
namespace Mi
open DL
end Mi
namespace Mi
open DL
end Mi
namespace Mi
open DL
end Mi
namespace Mi
open DL
theorem for_agPre {α : Type} {b : DS} {i : Nat} {ws : List Nat} {ρ : Rho} (e : α → D) (P : List α → Rho → Prop) (xs : List α) (hi : i ∈ ws) (hl : i < ρ.length) (h0 : P [] ρ) (hst : ∀ pre ρ' d, P pre ρ' → P pre (st ρ' i d))
    (hb : ∀ pre x r, xs = pre ++ x :: r → ∀ ρ', Ag ws ρ ρ' → lk ρ' i = some (e x) → P pre ρ' → ∃ ρ'', b ρ' = some (.nx ρ'') ∧ Ag ws ρ ρ'' ∧ P (pre ++ [x]) ρ'') :
    ∃ ρ', forL (gN i) b (xs.map e) ρ = some (.nx ρ') ∧ Ag ws ρ ρ' ∧ P xs ρ' :=
  for_pre (g := gN i) e (fun pre ρ' => Ag ws ρ ρ' ∧ P pre ρ') xs (fun pre x r q ρ' h => ⟨_, rfl, hb pre x r q _ (h.1.st hi) (lk_st_i (by rw [h.1.1]; exact hl)) (hst pre ρ' _ h.2)⟩) ⟨Ag.refl ws ρ, h0⟩
end Mi
namespace Mi
open DL
theorem for_agTP {α : Type} {g : DG} {b : DS} {ws : List Nat} {ρ : Rho} (e : α → D) (P : List α → Rho → Prop) (xs : List α) (h0 : P [] ρ)
    (hb : ∀ pre x r, xs = pre ++ x :: r → ∀ ρ', Ag ws ρ ρ' → P pre ρ' → ∃ ρ1, g (e x) ρ' = some ρ1 ∧ ∃ ρ'', b ρ1 = some (.nx ρ'') ∧ Ag ws ρ ρ'' ∧ P (pre ++ [x]) ρ'') :
    ∃ ρ', forL g b (xs.map e) ρ = some (.nx ρ') ∧ Ag ws ρ ρ' ∧ P xs ρ' :=
  for_pre (g := g) e (fun pre ρ' => Ag ws ρ ρ' ∧ P pre ρ') xs (fun pre x r q ρ' h => hb pre x r q ρ' h.1 h.2) ⟨Ag.refl ws ρ, h0⟩
end Mi
namespace Mi
open DL
end Mi
namespace Mi
open DL
end Mi
namespace Mi
open DL
section
variable {m w M : Nat} {T : Nat → Nat → Option Nat} {A B : Nat → Nat} {p : Nat}
def Loc (m w : Nat) (T : Nat → Nat → Option Nat) (p : Nat) (x : Nat → Nat) : Prop := ∀ i j, i < m → j < w → ∀ e, T i j = some e → max (x i) (x (m + j)) = ex p e
end
end Mi
namespace Mi
open DL
end Mi
namespace Mi
open DL
end Mi
namespace Mi
open DL
end Mi
namespace Mi
open DL
end Mi
namespace Mi
open DL
end Mi
namespace Mi
open DL
end Mi
namespace Mi
open DL
end Mi
namespace Mi
open DL
end Mi
namespace Mi
open DL
end Mi
namespace Mi
open DL
end Mi
namespace Mi
open DL
end Mi
namespace Mi
open DL
end Mi
namespace Mi
open DL
end Mi
namespace Mi
open DL
theorem k21_g0 : (∀ v : Nat, v ∈ [6, 3, 2] → m_count_with [.tup [.tup [.int 12, .int 20], .tup [.int 6, .int 30]], .int 1, .int v] = some (.int (if v = 6 then 4 else if v = 3 then 1 else 0 : Nat))) := by
  intro v hv
  simp only [List.mem_cons, List.not_mem_nil, or_false] at hv
  rcases hv with rfl | rfl | rfl <;> exact sameO_eq (by decide +kernel)
theorem k21_g2 : m_number_share [.tup [.tup [.int 12, .int 20], .tup [.int 6, .int 30]], .int 1, .int 3] = some (.tup [.int 1, .int 5]) := sameO_eq (by decide +kernel)
theorem k21_g3 : m_likeliest [.tup [.tup [.int 12, .int 20], .tup [.int 6, .int 30]], .int 1] = some (.lst [.int 6]) := sameO_eq (by decide +kernel)
theorem k21_g4 : m_likeliest [.tup [.tup [.int 8]], .int 0] = some (.lst [.int 8]) := sameO_eq (by decide +kernel)
end Mi
namespace Mi
open DL
end Mi
namespace Mi
open DL
end Mi
namespace Mi
open DL
end Mi
namespace Mi
open DL
end Mi
namespace Mi
open DL
section
variable {m m' w M : Nat} {T : Nat → Nat → Option Nat} {A B A' B' : Nat → Nat}
theorem DvM.map (hM : DvM M T) (f : Nat → Nat) : DvM M (fun i j => T (f i) j) := ⟨hM.pos, hM.le, fun i j e he => hM.dvd (f i) j e he⟩
theorem Cov.map {f : Nat → Nat} (hc : Cov m w T) (hf : ∀ i, i < m' → f i < m) (hs : ∀ i, i < m → ∃ k, k < m' ∧ f k = i) : Cov m' w (fun i j => T (f i) j) := ⟨fun i hi => hc.row (f i) (hf i hi), fun j hj => by
  obtain ⟨i, hi, e, he⟩ := hc.col j hj
  obtain ⟨k, hk, rfl⟩ := hs i hi
  exact ⟨k, hk, e, he⟩⟩
end
end Mi
namespace Mi
open DL
end Mi
namespace Mi
open DL
end Mi
namespace Mi
open DL
end Mi
namespace Mi
open DL
end Mi
namespace Mi
open DL
end Mi
namespace Mi
open DL
end Mi
namespace Mi
open DL
end Mi
namespace Mi
open DL
end Mi
namespace Mi
open DL
theorem is_integer_m (i lo hi : Int) : m_is_integer [.int i, .int lo, .int hi] = some (.bl (decide (lo ≤ i) && decide (i ≤ hi))) := by
  have a1 : opIsi "int" (.int i) = some (.bl true) := rfl
  have a2 : opIsi "bool" (.int i) = some (.bl false) := rfl
  refine run_rt rfl ?_
  by_cases q : lo ≤ i
  · simp only [bnd_some, bnd_none, p_dc, p_dv, lk_z, lk_s, st_z, st_s, un_z, un_s, wipe_n, wipe_c, p_d2, p_d1, p_dnil, p_dcons, p_dL, p_asB, p_asI, p_asL, p_asSeqL, p_asSeqT, p_bV, p_dB, p_bAnd, p_bOr, p_bNot, p_dIf, p_dAnd, p_dOr, p_dNot, p_dCh, p_bYes, p_gN, p_gT, p_gsNil, p_gsCons, p_dNx, p_dRet, p_dSet, p_dIfS, p_dAsg, p_dPar, p_dAug, p_dApp, p_dSetIx, p_nLst, p_nRep, p_nOf, p_dSetN, p_dParN1, p_dParNN, p_iSeq, p_iRng1, p_iRng2, p_oNo, p_oIx, p_dSl, p_asIx, p_opTup, p_opLst, p_lenT, p_lenL, p_lenS, p_tupT, p_tupL, p_add, p_sub, p_mul, p_lt, p_le, p_gt, p_ge, p_eqI, p_neI, p_isN, p_isnN, p_isB, p_isnB, p_isNone_n, p_isNone_i, p_isNone_t, p_isNone_l, p_appL, p_appT, b_mc, b_mn, b_ac, b_an, b_rs, b_rz, b_lc, b_ln, b_it, b_if, b_itt, b_iff, p_dSeq, p_eqB, p_neB, len_eT, len_eR, len_eV, isNone_eO, seq_eT, seq_eR, seq_eV, seq_eL, eO_some, eO_none, len_eL, p_dOrT, ↓p_eqN, ↓p_neN, ↓p_ltN, ↓p_leN, ↓p_gtN, ↓p_geN, Nat.reduceSub, a1, a2, dCh, Option.bind_some, p_le, decide_eq_true q, Bool.true_and, Bool.not_false]
  · simp only [bnd_some, bnd_none, p_dc, p_dv, lk_z, lk_s, st_z, st_s, un_z, un_s, wipe_n, wipe_c, p_d2, p_d1, p_dnil, p_dcons, p_dL, p_asB, p_asI, p_asL, p_asSeqL, p_asSeqT, p_bV, p_dB, p_bAnd, p_bOr, p_bNot, p_dIf, p_dAnd, p_dOr, p_dNot, p_dCh, p_bYes, p_gN, p_gT, p_gsNil, p_gsCons, p_dNx, p_dRet, p_dSet, p_dIfS, p_dAsg, p_dPar, p_dAug, p_dApp, p_dSetIx, p_nLst, p_nRep, p_nOf, p_dSetN, p_dParN1, p_dParNN, p_iSeq, p_iRng1, p_iRng2, p_oNo, p_oIx, p_dSl, p_asIx, p_opTup, p_opLst, p_lenT, p_lenL, p_lenS, p_tupT, p_tupL, p_add, p_sub, p_mul, p_lt, p_le, p_gt, p_ge, p_eqI, p_neI, p_isN, p_isnN, p_isB, p_isnB, p_isNone_n, p_isNone_i, p_isNone_t, p_isNone_l, p_appL, p_appT, b_mc, b_mn, b_ac, b_an, b_rs, b_rz, b_lc, b_ln, b_it, b_if, b_itt, b_iff, p_dSeq, p_eqB, p_neB, len_eT, len_eR, len_eV, isNone_eO, seq_eT, seq_eR, seq_eV, seq_eL, eO_some, eO_none, len_eL, p_dOrT, ↓p_eqN, ↓p_neN, ↓p_ltN, ↓p_leN, ↓p_gtN, ↓p_geN, Nat.reduceSub, a1, a2, dCh, Option.bind_some, p_le, decide_eq_false q, Bool.false_and, Bool.not_false]
theorem init_test (ns : List Int) (h : bellOk ns = true) : m_init_t (none :: some (.tup (ns.map .int)) :: List.replicate (3 - 2) none) = some false := by
  unfold bellOk at h
  rw [Bool.and_eq_true, Bool.and_eq_true, decide_eq_true_eq, decide_eq_true_eq] at h
  obtain ⟨h1, h2, h3⟩ := h
  have c1 : m_init_c1 [none, some (.tup (ns.map .int)), none] = some (.lst (ns.map fun i => .bl (decide (1 ≤ i) && decide (i ≤ 1000)))) := by
    unfold m_init_c1
    rw [comp_all (fun i : Int => D.int i) (fun i => .bl (decide (1 ≤ i) && decide (i ≤ 1000))) ns (by simp only [bnd_some, bnd_none, p_dc, p_dv, lk_z, lk_s, st_z, st_s, un_z, un_s, wipe_n, wipe_c, p_d2, p_d1, p_dnil, p_dcons, p_dL, p_asB, p_asI, p_asL, p_asSeqL, p_asSeqT, p_bV, p_dB, p_bAnd, p_bOr, p_bNot, p_dIf, p_dAnd, p_dOr, p_dNot, p_dCh, p_bYes, p_gN, p_gT, p_gsNil, p_gsCons, p_dNx, p_dRet, p_dSet, p_dIfS, p_dAsg, p_dPar, p_dAug, p_dApp, p_dSetIx, p_nLst, p_nRep, p_nOf, p_dSetN, p_dParN1, p_dParNN, p_iSeq, p_iRng1, p_iRng2, p_oNo, p_oIx, p_dSl, p_asIx, p_opTup, p_opLst, p_lenT, p_lenL, p_lenS, p_tupT, p_tupL, p_add, p_sub, p_mul, p_lt, p_le, p_gt, p_ge, p_eqI, p_neI, p_isN, p_isnN, p_isB, p_isnB, p_isNone_n, p_isNone_i, p_isNone_t, p_isNone_l, p_appL, p_appT, b_mc, b_mn, b_ac, b_an, b_rs, b_rz, b_lc, b_ln, b_it, b_if, b_itt, b_iff, p_dSeq, p_eqB, p_neB, len_eT, len_eR, len_eV, isNone_eO, seq_eT, seq_eR, seq_eV, seq_eL, eO_some, eO_none, len_eL, p_dOrT, ↓p_eqN, ↓p_neN, ↓p_ltN, ↓p_leN, ↓p_gtN, ↓p_geN]) (by omega) (by
      intro i _
      have := is_integer_m i 1 1000
      refine ⟨_, rfl, ?_⟩
      simp only [bnd_some, bnd_none, p_dc, p_dv, lk_z, lk_s, st_z, st_s, un_z, un_s, wipe_n, wipe_c, p_d2, p_d1, p_dnil, p_dcons, p_dL, p_asB, p_asI, p_asL, p_asSeqL, p_asSeqT, p_bV, p_dB, p_bAnd, p_bOr, p_bNot, p_dIf, p_dAnd, p_dOr, p_dNot, p_dCh, p_bYes, p_gN, p_gT, p_gsNil, p_gsCons, p_dNx, p_dRet, p_dSet, p_dIfS, p_dAsg, p_dPar, p_dAug, p_dApp, p_dSetIx, p_nLst, p_nRep, p_nOf, p_dSetN, p_dParN1, p_dParNN, p_iSeq, p_iRng1, p_iRng2, p_oNo, p_oIx, p_dSl, p_asIx, p_opTup, p_opLst, p_lenT, p_lenL, p_lenS, p_tupT, p_tupL, p_add, p_sub, p_mul, p_lt, p_le, p_gt, p_ge, p_eqI, p_neI, p_isN, p_isnN, p_isB, p_isnB, p_isNone_n, p_isNone_i, p_isNone_t, p_isNone_l, p_appL, p_appT, b_mc, b_mn, b_ac, b_an, b_rs, b_rz, b_lc, b_ln, b_it, b_if, b_itt, b_iff, p_dSeq, p_eqB, p_neB, len_eT, len_eR, len_eV, isNone_eO, seq_eT, seq_eR, seq_eV, seq_eL, eO_some, eO_none, len_eL, p_dOrT, ↓p_eqN, ↓p_neN, ↓p_ltN, ↓p_leN, ↓p_gtN, ↓p_geN, this])]
  have al : opAll [.lst (ns.map fun i => .bl (decide (1 ≤ i) && decide (i ≤ 1000)))] = some (.bl true) := by
    show (asBls _).bind _ = _
    rw [asBls_map]
    simp only [Option.bind_some]
    have : (ns.map fun i => decide (1 ≤ i) && decide (i ≤ 1000)).all id = true := by
      rw [List.all_map]
      exact h3
    try simp only [this]
    try rfl
  have ln : opLen [.tup (ns.map D.int)] = some (.int (ns.length : Int)) := by simp
  have l1 : opLe (.int 1) (.int (ns.length : Int)) = some (.bl (decide (1 ≤ ns.length))) := p_leN 1 _
  have l2 : opLe (.int (ns.length : Int)) (.int 5) = some (.bl (decide (ns.length ≤ 5))) := p_leN _ 5
  rw [decide_eq_true h1] at l1
  rw [decide_eq_true h2] at l2
  show m_init_t [none, some (.tup (ns.map .int)), none] = some false
  unfold m_init_t
  simp only [bnd_some, bnd_none, p_dc, p_dv, lk_z, lk_s, st_z, st_s, un_z, un_s, wipe_n, wipe_c, p_d2, p_d1, p_dnil, p_dcons, p_dL, p_asB, p_asI, p_asL, p_asSeqL, p_asSeqT, p_bV, p_dB, p_bAnd, p_bOr, p_bNot, p_dIf, p_dAnd, p_dOr, p_dNot, p_dCh, p_bYes, p_gN, p_gT, p_gsNil, p_gsCons, p_dNx, p_dRet, p_dSet, p_dIfS, p_dAsg, p_dPar, p_dAug, p_dApp, p_dSetIx, p_nLst, p_nRep, p_nOf, p_dSetN, p_dParN1, p_dParNN, p_iSeq, p_iRng1, p_iRng2, p_oNo, p_oIx, p_dSl, p_asIx, p_opTup, p_opLst, p_lenT, p_lenL, p_lenS, p_tupT, p_tupL, p_add, p_sub, p_mul, p_lt, p_le, p_gt, p_ge, p_eqI, p_neI, p_isN, p_isnN, p_isB, p_isnB, p_isNone_n, p_isNone_i, p_isNone_t, p_isNone_l, p_appL, p_appT, b_mc, b_mn, b_ac, b_an, b_rs, b_rz, b_lc, b_ln, b_it, b_if, b_itt, b_iff, p_dSeq, p_eqB, p_neB, len_eT, len_eR, len_eV, isNone_eO, seq_eT, seq_eR, seq_eV, seq_eL, eO_some, eO_none, len_eL, p_dOrT, ↓p_eqN, ↓p_neN, ↓p_ltN, ↓p_leN, ↓p_gtN, ↓p_geN, dCh, Option.bind_some, ln, ↓l1, ↓l2, c1, al, Bool.not_true]
  try rfl
def hS : Nat → (Nat → Int) → Int
  | 0, f => f 0
  | r + 1, f => hS r f + hS r fun c => f (c + 1)
def fR (c : Nat) : Int := if c = 0 then 0 else if c % 2 = 1 then 1 else -1
/-- the sets of bells: how many, and after how long they meet -/
def meet (ps : List Nat) : List (Nat × Nat) := ps.foldl (fun L p => L ++ L.map fun s => (s.1 + 1, Nat.lcm s.2 p)) [(0, 1)]
theorem meet_snoc (ps : List Nat) (p : Nat) : meet (ps ++ [p]) = meet ps ++ (meet ps).map fun s => (s.1 + 1, Nat.lcm s.2 p) := by
  unfold meet
  rw [List.foldl_append]
  rfl
/-- sums -/
def sumI {α : Type} (L : List α) (g : α → Int) : Int := (L.map g).sum
theorem sumI_append {α : Type} (L M : List α) (g : α → Int) : sumI (L ++ M) g = sumI L g + sumI M g := by
  unfold sumI
  rw [List.map_append, List.sum_append]
/-- multiples up to a time -/
def mulN (t : Int) (l : Nat) : Int := t / (l : Int) + 1
end Mi
namespace Mi
open DL
def eM (s : Nat × Nat) : D := .tup [.int (s.1 : Nat), .int (s.2 : Nat)]
def eB (ps : List Nat) : D := .bell (ps.map fun p : Nat => (p : Int))
structure Pds (ps : List Nat) : Prop where
  one : 1 ≤ ps.length
  five : ps.length ≤ 5
  bd : ∀ p ∈ ps, 0 < p ∧ p ≤ 1000
theorem meet_bd : ∀ (r ps : List Nat), ps = r.reverse → (∀ p ∈ ps, 0 < p ∧ p ≤ 1000) → (meet ps).length = 2 ^ ps.length ∧ ∀ s ∈ meet ps, 0 < s.2 ∧ s.2 ≤ 1000 ^ ps.length ∧ s.1 ≤ ps.length
  | [], ps, e, _ => by
    subst e
    refine ⟨rfl, fun s hs => ?_⟩
    have : s = (0, 1) := by simpa [meet] using hs
    subst this
    exact ⟨by decide, by decide, by decide⟩
  | p :: r, ps, e, hb => by
    subst e
    rw [List.reverse_cons] at hb ⊢
    have hp := hb p (by simp)
    obtain ⟨h1, h2⟩ := meet_bd r _ rfl fun q hq => hb q (by simp only [List.mem_append]; exact .inl hq)
    rw [meet_snoc]
    refine ⟨by rw [List.length_append, List.length_map, h1, List.length_append, List.length_singleton, Nat.pow_succ]; omega, fun s hs => ?_⟩
    rw [List.length_append, List.length_singleton, Nat.pow_succ]
    rcases List.mem_append.mp hs with z | z
    · have := h2 s z
      exact ⟨this.1, Nat.le_trans this.2.1 (Nat.le_mul_of_pos_right _ (by decide)), by omega⟩
    · obtain ⟨t, ht, rfl⟩ := List.mem_map.mp z
      have := h2 t ht
      refine ⟨Nat.lcm_pos this.1 hp.1, ?_, by show t.1 + 1 ≤ _; omega⟩
      exact Nat.le_trans (Nat.le_of_dvd (Nat.mul_pos this.1 hp.1) (Nat.lcm_dvd_mul t.2 p)) (Nat.mul_le_mul this.2.1 hp.2)
theorem meet_pos {ps : List Nat} (h : Pds ps) : ∀ s ∈ meet ps, 0 < s.2 ∧ s.2 < 18446744073709551616 ∧ s.1 < 6 := fun s hs => by
  have := (meet_bd ps.reverse ps (by simp) h.bd).2 s hs
  have h5 : (1000 : Nat) ^ ps.length ≤ 1000 ^ 5 := Nat.pow_le_pow_right (by decide) h.five
  have e5 : (1000 : Nat) ^ 5 = 1000000000000000 := by decide
  have := h.five
  exact ⟨by omega, by omega, by omega⟩
theorem per_m (ps : List Nat) : opPer (eB ps) = some (eI ps) := by
  show some (D.tup ((ps.map fun p : Nat => (p : Int)).map .int)) = _
  rw [List.map_map]
  rfl
theorem meetings_m {ps : List Nat} (h : Pds ps) : m_meetings [eB ps] = some (.lst ((meet ps).map eM)) := by
  obtain ⟨ρ', q1, ag, q2⟩ := for_agPre (b := m_meetings_b1) (i := 2) (ws := [2, 1]) (ρ := st [some (eB ps), none, none, none, none] 1 (.lst [.tup [.int 0, .int 1]])) (fun p : Nat => D.int p) (fun pre ρ' => lk ρ' 1 = some (.lst ((meet pre).map eM))) ps (by decide) (show 2 < 5 by decide) rfl (fun pre ρ' d q => by rw [lk_st_o (by decide)]; exact q) (by
    intro pre p r' e ρ1 ag e2 e1
    have hl : ρ1.length = 5 := ag.1
    have hp := h.bd p (by rw [e]; simp)
    have pl : pre.length + 1 ≤ 5 := by
      have := congrArg List.length e
      have := h.five
      simp at *
      omega
    have mb := meet_bd pre.reverse pre (by simp) fun q hq => h.bd q (by rw [e]; simp only [List.mem_append]; exact .inl hq)
    have l32 : (meet pre).length ≤ 16 := by
      rw [mb.1]
      exact Nat.le_trans (Nat.pow_le_pow_right (by decide) (show pre.length ≤ 4 by omega)) (by decide)
    have c1 : m_meetings_c1 ρ1 = some (.lst (((meet pre).map fun s => (s.1 + 1, Nat.lcm s.2 p)).map eM)) := by
      unfold m_meetings_c1
      rw [comp_all eM (fun s => eM (s.1 + 1, Nat.lcm s.2 p)) (meet pre) (by simp only [bnd_some, bnd_none, p_dc, p_dv, lk_z, lk_s, st_z, st_s, un_z, un_s, wipe_n, wipe_c, p_d2, p_d1, p_dnil, p_dcons, p_dL, p_asB, p_asI, p_asL, p_asSeqL, p_asSeqT, p_bV, p_dB, p_bAnd, p_bOr, p_bNot, p_dIf, p_dAnd, p_dOr, p_dNot, p_dCh, p_bYes, p_gN, p_gT, p_gsNil, p_gsCons, p_dNx, p_dRet, p_dSet, p_dIfS, p_dAsg, p_dPar, p_dAug, p_dApp, p_dSetIx, p_nLst, p_nRep, p_nOf, p_dSetN, p_dParN1, p_dParNN, p_iSeq, p_iRng1, p_iRng2, p_oNo, p_oIx, p_dSl, p_asIx, p_opTup, p_opLst, p_lenT, p_lenL, p_lenS, p_tupT, p_tupL, p_add, p_sub, p_mul, p_lt, p_le, p_gt, p_ge, p_eqI, p_neI, p_isN, p_isnN, p_isB, p_isnB, p_isNone_n, p_isNone_i, p_isNone_t, p_isNone_l, p_appL, p_appT, b_mc, b_mn, b_ac, b_an, b_rs, b_rz, b_lc, b_ln, b_it, b_if, b_itt, b_iff, p_dSeq, p_eqB, p_neB, len_eT, len_eR, len_eV, isNone_eO, seq_eT, seq_eR, seq_eV, seq_eL, eO_some, eO_none, len_eL, p_dOrT, ↓p_eqN, ↓p_neN, ↓p_ltN, ↓p_leN, ↓p_gtN, ↓p_geN, e1]) (by omega) (by
        intro s hs
        have sb := mb.2 s hs
        have lm := lcm_m sb.1 (b := p) (by omega) (Nat.lt_of_le_of_lt (Nat.gcd_le_right _ hp.1) (by omega))
        have ad : opAdd (.int (s.1 : Nat)) (.int 1) = some (.int ((s.1 + 1 : Nat) : Int)) := rfl
        refine ⟨_, by simp only [eM, bnd_some, bnd_none, p_dc, p_dv, lk_z, lk_s, st_z, st_s, un_z, un_s, wipe_n, wipe_c, p_d2, p_d1, p_dnil, p_dcons, p_dL, p_asB, p_asI, p_asL, p_asSeqL, p_asSeqT, p_bV, p_dB, p_bAnd, p_bOr, p_bNot, p_dIf, p_dAnd, p_dOr, p_dNot, p_dCh, p_bYes, p_gN, p_gT, p_gsNil, p_gsCons, p_dNx, p_dRet, p_dSet, p_dIfS, p_dAsg, p_dPar, p_dAug, p_dApp, p_dSetIx, p_nLst, p_nRep, p_nOf, p_dSetN, p_dParN1, p_dParNN, p_iSeq, p_iRng1, p_iRng2, p_oNo, p_oIx, p_dSl, p_asIx, p_opTup, p_opLst, p_lenT, p_lenL, p_lenS, p_tupT, p_tupL, p_add, p_sub, p_mul, p_lt, p_le, p_gt, p_ge, p_eqI, p_neI, p_isN, p_isnN, p_isB, p_isnB, p_isNone_n, p_isNone_i, p_isNone_t, p_isNone_l, p_appL, p_appT, b_mc, b_mn, b_ac, b_an, b_rs, b_rz, b_lc, b_ln, b_it, b_if, b_itt, b_iff, p_dSeq, p_eqB, p_neB, len_eT, len_eR, len_eV, isNone_eO, seq_eT, seq_eR, seq_eV, seq_eL, eO_some, eO_none, len_eL, p_dOrT, ↓p_eqN, ↓p_neN, ↓p_ltN, ↓p_leN, ↓p_gtN, ↓p_geN]; rfl, ?_⟩
        simp only [bnd_some, bnd_none, p_dc, p_dv, lk_z, lk_s, st_z, st_s, un_z, un_s, wipe_n, wipe_c, p_d2, p_d1, p_dnil, p_dcons, p_dL, p_asB, p_asI, p_asL, p_asSeqL, p_asSeqT, p_bV, p_dB, p_bAnd, p_bOr, p_bNot, p_dIf, p_dAnd, p_dOr, p_dNot, p_dCh, p_bYes, p_gN, p_gT, p_gsNil, p_gsCons, p_dNx, p_dRet, p_dSet, p_dIfS, p_dAsg, p_dPar, p_dAug, p_dApp, p_dSetIx, p_nLst, p_nRep, p_nOf, p_dSetN, p_dParN1, p_dParNN, p_iSeq, p_iRng1, p_iRng2, p_oNo, p_oIx, p_dSl, p_asIx, p_opTup, p_opLst, p_lenT, p_lenL, p_lenS, p_tupT, p_tupL, p_add, p_sub, p_mul, p_lt, p_le, p_gt, p_ge, p_eqI, p_neI, p_isN, p_isnN, p_isB, p_isnB, p_isNone_n, p_isNone_i, p_isNone_t, p_isNone_l, p_appL, p_appT, b_mc, b_mn, b_ac, b_an, b_rs, b_rz, b_lc, b_ln, b_it, b_if, b_itt, b_iff, p_dSeq, p_eqB, p_neB, len_eT, len_eR, len_eV, isNone_eO, seq_eT, seq_eR, seq_eV, seq_eL, eO_some, eO_none, len_eL, p_dOrT, ↓p_eqN, ↓p_neN, ↓p_ltN, ↓p_leN, ↓p_gtN, ↓p_geN, lk_st_o, lk_st_i, lk_un_o, len_st, len_un, Nat.reduceBEq, Nat.reduceLT, hl, e2, ↓ad, lm, Nat.reduceAdd, Nat.reduceLeDiff]
        rfl)]
      rw [List.map_map]
      rfl
    have ap : opAdd (.lst ((meet pre).map eM)) (.lst (((meet pre).map fun s => (s.1 + 1, Nat.lcm s.2 p)).map eM)) = some (.lst ((meet (pre ++ [p])).map eM)) := by
      rw [p_appL, if_pos (by simp; omega), ← List.map_append, meet_snoc]
    refine ⟨st ρ1 1 (.lst ((meet (pre ++ [p])).map eM)), ?_, ag.st (by decide), by rw [lk_st_i (by omega)]⟩
    simp only [m_meetings_b1, bnd_some, bnd_none, p_dc, p_dv, lk_z, lk_s, st_z, st_s, un_z, un_s, wipe_n, wipe_c, p_d2, p_d1, p_dnil, p_dcons, p_dL, p_asB, p_asI, p_asL, p_asSeqL, p_asSeqT, p_bV, p_dB, p_bAnd, p_bOr, p_bNot, p_dIf, p_dAnd, p_dOr, p_dNot, p_dCh, p_bYes, p_gN, p_gT, p_gsNil, p_gsCons, p_dNx, p_dRet, p_dSet, p_dIfS, p_dAsg, p_dPar, p_dAug, p_dApp, p_dSetIx, p_nLst, p_nRep, p_nOf, p_dSetN, p_dParN1, p_dParNN, p_iSeq, p_iRng1, p_iRng2, p_oNo, p_oIx, p_dSl, p_asIx, p_opTup, p_opLst, p_lenT, p_lenL, p_lenS, p_tupT, p_tupL, p_add, p_sub, p_mul, p_lt, p_le, p_gt, p_ge, p_eqI, p_neI, p_isN, p_isnN, p_isB, p_isnB, p_isNone_n, p_isNone_i, p_isNone_t, p_isNone_l, p_appL, p_appT, b_mc, b_mn, b_ac, b_an, b_rs, b_rz, b_lc, b_ln, b_it, b_if, b_itt, b_iff, p_dSeq, p_eqB, p_neB, len_eT, len_eR, len_eV, isNone_eO, seq_eT, seq_eR, seq_eV, seq_eL, eO_some, eO_none, len_eL, p_dOrT, ↓p_eqN, ↓p_neN, ↓p_ltN, ↓p_leN, ↓p_gtN, ↓p_geN, e1, c1, ↓ap])
  have per := per_m ps
  have f := (for_eq (it := iSeq (d1 opPer (dv 0))) (ds := ps.map fun p : Nat => D.int p) (ρ := st [some (eB ps), none, none, none, none] 1 (.lst [.tup [.int 0, .int 1]])) (by simp only [bnd_some, bnd_none, p_dc, p_dv, lk_z, lk_s, st_z, st_s, un_z, un_s, wipe_n, wipe_c, p_d2, p_d1, p_dnil, p_dcons, p_dL, p_asB, p_asI, p_asL, p_asSeqL, p_asSeqT, p_bV, p_dB, p_bAnd, p_bOr, p_bNot, p_dIf, p_dAnd, p_dOr, p_dNot, p_dCh, p_bYes, p_gN, p_gT, p_gsNil, p_gsCons, p_dNx, p_dRet, p_dSet, p_dIfS, p_dAsg, p_dPar, p_dAug, p_dApp, p_dSetIx, p_nLst, p_nRep, p_nOf, p_dSetN, p_dParN1, p_dParNN, p_iSeq, p_iRng1, p_iRng2, p_oNo, p_oIx, p_dSl, p_asIx, p_opTup, p_opLst, p_lenT, p_lenL, p_lenS, p_tupT, p_tupL, p_add, p_sub, p_mul, p_lt, p_le, p_gt, p_ge, p_eqI, p_neI, p_isN, p_isnN, p_isB, p_isnB, p_isNone_n, p_isNone_i, p_isNone_t, p_isNone_l, p_appL, p_appT, b_mc, b_mn, b_ac, b_an, b_rs, b_rz, b_lc, b_ln, b_it, b_if, b_itt, b_iff, p_dSeq, p_eqB, p_neB, len_eT, len_eR, len_eV, isNone_eO, seq_eT, seq_eR, seq_eV, seq_eL, eO_some, eO_none, len_eL, p_dOrT, ↓p_eqN, ↓p_neN, ↓p_ltN, ↓p_leN, ↓p_gtN, ↓p_geN, per]; rfl)).trans q1
  refine run_rt rfl ?_
  generalize eB ps = bb at f
  simp only [bnd_some, bnd_none, p_dc, p_dv, lk_z, lk_s, st_z, st_s, un_z, un_s, wipe_n, wipe_c, p_d2, p_d1, p_dnil, p_dcons, p_dL, p_asB, p_asI, p_asL, p_asSeqL, p_asSeqT, p_bV, p_dB, p_bAnd, p_bOr, p_bNot, p_dIf, p_dAnd, p_dOr, p_dNot, p_dCh, p_bYes, p_gN, p_gT, p_gsNil, p_gsCons, p_dNx, p_dRet, p_dSet, p_dIfS, p_dAsg, p_dPar, p_dAug, p_dApp, p_dSetIx, p_nLst, p_nRep, p_nOf, p_dSetN, p_dParN1, p_dParNN, p_iSeq, p_iRng1, p_iRng2, p_oNo, p_oIx, p_dSl, p_asIx, p_opTup, p_opLst, p_lenT, p_lenL, p_lenS, p_tupT, p_tupL, p_add, p_sub, p_mul, p_lt, p_le, p_gt, p_ge, p_eqI, p_neI, p_isN, p_isnN, p_isB, p_isnB, p_isNone_n, p_isNone_i, p_isNone_t, p_isNone_l, p_appL, p_appT, b_mc, b_mn, b_ac, b_an, b_rs, b_rz, b_lc, b_ln, b_it, b_if, b_itt, b_iff, p_dSeq, p_eqB, p_neB, len_eT, len_eR, len_eV, isNone_eO, seq_eT, seq_eR, seq_eV, seq_eL, eO_some, eO_none, len_eL, p_dOrT, ↓p_eqN, ↓p_neN, ↓p_ltN, ↓p_leN, ↓p_gtN, ↓p_geN] at f
  simp only [bnd_some, bnd_none, p_dc, p_dv, lk_z, lk_s, st_z, st_s, un_z, un_s, wipe_n, wipe_c, p_d2, p_d1, p_dnil, p_dcons, p_dL, p_asB, p_asI, p_asL, p_asSeqL, p_asSeqT, p_bV, p_dB, p_bAnd, p_bOr, p_bNot, p_dIf, p_dAnd, p_dOr, p_dNot, p_dCh, p_bYes, p_gN, p_gT, p_gsNil, p_gsCons, p_dNx, p_dRet, p_dSet, p_dIfS, p_dAsg, p_dPar, p_dAug, p_dApp, p_dSetIx, p_nLst, p_nRep, p_nOf, p_dSetN, p_dParN1, p_dParNN, p_iSeq, p_iRng1, p_iRng2, p_oNo, p_oIx, p_dSl, p_asIx, p_opTup, p_opLst, p_lenT, p_lenL, p_lenS, p_tupT, p_tupL, p_add, p_sub, p_mul, p_lt, p_le, p_gt, p_ge, p_eqI, p_neI, p_isN, p_isnN, p_isB, p_isnB, p_isNone_n, p_isNone_i, p_isNone_t, p_isNone_l, p_appL, p_appT, b_mc, b_mn, b_ac, b_an, b_rs, b_rz, b_lc, b_ln, b_it, b_if, b_itt, b_iff, p_dSeq, p_eqB, p_neB, len_eT, len_eR, len_eV, isNone_eO, seq_eT, seq_eR, seq_eV, seq_eL, eO_some, eO_none, len_eL, p_dOrT, ↓p_eqN, ↓p_neN, ↓p_ltN, ↓p_leN, ↓p_gtN, ↓p_geN, Nat.reduceSub, Nat.reduceAdd, Nat.reduceLeDiff, f, q2]
theorem div_it {t : Int} {l : Nat} (h : 0 < l) (h2 : l < 18446744073709551616) : opFdiv (.int t) (.int (l : Nat)) = some (.int (t / (l : Int))) := by
  have h' : (0 : Int) < l := by omega
  have h3 : (l : Int) < 18446744073709551616 := by omega
  simp only [opFdiv, if_pos (And.intro h' h3)]
theorem mul_it {a b : Int} (h1 : -18446744073709551616 < b) (h2 : b < 18446744073709551616) : opMul (.int a) (.int b) = some (.int (a * b)) := by
  have : mulOk a b = true := by simp [mulOk, h1, h2]
  rw [p_mul, if_pos this]
theorem sumI_snoc {α : Type} (L : List α) (x : α) (g : α → Int) : sumI (L ++ [x]) g = sumI L g + g x := by
  rw [sumI_append]
  show sumI L g + (g x + 0) = _
  omega
theorem rung_to_m {L : List (Nat × Nat)} (hL : ∀ s ∈ L, 0 < s.2 ∧ s.2 < 18446744073709551616 ∧ s.1 < 6) (t : Int) : m_rung_to [.lst (L.map eM), .int t] = some (.int (sumI L fun s => fR s.1 * mulN t s.2)) := by
  obtain ⟨ρ', q1, ag, q2⟩ := for_agTP (g := gT (gsCons (gN 3) (gsCons (gN 4) gsNil))) (b := m_rung_to_b1) (ws := [3, 4, 2]) (ρ := st [some (.lst (L.map eM)), some (.int t), none, none, none] 2 (.int 0)) eM (fun pre ρ' => lk ρ' 2 = some (.int (sumI pre fun s => fR s.1 * mulN t s.2))) L rfl (by
    intro pre s r' e ρ1 ag e2
    have hl : ρ1.length = 5 := ag.1
    have sb := hL s (by rw [e]; simp)
    have a1 := ag.lk 1 (by decide) (x := some (.int t)) rfl
    have dd := div_it (t := t) sb.1 sb.2.1
    have ad : opAdd (.int (t / (s.2 : Int))) (.int 1) = some (.int (mulN t s.2)) := rfl
    have gt : opGt (.int (s.1 : Nat)) (.int 0) = some (.bl (decide (0 < s.1))) := p_gtN _ 0
    have mo : opMod (.int (s.1 : Nat)) (.int 2) = some (.int ((s.1 % 2 : Nat) : Int)) := mod_n (b := 2) (by decide)
    have eq : opEq (.int ((s.1 % 2 : Nat) : Int)) (.int 1) = some (.bl (decide (s.1 % 2 = 1))) := p_eqN _ 1
    have ng : opNeg (.int 1) = some (.int (-1)) := rfl
    have m1 := mul_it (a := mulN t s.2) (b := 1) (by decide) (by decide)
    have m2 := mul_it (a := mulN t s.2) (b := -1) (by decide) (by decide)
    rw [sumI_snoc]
    refine ⟨st (st ρ1 3 (.int (s.1 : Nat))) 4 (.int (s.2 : Nat)), by simp only [eM, bnd_some, bnd_none, p_dc, p_dv, lk_z, lk_s, st_z, st_s, un_z, un_s, wipe_n, wipe_c, p_d2, p_d1, p_dnil, p_dcons, p_dL, p_asB, p_asI, p_asL, p_asSeqL, p_asSeqT, p_bV, p_dB, p_bAnd, p_bOr, p_bNot, p_dIf, p_dAnd, p_dOr, p_dNot, p_dCh, p_bYes, p_gN, p_gT, p_gsNil, p_gsCons, p_dNx, p_dRet, p_dSet, p_dIfS, p_dAsg, p_dPar, p_dAug, p_dApp, p_dSetIx, p_nLst, p_nRep, p_nOf, p_dSetN, p_dParN1, p_dParNN, p_iSeq, p_iRng1, p_iRng2, p_oNo, p_oIx, p_dSl, p_asIx, p_opTup, p_opLst, p_lenT, p_lenL, p_lenS, p_tupT, p_tupL, p_add, p_sub, p_mul, p_lt, p_le, p_gt, p_ge, p_eqI, p_neI, p_isN, p_isnN, p_isB, p_isnB, p_isNone_n, p_isNone_i, p_isNone_t, p_isNone_l, p_appL, p_appT, b_mc, b_mn, b_ac, b_an, b_rs, b_rz, b_lc, b_ln, b_it, b_if, b_itt, b_iff, p_dSeq, p_eqB, p_neB, len_eT, len_eR, len_eV, isNone_eO, seq_eT, seq_eR, seq_eV, seq_eL, eO_some, eO_none, len_eL, p_dOrT, ↓p_eqN, ↓p_neN, ↓p_ltN, ↓p_leN, ↓p_gtN, ↓p_geN], ?_⟩
    by_cases z : s.1 = 0
    · have e0 : fR s.1 = 0 := by unfold fR; rw [if_pos z]
      rw [decide_eq_false (by omega)] at gt
      refine ⟨st (st ρ1 3 (.int (s.1 : Nat))) 4 (.int (s.2 : Nat)), ?_, (ag.st (by decide)).st (by decide), ?_⟩
      · simp only [m_rung_to_b1, bnd_some, bnd_none, p_dc, p_dv, lk_z, lk_s, st_z, st_s, un_z, un_s, wipe_n, wipe_c, p_d2, p_d1, p_dnil, p_dcons, p_dL, p_asB, p_asI, p_asL, p_asSeqL, p_asSeqT, p_bV, p_dB, p_bAnd, p_bOr, p_bNot, p_dIf, p_dAnd, p_dOr, p_dNot, p_dCh, p_bYes, p_gN, p_gT, p_gsNil, p_gsCons, p_dNx, p_dRet, p_dSet, p_dIfS, p_dAsg, p_dPar, p_dAug, p_dApp, p_dSetIx, p_nLst, p_nRep, p_nOf, p_dSetN, p_dParN1, p_dParNN, p_iSeq, p_iRng1, p_iRng2, p_oNo, p_oIx, p_dSl, p_asIx, p_opTup, p_opLst, p_lenT, p_lenL, p_lenS, p_tupT, p_tupL, p_add, p_sub, p_mul, p_lt, p_le, p_gt, p_ge, p_eqI, p_neI, p_isN, p_isnN, p_isB, p_isnB, p_isNone_n, p_isNone_i, p_isNone_t, p_isNone_l, p_appL, p_appT, b_mc, b_mn, b_ac, b_an, b_rs, b_rz, b_lc, b_ln, b_it, b_if, b_itt, b_iff, p_dSeq, p_eqB, p_neB, len_eT, len_eR, len_eV, isNone_eO, seq_eT, seq_eR, seq_eV, seq_eL, eO_some, eO_none, len_eL, p_dOrT, ↓p_eqN, ↓p_neN, ↓p_ltN, ↓p_leN, ↓p_gtN, ↓p_geN, lk_st_o, lk_st_i, len_st, Nat.reduceBEq, Nat.reduceLT, hl, ↓gt]
      · rw [lk_st_o (by decide), lk_st_o (by decide), e2, e0, Int.zero_mul, Int.add_zero]
    · rw [decide_eq_true (by omega)] at gt
      have ad2 := p_add (sumI pre fun s => fR s.1 * mulN t s.2)
      refine ⟨st (st (st ρ1 3 (.int (s.1 : Nat))) 4 (.int (s.2 : Nat))) 2 (.int ((sumI pre fun s => fR s.1 * mulN t s.2) + fR s.1 * mulN t s.2)), ?_, ((ag.st (by decide)).st (by decide)).st (by decide), by rw [lk_st_i (by simp only [len_st, hl]; decide)]⟩
      by_cases y : s.1 % 2 = 1
      · have e0 : fR s.1 * mulN t s.2 = mulN t s.2 * 1 := by unfold fR; rw [if_neg z, if_pos y]; omega
        rw [decide_eq_true y] at eq
        rw [e0]
        simp only [m_rung_to_b1, bnd_some, bnd_none, p_dc, p_dv, lk_z, lk_s, st_z, st_s, un_z, un_s, wipe_n, wipe_c, p_d2, p_d1, p_dnil, p_dcons, p_dL, p_asB, p_asI, p_asL, p_asSeqL, p_asSeqT, p_bV, p_dB, p_bAnd, p_bOr, p_bNot, p_dIf, p_dAnd, p_dOr, p_dNot, p_dCh, p_bYes, p_gN, p_gT, p_gsNil, p_gsCons, p_dNx, p_dRet, p_dSet, p_dIfS, p_dAsg, p_dPar, p_dAug, p_dApp, p_dSetIx, p_nLst, p_nRep, p_nOf, p_dSetN, p_dParN1, p_dParNN, p_iSeq, p_iRng1, p_iRng2, p_oNo, p_oIx, p_dSl, p_asIx, p_opTup, p_opLst, p_lenT, p_lenL, p_lenS, p_tupT, p_tupL, p_add, p_sub, p_mul, p_lt, p_le, p_gt, p_ge, p_eqI, p_neI, p_isN, p_isnN, p_isB, p_isnB, p_isNone_n, p_isNone_i, p_isNone_t, p_isNone_l, p_appL, p_appT, b_mc, b_mn, b_ac, b_an, b_rs, b_rz, b_lc, b_ln, b_it, b_if, b_itt, b_iff, p_dSeq, p_eqB, p_neB, len_eT, len_eR, len_eV, isNone_eO, seq_eT, seq_eR, seq_eV, seq_eL, eO_some, eO_none, len_eL, p_dOrT, ↓p_eqN, ↓p_neN, ↓p_ltN, ↓p_leN, ↓p_gtN, ↓p_geN, lk_st_o, lk_st_i, len_st, Nat.reduceBEq, Nat.reduceLT, hl, ↓gt, a1, dd, ↓ad, mo, ↓eq, ↓m1, e2, ad2]
      · have e0 : fR s.1 * mulN t s.2 = mulN t s.2 * (-1) := by unfold fR; rw [if_neg z, if_neg y]; omega
        rw [decide_eq_false y] at eq
        rw [e0]
        simp only [m_rung_to_b1, bnd_some, bnd_none, p_dc, p_dv, lk_z, lk_s, st_z, st_s, un_z, un_s, wipe_n, wipe_c, p_d2, p_d1, p_dnil, p_dcons, p_dL, p_asB, p_asI, p_asL, p_asSeqL, p_asSeqT, p_bV, p_dB, p_bAnd, p_bOr, p_bNot, p_dIf, p_dAnd, p_dOr, p_dNot, p_dCh, p_bYes, p_gN, p_gT, p_gsNil, p_gsCons, p_dNx, p_dRet, p_dSet, p_dIfS, p_dAsg, p_dPar, p_dAug, p_dApp, p_dSetIx, p_nLst, p_nRep, p_nOf, p_dSetN, p_dParN1, p_dParNN, p_iSeq, p_iRng1, p_iRng2, p_oNo, p_oIx, p_dSl, p_asIx, p_opTup, p_opLst, p_lenT, p_lenL, p_lenS, p_tupT, p_tupL, p_add, p_sub, p_mul, p_lt, p_le, p_gt, p_ge, p_eqI, p_neI, p_isN, p_isnN, p_isB, p_isnB, p_isNone_n, p_isNone_i, p_isNone_t, p_isNone_l, p_appL, p_appT, b_mc, b_mn, b_ac, b_an, b_rs, b_rz, b_lc, b_ln, b_it, b_if, b_itt, b_iff, p_dSeq, p_eqB, p_neB, len_eT, len_eR, len_eV, isNone_eO, seq_eT, seq_eR, seq_eV, seq_eL, eO_some, eO_none, len_eL, p_dOrT, ↓p_eqN, ↓p_neN, ↓p_ltN, ↓p_leN, ↓p_gtN, ↓p_geN, lk_st_o, lk_st_i, len_st, Nat.reduceBEq, Nat.reduceLT, hl, ↓gt, a1, dd, ↓ad, mo, ↓eq, ng, ↓m2, e2, ad2])
  have f := (for_eq (it := iSeq (dv 0)) (ds := L.map eM) (ρ := st [some (.lst (L.map eM)), some (.int t), none, none, none] 2 (.int 0)) rfl).trans q1
  refine run_rt rfl ?_
  generalize D.lst (L.map eM) = ll at f
  simp only [bnd_some, bnd_none, p_dc, p_dv, lk_z, lk_s, st_z, st_s, un_z, un_s, wipe_n, wipe_c, p_d2, p_d1, p_dnil, p_dcons, p_dL, p_asB, p_asI, p_asL, p_asSeqL, p_asSeqT, p_bV, p_dB, p_bAnd, p_bOr, p_bNot, p_dIf, p_dAnd, p_dOr, p_dNot, p_dCh, p_bYes, p_gN, p_gT, p_gsNil, p_gsCons, p_dNx, p_dRet, p_dSet, p_dIfS, p_dAsg, p_dPar, p_dAug, p_dApp, p_dSetIx, p_nLst, p_nRep, p_nOf, p_dSetN, p_dParN1, p_dParNN, p_iSeq, p_iRng1, p_iRng2, p_oNo, p_oIx, p_dSl, p_asIx, p_opTup, p_opLst, p_lenT, p_lenL, p_lenS, p_tupT, p_tupL, p_add, p_sub, p_mul, p_lt, p_le, p_gt, p_ge, p_eqI, p_neI, p_isN, p_isnN, p_isB, p_isnB, p_isNone_n, p_isNone_i, p_isNone_t, p_isNone_l, p_appL, p_appT, b_mc, b_mn, b_ac, b_an, b_rs, b_rz, b_lc, b_ln, b_it, b_if, b_itt, b_iff, p_dSeq, p_eqB, p_neB, len_eT, len_eR, len_eV, isNone_eO, seq_eT, seq_eR, seq_eV, seq_eL, eO_some, eO_none, len_eL, p_dOrT, ↓p_eqN, ↓p_neN, ↓p_ltN, ↓p_leN, ↓p_gtN, ↓p_geN] at f
  simp only [bnd_some, bnd_none, p_dc, p_dv, lk_z, lk_s, st_z, st_s, un_z, un_s, wipe_n, wipe_c, p_d2, p_d1, p_dnil, p_dcons, p_dL, p_asB, p_asI, p_asL, p_asSeqL, p_asSeqT, p_bV, p_dB, p_bAnd, p_bOr, p_bNot, p_dIf, p_dAnd, p_dOr, p_dNot, p_dCh, p_bYes, p_gN, p_gT, p_gsNil, p_gsCons, p_dNx, p_dRet, p_dSet, p_dIfS, p_dAsg, p_dPar, p_dAug, p_dApp, p_dSetIx, p_nLst, p_nRep, p_nOf, p_dSetN, p_dParN1, p_dParNN, p_iSeq, p_iRng1, p_iRng2, p_oNo, p_oIx, p_dSl, p_asIx, p_opTup, p_opLst, p_lenT, p_lenL, p_lenS, p_tupT, p_tupL, p_add, p_sub, p_mul, p_lt, p_le, p_gt, p_ge, p_eqI, p_neI, p_isN, p_isnN, p_isB, p_isnB, p_isNone_n, p_isNone_i, p_isNone_t, p_isNone_l, p_appL, p_appT, b_mc, b_mn, b_ac, b_an, b_rs, b_rz, b_lc, b_ln, b_it, b_if, b_itt, b_iff, p_dSeq, p_eqB, p_neB, len_eT, len_eR, len_eV, isNone_eO, seq_eT, seq_eR, seq_eV, seq_eL, eO_some, eO_none, len_eL, p_dOrT, ↓p_eqN, ↓p_neN, ↓p_ltN, ↓p_leN, ↓p_gtN, ↓p_geN, Nat.reduceSub, f, q2]
end Mi
namespace Mi
open DL
theorem bells_of {ps : List Nat} (h : Pds ps) : opBells (ps.map fun p : Nat => D.int p) = some (eB ps) := by
  have ai : asInts (ps.map fun p : Nat => D.int p) = some (ps.map fun p : Nat => (p : Int)) := asInts_map _ ps
  have ok : bellOk (ps.map fun p : Nat => (p : Int)) = true := by
    unfold bellOk
    rw [List.length_map, Bool.and_eq_true, Bool.and_eq_true]
    refine ⟨decide_eq_true h.one, decide_eq_true h.five, ?_⟩
    rw [List.all_eq_true]
    intro i hi
    obtain ⟨p, hp, rfl⟩ := List.mem_map.mp hi
    have := h.bd p hp
    rw [Bool.and_eq_true]
    exact ⟨decide_eq_true (by omega), decide_eq_true (by omega)⟩
  show (asInts _).bind _ = _
  rw [ai]
  simp only [Option.bind_some, if_pos ok]
  rfl
end Mi
namespace Mi
open DL
end Mi
namespace Mi
open DL
end Mi
namespace Mi
open DL
theorem add_nn (a b : Nat) : opAdd (.int (a : Nat)) (.int (b : Nat)) = some (.int ((a + b : Nat) : Int)) := by rw [p_add, Int.natCast_add]
end Mi
namespace Mi
open DL
end Mi
namespace Mi
open DL
/-- two bells that ring alike -/
theorem ring_at_two {p idx : Nat} (h0 : 0 < p) (h1 : p ≤ 1000) (hi : idx ≤ 1000000000000) : m_ring_at [eB [p, p], .int (idx : Nat)] = some (.int ((idx * p : Nat) : Int)) := by
  have hp : Pds [p, p] := ⟨by simp, by simp, fun q hq => by
    simp only [List.mem_cons, List.not_mem_nil, or_false] at hq
    omega⟩
  have mt := meetings_m hp
  have mp := meet_pos hp
  have me : meet [p, p] = [(0, 1), (1, Nat.lcm 1 p), (1, Nat.lcm 1 p), (2, Nat.lcm (Nat.lcm 1 p) p)] := rfl
  have l1 : Nat.lcm 1 p = p := Nat.lcm_one_left p
  have l2 : Nat.lcm p p = p := Nat.lcm_self p
  rw [l1, l2] at me
  have rt : ∀ t : Nat, m_rung_to [.lst ((meet [p, p]).map eM), .int (t : Nat)] = some (.int ((t / p + 1 : Nat) : Int)) := fun t => by
    rw [rung_to_m mp, me]
    refine congrArg (fun i => some (D.int i)) ?_
    show fR 0 * mulN t 1 + (fR 1 * mulN t p + (fR 1 * mulN t p + (fR 2 * mulN t p + 0))) = _
    have f0 : fR 0 = 0 := rfl
    have f1 : fR 1 = 1 := rfl
    have f2 : fR 2 = -1 := rfl
    rw [f0, f1, f2]
    unfold mulN
    rw [← Int.natCast_ediv]
    omega
  have mn : opMinT [eI [p, p]] = some (.int (p : Nat)) := by
    show some (D.int (min (p : Int) (p : Int))) = _
    rw [Int.min_def, if_pos (Int.le_refl _)]
  have per := per_m [p, p]
  have mu := mul_n (a := idx) (b := p) (by omega)
  have hb : idx * p ≤ 1000000000000000 := by
    calc idx * p ≤ 1000000000000 * 1000 := Nat.mul_le_mul hi h1
      _ = 1000000000000000 := by decide
  generalize hll : D.lst ((meet [p, p]).map eM) = ll at mt rt
  have hw := dWhile_m (t := bV (d2 opLt (dv 3) (dv 4))) (b := m_ring_at_b1) (fun k ρ => ∃ lo x5, lo ≤ idx * p ∧ k = idx * p - lo ∧ ρ = [some (eB [p, p]), some (.int (idx : Nat)), some ll, some (.int (lo : Nat)), some (.int ((idx * p : Nat) : Int)), x5]) (fun ρ => ∃ x4 x5, ρ = [some (eB [p, p]), some (.int (idx : Nat)), some ll, some (.int ((idx * p : Nat) : Int)), x4, x5])
    (k := idx * p) (ρ := [some (eB [p, p]), some (.int (idx : Nat)), some ll, some (.int ((0 : Nat) : Int)), some (.int ((idx * p : Nat) : Int)), none]) ⟨0, none, Nat.zero_le _, rfl, rfl⟩ (by omega) (by
      rintro k ρ ⟨lo, x5, hlo, rfl, rfl⟩
      have lt := p_ltN lo (idx * p)
      refine ⟨decide (lo < idx * p), by simp only [bnd_some, bnd_none, p_dc, p_dv, lk_z, lk_s, st_z, st_s, un_z, un_s, wipe_n, wipe_c, p_d2, p_d1, p_dnil, p_dcons, p_dL, p_asB, p_asI, p_asL, p_asSeqL, p_asSeqT, p_bV, p_dB, p_bAnd, p_bOr, p_bNot, p_dIf, p_dAnd, p_dOr, p_dNot, p_dCh, p_bYes, p_gN, p_gT, p_gsNil, p_gsCons, p_dNx, p_dRet, p_dSet, p_dIfS, p_dAsg, p_dPar, p_dAug, p_dApp, p_dSetIx, p_nLst, p_nRep, p_nOf, p_dSetN, p_dParN1, p_dParNN, p_iSeq, p_iRng1, p_iRng2, p_oNo, p_oIx, p_dSl, p_asIx, p_opTup, p_opLst, p_lenT, p_lenL, p_lenS, p_tupT, p_tupL, p_add, p_sub, p_mul, p_lt, p_le, p_gt, p_ge, p_eqI, p_neI, p_isN, p_isnN, p_isB, p_isnB, p_isNone_n, p_isNone_i, p_isNone_t, p_isNone_l, p_appL, p_appT, b_mc, b_mn, b_ac, b_an, b_rs, b_rz, b_lc, b_ln, b_it, b_if, b_itt, b_iff, p_dSeq, p_eqB, p_neB, len_eT, len_eR, len_eV, isNone_eO, seq_eT, seq_eR, seq_eV, seq_eL, eO_some, eO_none, len_eL, p_dOrT, ↓p_eqN, ↓p_neN, ↓p_ltN, ↓p_leN, ↓p_gtN, ↓p_geN, ↓lt], fun hc => ?_, fun hc => ?_⟩
      · have hc := of_decide_eq_true hc
        have ad := add_nn lo (idx * p)
        have dd : opFdiv (.int ((lo + idx * p : Nat) : Int)) (.int 2) = some (.int (((lo + idx * p) / 2 : Nat) : Int)) := div_n (b := 2) (by decide) (by decide)
        have r := rt ((lo + idx * p) / 2)
        have mlt : (lo + idx * p) / 2 < idx * p := by omega
        have q : (lo + idx * p) / 2 / p < idx := (Nat.div_lt_iff_lt_mul h0).mpr mlt
        have gt := p_gtN ((lo + idx * p) / 2 / p + 1) idx
        rw [decide_eq_false (by omega)] at gt
        have ad1 : opAdd (.int (((lo + idx * p) / 2 : Nat) : Int)) (.int 1) = some (.int (((lo + idx * p) / 2 + 1 : Nat) : Int)) := add_nn _ 1
        refine ⟨idx * p - ((lo + idx * p) / 2 + 1), [some (eB [p, p]), some (.int (idx : Nat)), some ll, some (.int (((lo + idx * p) / 2 + 1 : Nat) : Int)), some (.int ((idx * p : Nat) : Int)), some (.int (((lo + idx * p) / 2 : Nat) : Int))], by omega, ?_, (lo + idx * p) / 2 + 1, _, by omega, rfl, rfl⟩
        simp only [m_ring_at_b1, bnd_some, bnd_none, p_dc, p_dv, lk_z, lk_s, st_z, st_s, un_z, un_s, wipe_n, wipe_c, p_d2, p_d1, p_dnil, p_dcons, p_dL, p_asB, p_asI, p_asL, p_asSeqL, p_asSeqT, p_bV, p_dB, p_bAnd, p_bOr, p_bNot, p_dIf, p_dAnd, p_dOr, p_dNot, p_dCh, p_bYes, p_gN, p_gT, p_gsNil, p_gsCons, p_dNx, p_dRet, p_dSet, p_dIfS, p_dAsg, p_dPar, p_dAug, p_dApp, p_dSetIx, p_nLst, p_nRep, p_nOf, p_dSetN, p_dParN1, p_dParNN, p_iSeq, p_iRng1, p_iRng2, p_oNo, p_oIx, p_dSl, p_asIx, p_opTup, p_opLst, p_lenT, p_lenL, p_lenS, p_tupT, p_tupL, p_add, p_sub, p_mul, p_lt, p_le, p_gt, p_ge, p_eqI, p_neI, p_isN, p_isnN, p_isB, p_isnB, p_isNone_n, p_isNone_i, p_isNone_t, p_isNone_l, p_appL, p_appT, b_mc, b_mn, b_ac, b_an, b_rs, b_rz, b_lc, b_ln, b_it, b_if, b_itt, b_iff, p_dSeq, p_eqB, p_neB, len_eT, len_eR, len_eV, isNone_eO, seq_eT, seq_eR, seq_eV, seq_eL, eO_some, eO_none, len_eL, p_dOrT, ↓p_eqN, ↓p_neN, ↓p_ltN, ↓p_leN, ↓p_gtN, ↓p_geN, ↓ad, ↓dd, r, ↓gt, ↓ad1]
      · have hc := of_decide_eq_false hc
        have e : lo = idx * p := by omega
        rw [e]
        exact ⟨_, _, rfl⟩)
  obtain ⟨ρ', q1, x4, x5, rfl⟩ := hw
  refine run_rt rfl ?_
  have q1 : dWhile (bV (d2 opLt (dv 3) (dv 4))) m_ring_at_b1 [some (eB [p, p]), some (.int (idx : Nat)), some ll, some (.int 0), some (.int ((idx * p : Nat) : Int)), none] = _ := q1
  simp only [bnd_some, bnd_none, p_dc, p_dv, lk_z, lk_s, st_z, st_s, un_z, un_s, wipe_n, wipe_c, p_d2, p_d1, p_dnil, p_dcons, p_dL, p_asB, p_asI, p_asL, p_asSeqL, p_asSeqT, p_bV, p_dB, p_bAnd, p_bOr, p_bNot, p_dIf, p_dAnd, p_dOr, p_dNot, p_dCh, p_bYes, p_gN, p_gT, p_gsNil, p_gsCons, p_dNx, p_dRet, p_dSet, p_dIfS, p_dAsg, p_dPar, p_dAug, p_dApp, p_dSetIx, p_nLst, p_nRep, p_nOf, p_dSetN, p_dParN1, p_dParNN, p_iSeq, p_iRng1, p_iRng2, p_oNo, p_oIx, p_dSl, p_asIx, p_opTup, p_opLst, p_lenT, p_lenL, p_lenS, p_tupT, p_tupL, p_add, p_sub, p_mul, p_lt, p_le, p_gt, p_ge, p_eqI, p_neI, p_isN, p_isnN, p_isB, p_isnB, p_isNone_n, p_isNone_i, p_isNone_t, p_isNone_l, p_appL, p_appT, b_mc, b_mn, b_ac, b_an, b_rs, b_rz, b_lc, b_ln, b_it, b_if, b_itt, b_iff, p_dSeq, p_eqB, p_neB, len_eT, len_eR, len_eV, isNone_eO, seq_eT, seq_eR, seq_eV, seq_eL, eO_some, eO_none, len_eL, p_dOrT, ↓p_eqN, ↓p_neN, ↓p_ltN, ↓p_leN, ↓p_gtN, ↓p_geN, Nat.reduceSub, mt, per, mn, mu, q1]
def oneT (p : Nat) : Bool := sameO (m_count_rings [.bell [(p : Int)], .int 0, .int ((100 * p : Nat) : Int)]) (.int 101) && (sameO (m_count_just [.bell [(p : Int), (p : Int)], .int 2, .int 1, .int ((100 * p : Nat) : Int)]) (.int 100) && (sameO (m_count_just [.bell [(p : Int), (p : Int)], .int 1, .int 0, .int 1000000]) (.int 0) &&
  (sameO (m_count_just [.bell [(p : Int)], .int 0, .int 1, .int ((100 * p : Nat) : Int)]) (.int ((100 * p - 100 : Nat) : Int)) && (sameO (m_first_with [.bell [(p : Int), (p : Int)], .tup [.int 0], .int 5]) .non && (sameO (m_first_with [.bell [(p : Int), (p : Int)], .tup [.int 0, .int 1], .int 1]) (.int (p : Nat)) &&
  sameO (m_first_with [.bell [(p : Int)], .tup [.int 0], .int ((p + 1 : Nat) : Int)]) (.int ((2 * p : Nat) : Int)))))))
theorem oneT_all_0 : ∀ p < 30, oneT (p + 1) = true := by decide +kernel
theorem oneT_all_1 : ∀ p < 30, oneT (p + 31) = true := by decide +kernel
theorem oneT_all_2 : ∀ p < 30, oneT (p + 61) = true := by decide +kernel
theorem oneT_all_3 : ∀ p < 30, oneT (p + 91) = true := by decide +kernel
theorem oneT_all_4 : ∀ p < 30, oneT (p + 121) = true := by decide +kernel
theorem oneT_all_5 : ∀ p < 30, oneT (p + 151) = true := by decide +kernel
theorem oneT_all_6 : ∀ p < 30, oneT (p + 181) = true := by decide +kernel
theorem oneT_all_7 : ∀ p < 30, oneT (p + 211) = true := by decide +kernel
theorem oneT_all_8 : ∀ p < 30, oneT (p + 241) = true := by decide +kernel
theorem oneT_all_9 : ∀ p < 30, oneT (p + 271) = true := by decide +kernel
theorem oneT_all_10 : ∀ p < 30, oneT (p + 301) = true := by decide +kernel
theorem oneT_all_11 : ∀ p < 30, oneT (p + 331) = true := by decide +kernel
theorem oneT_all_12 : ∀ p < 30, oneT (p + 361) = true := by decide +kernel
theorem oneT_all_13 : ∀ p < 30, oneT (p + 391) = true := by decide +kernel
theorem oneT_all_14 : ∀ p < 30, oneT (p + 421) = true := by decide +kernel
theorem oneT_all_15 : ∀ p < 30, oneT (p + 451) = true := by decide +kernel
theorem oneT_all_16 : ∀ p < 30, oneT (p + 481) = true := by decide +kernel
theorem oneT_all_17 : ∀ p < 30, oneT (p + 511) = true := by decide +kernel
theorem oneT_all_18 : ∀ p < 30, oneT (p + 541) = true := by decide +kernel
theorem oneT_all_19 : ∀ p < 30, oneT (p + 571) = true := by decide +kernel
theorem oneT_all_20 : ∀ p < 30, oneT (p + 601) = true := by decide +kernel
theorem oneT_all_21 : ∀ p < 30, oneT (p + 631) = true := by decide +kernel
theorem oneT_all_22 : ∀ p < 30, oneT (p + 661) = true := by decide +kernel
theorem oneT_all_23 : ∀ p < 30, oneT (p + 691) = true := by decide +kernel
theorem oneT_all_24 : ∀ p < 30, oneT (p + 721) = true := by decide +kernel
theorem oneT_all_25 : ∀ p < 30, oneT (p + 751) = true := by decide +kernel
theorem oneT_all_26 : ∀ p < 30, oneT (p + 781) = true := by decide +kernel
theorem oneT_all_27 : ∀ p < 30, oneT (p + 811) = true := by decide +kernel
theorem oneT_all_28 : ∀ p < 30, oneT (p + 841) = true := by decide +kernel
theorem oneT_all_29 : ∀ p < 30, oneT (p + 871) = true := by decide +kernel
theorem oneT_all_30 : ∀ p < 30, oneT (p + 901) = true := by decide +kernel
theorem oneT_all_31 : ∀ p < 30, oneT (p + 931) = true := by decide +kernel
theorem oneT_all_32 : ∀ p < 30, oneT (p + 961) = true := by decide +kernel
theorem oneT_all : ∀ p < 990, oneT (p + 1) = true := by
  intro p hp
  by_cases h0 : p < 30
  · have h := oneT_all_0 (p - 0) (by omega)
    rwa [show p - 0 + 1 = p + 1 by omega] at h
  by_cases h1 : p < 60
  · have h := oneT_all_1 (p - 30) (by omega)
    rwa [show p - 30 + 31 = p + 1 by omega] at h
  by_cases h2 : p < 90
  · have h := oneT_all_2 (p - 60) (by omega)
    rwa [show p - 60 + 61 = p + 1 by omega] at h
  by_cases h3 : p < 120
  · have h := oneT_all_3 (p - 90) (by omega)
    rwa [show p - 90 + 91 = p + 1 by omega] at h
  by_cases h4 : p < 150
  · have h := oneT_all_4 (p - 120) (by omega)
    rwa [show p - 120 + 121 = p + 1 by omega] at h
  by_cases h5 : p < 180
  · have h := oneT_all_5 (p - 150) (by omega)
    rwa [show p - 150 + 151 = p + 1 by omega] at h
  by_cases h6 : p < 210
  · have h := oneT_all_6 (p - 180) (by omega)
    rwa [show p - 180 + 181 = p + 1 by omega] at h
  by_cases h7 : p < 240
  · have h := oneT_all_7 (p - 210) (by omega)
    rwa [show p - 210 + 211 = p + 1 by omega] at h
  by_cases h8 : p < 270
  · have h := oneT_all_8 (p - 240) (by omega)
    rwa [show p - 240 + 241 = p + 1 by omega] at h
  by_cases h9 : p < 300
  · have h := oneT_all_9 (p - 270) (by omega)
    rwa [show p - 270 + 271 = p + 1 by omega] at h
  by_cases h10 : p < 330
  · have h := oneT_all_10 (p - 300) (by omega)
    rwa [show p - 300 + 301 = p + 1 by omega] at h
  by_cases h11 : p < 360
  · have h := oneT_all_11 (p - 330) (by omega)
    rwa [show p - 330 + 331 = p + 1 by omega] at h
  by_cases h12 : p < 390
  · have h := oneT_all_12 (p - 360) (by omega)
    rwa [show p - 360 + 361 = p + 1 by omega] at h
  by_cases h13 : p < 420
  · have h := oneT_all_13 (p - 390) (by omega)
    rwa [show p - 390 + 391 = p + 1 by omega] at h
  by_cases h14 : p < 450
  · have h := oneT_all_14 (p - 420) (by omega)
    rwa [show p - 420 + 421 = p + 1 by omega] at h
  by_cases h15 : p < 480
  · have h := oneT_all_15 (p - 450) (by omega)
    rwa [show p - 450 + 451 = p + 1 by omega] at h
  by_cases h16 : p < 510
  · have h := oneT_all_16 (p - 480) (by omega)
    rwa [show p - 480 + 481 = p + 1 by omega] at h
  by_cases h17 : p < 540
  · have h := oneT_all_17 (p - 510) (by omega)
    rwa [show p - 510 + 511 = p + 1 by omega] at h
  by_cases h18 : p < 570
  · have h := oneT_all_18 (p - 540) (by omega)
    rwa [show p - 540 + 541 = p + 1 by omega] at h
  by_cases h19 : p < 600
  · have h := oneT_all_19 (p - 570) (by omega)
    rwa [show p - 570 + 571 = p + 1 by omega] at h
  by_cases h20 : p < 630
  · have h := oneT_all_20 (p - 600) (by omega)
    rwa [show p - 600 + 601 = p + 1 by omega] at h
  by_cases h21 : p < 660
  · have h := oneT_all_21 (p - 630) (by omega)
    rwa [show p - 630 + 631 = p + 1 by omega] at h
  by_cases h22 : p < 690
  · have h := oneT_all_22 (p - 660) (by omega)
    rwa [show p - 660 + 661 = p + 1 by omega] at h
  by_cases h23 : p < 720
  · have h := oneT_all_23 (p - 690) (by omega)
    rwa [show p - 690 + 691 = p + 1 by omega] at h
  by_cases h24 : p < 750
  · have h := oneT_all_24 (p - 720) (by omega)
    rwa [show p - 720 + 721 = p + 1 by omega] at h
  by_cases h25 : p < 780
  · have h := oneT_all_25 (p - 750) (by omega)
    rwa [show p - 750 + 751 = p + 1 by omega] at h
  by_cases h26 : p < 810
  · have h := oneT_all_26 (p - 780) (by omega)
    rwa [show p - 780 + 781 = p + 1 by omega] at h
  by_cases h27 : p < 840
  · have h := oneT_all_27 (p - 810) (by omega)
    rwa [show p - 810 + 811 = p + 1 by omega] at h
  by_cases h28 : p < 870
  · have h := oneT_all_28 (p - 840) (by omega)
    rwa [show p - 840 + 841 = p + 1 by omega] at h
  by_cases h29 : p < 900
  · have h := oneT_all_29 (p - 870) (by omega)
    rwa [show p - 870 + 871 = p + 1 by omega] at h
  by_cases h30 : p < 930
  · have h := oneT_all_30 (p - 900) (by omega)
    rwa [show p - 900 + 901 = p + 1 by omega] at h
  by_cases h31 : p < 960
  · have h := oneT_all_31 (p - 930) (by omega)
    rwa [show p - 930 + 931 = p + 1 by omega] at h
  have h := oneT_all_32 (p - 960) (by omega)
  rwa [show p - 960 + 961 = p + 1 by omega] at h
theorem power_all_0 : ∀ p < 30, sameO (m_law_power [.int ((p + 1 : Nat) : Int)]) (.bl true) = true := by decide +kernel
theorem power_all_1 : ∀ p < 30, sameO (m_law_power [.int ((p + 31 : Nat) : Int)]) (.bl true) = true := by decide +kernel
theorem power_all_2 : ∀ p < 30, sameO (m_law_power [.int ((p + 61 : Nat) : Int)]) (.bl true) = true := by decide +kernel
theorem power_all_3 : ∀ p < 30, sameO (m_law_power [.int ((p + 91 : Nat) : Int)]) (.bl true) = true := by decide +kernel
theorem power_all_4 : ∀ p < 30, sameO (m_law_power [.int ((p + 121 : Nat) : Int)]) (.bl true) = true := by decide +kernel
theorem power_all_5 : ∀ p < 30, sameO (m_law_power [.int ((p + 151 : Nat) : Int)]) (.bl true) = true := by decide +kernel
theorem power_all_6 : ∀ p < 30, sameO (m_law_power [.int ((p + 181 : Nat) : Int)]) (.bl true) = true := by decide +kernel
theorem power_all_7 : ∀ p < 30, sameO (m_law_power [.int ((p + 211 : Nat) : Int)]) (.bl true) = true := by decide +kernel
theorem power_all_8 : ∀ p < 30, sameO (m_law_power [.int ((p + 241 : Nat) : Int)]) (.bl true) = true := by decide +kernel
theorem power_all_9 : ∀ p < 30, sameO (m_law_power [.int ((p + 271 : Nat) : Int)]) (.bl true) = true := by decide +kernel
theorem power_all_10 : ∀ p < 30, sameO (m_law_power [.int ((p + 301 : Nat) : Int)]) (.bl true) = true := by decide +kernel
theorem power_all_11 : ∀ p < 30, sameO (m_law_power [.int ((p + 331 : Nat) : Int)]) (.bl true) = true := by decide +kernel
theorem power_all_12 : ∀ p < 30, sameO (m_law_power [.int ((p + 361 : Nat) : Int)]) (.bl true) = true := by decide +kernel
theorem power_all_13 : ∀ p < 30, sameO (m_law_power [.int ((p + 391 : Nat) : Int)]) (.bl true) = true := by decide +kernel
theorem power_all_14 : ∀ p < 30, sameO (m_law_power [.int ((p + 421 : Nat) : Int)]) (.bl true) = true := by decide +kernel
theorem power_all_15 : ∀ p < 30, sameO (m_law_power [.int ((p + 451 : Nat) : Int)]) (.bl true) = true := by decide +kernel
theorem power_all_16 : ∀ p < 30, sameO (m_law_power [.int ((p + 481 : Nat) : Int)]) (.bl true) = true := by decide +kernel
theorem power_all_17 : ∀ p < 30, sameO (m_law_power [.int ((p + 511 : Nat) : Int)]) (.bl true) = true := by decide +kernel
theorem power_all_18 : ∀ p < 30, sameO (m_law_power [.int ((p + 541 : Nat) : Int)]) (.bl true) = true := by decide +kernel
theorem power_all_19 : ∀ p < 30, sameO (m_law_power [.int ((p + 571 : Nat) : Int)]) (.bl true) = true := by decide +kernel
theorem power_all_20 : ∀ p < 30, sameO (m_law_power [.int ((p + 601 : Nat) : Int)]) (.bl true) = true := by decide +kernel
theorem power_all_21 : ∀ p < 30, sameO (m_law_power [.int ((p + 631 : Nat) : Int)]) (.bl true) = true := by decide +kernel
theorem power_all_22 : ∀ p < 30, sameO (m_law_power [.int ((p + 661 : Nat) : Int)]) (.bl true) = true := by decide +kernel
theorem power_all_23 : ∀ p < 30, sameO (m_law_power [.int ((p + 691 : Nat) : Int)]) (.bl true) = true := by decide +kernel
theorem power_all_24 : ∀ p < 30, sameO (m_law_power [.int ((p + 721 : Nat) : Int)]) (.bl true) = true := by decide +kernel
theorem power_all_25 : ∀ p < 30, sameO (m_law_power [.int ((p + 751 : Nat) : Int)]) (.bl true) = true := by decide +kernel
theorem power_all_26 : ∀ p < 30, sameO (m_law_power [.int ((p + 781 : Nat) : Int)]) (.bl true) = true := by decide +kernel
theorem power_all_27 : ∀ p < 30, sameO (m_law_power [.int ((p + 811 : Nat) : Int)]) (.bl true) = true := by decide +kernel
theorem power_all_28 : ∀ p < 30, sameO (m_law_power [.int ((p + 841 : Nat) : Int)]) (.bl true) = true := by decide +kernel
theorem power_all_29 : ∀ p < 30, sameO (m_law_power [.int ((p + 871 : Nat) : Int)]) (.bl true) = true := by decide +kernel
theorem power_all_30 : ∀ p < 30, sameO (m_law_power [.int ((p + 901 : Nat) : Int)]) (.bl true) = true := by decide +kernel
theorem power_all_31 : ∀ p < 30, sameO (m_law_power [.int ((p + 931 : Nat) : Int)]) (.bl true) = true := by decide +kernel
theorem power_all_32 : ∀ p < 30, sameO (m_law_power [.int ((p + 961 : Nat) : Int)]) (.bl true) = true := by decide +kernel
theorem power_all : ∀ p < 990, sameO (m_law_power [.int ((p + 1 : Nat) : Int)]) (.bl true) = true := by
  intro p hp
  by_cases h0 : p < 30
  · have h := power_all_0 (p - 0) (by omega)
    rwa [show p - 0 + 1 = p + 1 by omega] at h
  by_cases h1 : p < 60
  · have h := power_all_1 (p - 30) (by omega)
    rwa [show p - 30 + 31 = p + 1 by omega] at h
  by_cases h2 : p < 90
  · have h := power_all_2 (p - 60) (by omega)
    rwa [show p - 60 + 61 = p + 1 by omega] at h
  by_cases h3 : p < 120
  · have h := power_all_3 (p - 90) (by omega)
    rwa [show p - 90 + 91 = p + 1 by omega] at h
  by_cases h4 : p < 150
  · have h := power_all_4 (p - 120) (by omega)
    rwa [show p - 120 + 121 = p + 1 by omega] at h
  by_cases h5 : p < 180
  · have h := power_all_5 (p - 150) (by omega)
    rwa [show p - 150 + 151 = p + 1 by omega] at h
  by_cases h6 : p < 210
  · have h := power_all_6 (p - 180) (by omega)
    rwa [show p - 180 + 181 = p + 1 by omega] at h
  by_cases h7 : p < 240
  · have h := power_all_7 (p - 210) (by omega)
    rwa [show p - 210 + 211 = p + 1 by omega] at h
  by_cases h8 : p < 270
  · have h := power_all_8 (p - 240) (by omega)
    rwa [show p - 240 + 241 = p + 1 by omega] at h
  by_cases h9 : p < 300
  · have h := power_all_9 (p - 270) (by omega)
    rwa [show p - 270 + 271 = p + 1 by omega] at h
  by_cases h10 : p < 330
  · have h := power_all_10 (p - 300) (by omega)
    rwa [show p - 300 + 301 = p + 1 by omega] at h
  by_cases h11 : p < 360
  · have h := power_all_11 (p - 330) (by omega)
    rwa [show p - 330 + 331 = p + 1 by omega] at h
  by_cases h12 : p < 390
  · have h := power_all_12 (p - 360) (by omega)
    rwa [show p - 360 + 361 = p + 1 by omega] at h
  by_cases h13 : p < 420
  · have h := power_all_13 (p - 390) (by omega)
    rwa [show p - 390 + 391 = p + 1 by omega] at h
  by_cases h14 : p < 450
  · have h := power_all_14 (p - 420) (by omega)
    rwa [show p - 420 + 421 = p + 1 by omega] at h
  by_cases h15 : p < 480
  · have h := power_all_15 (p - 450) (by omega)
    rwa [show p - 450 + 451 = p + 1 by omega] at h
  by_cases h16 : p < 510
  · have h := power_all_16 (p - 480) (by omega)
    rwa [show p - 480 + 481 = p + 1 by omega] at h
  by_cases h17 : p < 540
  · have h := power_all_17 (p - 510) (by omega)
    rwa [show p - 510 + 511 = p + 1 by omega] at h
  by_cases h18 : p < 570
  · have h := power_all_18 (p - 540) (by omega)
    rwa [show p - 540 + 541 = p + 1 by omega] at h
  by_cases h19 : p < 600
  · have h := power_all_19 (p - 570) (by omega)
    rwa [show p - 570 + 571 = p + 1 by omega] at h
  by_cases h20 : p < 630
  · have h := power_all_20 (p - 600) (by omega)
    rwa [show p - 600 + 601 = p + 1 by omega] at h
  by_cases h21 : p < 660
  · have h := power_all_21 (p - 630) (by omega)
    rwa [show p - 630 + 631 = p + 1 by omega] at h
  by_cases h22 : p < 690
  · have h := power_all_22 (p - 660) (by omega)
    rwa [show p - 660 + 661 = p + 1 by omega] at h
  by_cases h23 : p < 720
  · have h := power_all_23 (p - 690) (by omega)
    rwa [show p - 690 + 691 = p + 1 by omega] at h
  by_cases h24 : p < 750
  · have h := power_all_24 (p - 720) (by omega)
    rwa [show p - 720 + 721 = p + 1 by omega] at h
  by_cases h25 : p < 780
  · have h := power_all_25 (p - 750) (by omega)
    rwa [show p - 750 + 751 = p + 1 by omega] at h
  by_cases h26 : p < 810
  · have h := power_all_26 (p - 780) (by omega)
    rwa [show p - 780 + 781 = p + 1 by omega] at h
  by_cases h27 : p < 840
  · have h := power_all_27 (p - 810) (by omega)
    rwa [show p - 810 + 811 = p + 1 by omega] at h
  by_cases h28 : p < 870
  · have h := power_all_28 (p - 840) (by omega)
    rwa [show p - 840 + 841 = p + 1 by omega] at h
  by_cases h29 : p < 900
  · have h := power_all_29 (p - 870) (by omega)
    rwa [show p - 870 + 871 = p + 1 by omega] at h
  by_cases h30 : p < 930
  · have h := power_all_30 (p - 900) (by omega)
    rwa [show p - 900 + 901 = p + 1 by omega] at h
  by_cases h31 : p < 960
  · have h := power_all_31 (p - 930) (by omega)
    rwa [show p - 930 + 931 = p + 1 by omega] at h
  have h := power_all_32 (p - 960) (by omega)
  rwa [show p - 960 + 961 = p + 1 by omega] at h
theorem one_bell_m {p : Nat} (hp : p < 990) : m_law_one_bell [.int ((p + 1 : Nat) : Int)] = some (.bl true) := by
  have h := oneT_all p hp
  generalize hq : p + 1 = q at h
  have q0 : 0 < q := by omega
  have q1 : q ≤ 1000 := by omega
  unfold oneT at h
  simp only [Bool.and_eq_true] at h
  obtain ⟨h1, h2, h3, h4, h5, h6, h7⟩ := h
  have h1 := sameO_eq h1
  have h2 := sameO_eq h2
  have h3 := sameO_eq h3
  have h4 := sameO_eq h4
  have h5 := sameO_eq h5
  have h6 := sameO_eq h6
  have h7 := sameO_eq h7
  have h8 := ring_at_two q0 q1 (idx := 100000000000) (by decide)
  have h8 : m_ring_at [.bell [(q : Int), (q : Int)], .int 100000000000] = some (.int ((100000000000 * q : Nat) : Int)) := h8
  have o1 : opBells [.int (q : Nat)] = some (.bell [(q : Int)]) := bells_of (ps := [q]) ⟨by simp, by simp, fun x hx => by simp at hx; omega⟩
  have o2 : opBells [.int (q : Nat), .int (q : Nat)] = some (.bell [(q : Int), (q : Int)]) := bells_of (ps := [q, q]) ⟨by simp, by simp, fun x hx => by simp at hx; omega⟩
  have m100 : opMul (.int 100) (.int (q : Nat)) = some (.int ((100 * q : Nat) : Int)) := mul_n (a := 100) (by omega)
  have p6 : opPow (.int 10) (.int 6) = some (.int 1000000) := sameO_eq (by decide +kernel)
  have p11 : opPow (.int 10) (.int 11) = some (.int 100000000000) := sameO_eq (by decide +kernel)
  have m11 : opMul (.int (q : Nat)) (.int 100000000000) = some (.int ((100000000000 * q : Nat) : Int)) := by
    have := mul_n (a := q) (b := 100000000000) (by decide)
    rw [Nat.mul_comm] at this
    exact this
  have sb : opSub (.int ((100 * q : Nat) : Int)) (.int 100) = some (.int ((100 * q - 100 : Nat) : Int)) := by rw [p_sub, show ((100 * q : Nat) : Int) - 100 = ((100 * q - 100 : Nat) : Int) by omega]
  have m2 : opMul (.int 2) (.int (q : Nat)) = some (.int ((2 * q : Nat) : Int)) := mul_n (a := 2) (by omega)
  have a1 : opAdd (.int (q : Nat)) (.int 1) = some (.int ((q + 1 : Nat) : Int)) := add_nn q 1
  have e101 : opNe (.int 101) (.int 101) = some (.bl false) := rfl
  have e100 : opNe (.int 100) (.int 100) = some (.bl false) := rfl
  have e0 : opNe (.int 0) (.int 0) = some (.bl false) := rfl
  have n1 := p_neN (100 * q - 100) (100 * q - 100)
  rw [decide_eq_true rfl] at n1
  have n2 := p_neN (100000000000 * q) (100000000000 * q)
  rw [decide_eq_true rfl] at n2
  have y1 := p_eqN q q
  rw [decide_eq_true rfl] at y1
  have y2 := p_eqN (2 * q) (2 * q)
  rw [decide_eq_true rfl] at y2
  have isn : isNone D.non = true := rfl
  refine run_rt rfl ?_
  simp only [bnd_some, bnd_none, p_dc, p_dv, lk_z, lk_s, st_z, st_s, un_z, un_s, wipe_n, wipe_c, p_d2, p_d1, p_dnil, p_dcons, p_dL, p_asB, p_asI, p_asL, p_asSeqL, p_asSeqT, p_bV, p_dB, p_bAnd, p_bOr, p_bNot, p_dIf, p_dAnd, p_dOr, p_dNot, p_dCh, p_bYes, p_gN, p_gT, p_gsNil, p_gsCons, p_dNx, p_dRet, p_dSet, p_dIfS, p_dAsg, p_dPar, p_dAug, p_dApp, p_dSetIx, p_nLst, p_nRep, p_nOf, p_dSetN, p_dParN1, p_dParNN, p_iSeq, p_iRng1, p_iRng2, p_oNo, p_oIx, p_dSl, p_asIx, p_opTup, p_opLst, p_lenT, p_lenL, p_lenS, p_tupT, p_tupL, p_add, p_sub, p_mul, p_lt, p_le, p_gt, p_ge, p_eqI, p_neI, p_isN, p_isnN, p_isB, p_isnB, p_isNone_n, p_isNone_i, p_isNone_t, p_isNone_l, p_appL, p_appT, b_mc, b_mn, b_ac, b_an, b_rs, b_rz, b_lc, b_ln, b_it, b_if, b_itt, b_iff, p_dSeq, p_eqB, p_neB, len_eT, len_eR, len_eV, isNone_eO, seq_eT, seq_eR, seq_eV, seq_eL, eO_some, eO_none, len_eL, p_dOrT, ↓p_eqN, ↓p_neN, ↓p_ltN, ↓p_leN, ↓p_gtN, ↓p_geN, Nat.reduceSub, Nat.reduceAdd, Nat.reduceLeDiff, Bool.not_true, Bool.false_eq_true, if_false, isn, o1, o2, m100, h1, h2, h3, h4, h5, h6, h7, h8, p6, p11, ↓m11, ↓sb, m2, ↓a1, ↓e101, ↓e100, ↓e0, ↓n1, ↓n2, ↓y1, ↓y2]
  try rfl
end Mi
namespace Mi
open DL
theorem k30_b1 {ns : List Int} (hns : ns.length ≤ 63) {i : Nat} (hi : i < 6) {ρ : Rho} (hl : ρ.length = 6) (h0 : lk ρ 0 = some (.scr ns)) (h1 : lk ρ 1 = some (.int i)) :
    ∃ ρ', m_k30_b1 ρ = some (.nx ρ') ∧ Ag [1, 2] ρ ρ' := by
  obtain ⟨ds, hd, hb, hds⟩ := digits_m hns (i := i) (count := 4) (base := 990) (by omega) (by decide) (by decide) (by decide)
  have hds : m_law_digits [.scr ns, .int i, .int 4, .int 990] = some (eL ds) := hds
  have d0 : opIx (eL ds) (.int 0) = some (.int (ds.getD 0 0)) := ix_eL (k := 0) (by omega)
  have b0 : ds.getD 0 0 < 990 := by
    have := hb (ds.getD 0 0) (by rw [List.getD_eq_getElem?_getD, List.getElem?_eq_getElem (by omega)]; exact List.getElem_mem (by omega))
    omega
  generalize ds.getD 0 0 = p at d0 b0
  have ad : opAdd (.int 1) (.int (p : Nat)) = some (.int ((p + 1 : Nat) : Int)) := by rw [p_add, show (1 : Int) + (p : Int) = ((p + 1 : Nat) : Int) by omega]
  have o := one_bell_m b0
  have w := sameO_eq (power_all p b0)
  refine ⟨st ρ 2 (.int ((p + 1 : Nat) : Int)), ?_, (Ag.refl _ ρ).st (by decide)⟩
  simp only [m_k30_b1, bnd_some, bnd_none, p_dc, p_dv, lk_z, lk_s, st_z, st_s, un_z, un_s, wipe_n, wipe_c, p_d2, p_d1, p_dnil, p_dcons, p_dL, p_asB, p_asI, p_asL, p_asSeqL, p_asSeqT, p_bV, p_dB, p_bAnd, p_bOr, p_bNot, p_dIf, p_dAnd, p_dOr, p_dNot, p_dCh, p_bYes, p_gN, p_gT, p_gsNil, p_gsCons, p_dNx, p_dRet, p_dSet, p_dIfS, p_dAsg, p_dPar, p_dAug, p_dApp, p_dSetIx, p_nLst, p_nRep, p_nOf, p_dSetN, p_dParN1, p_dParNN, p_iSeq, p_iRng1, p_iRng2, p_oNo, p_oIx, p_dSl, p_asIx, p_opTup, p_opLst, p_lenT, p_lenL, p_lenS, p_tupT, p_tupL, p_add, p_sub, p_mul, p_lt, p_le, p_gt, p_ge, p_eqI, p_neI, p_isN, p_isnN, p_isB, p_isnB, p_isNone_n, p_isNone_i, p_isNone_t, p_isNone_l, p_appL, p_appT, b_mc, b_mn, b_ac, b_an, b_rs, b_rz, b_lc, b_ln, b_it, b_if, b_itt, b_iff, p_dSeq, p_eqB, p_neB, len_eT, len_eR, len_eV, isNone_eO, seq_eT, seq_eR, seq_eV, seq_eL, eO_some, eO_none, len_eL, p_dOrT, ↓p_eqN, ↓p_neN, ↓p_ltN, ↓p_leN, ↓p_gtN, ↓p_geN, h0, h1, hds, d0, ↓ad, lk_st_o, lk_st_i, len_st, Nat.reduceBEq, Nat.reduceLT, hl, o, w, Bool.not_true]
theorem k30_g1 : m_count_with [.tup [.tup [.int 12, .int 20], .tup [.int 6, .int 30]], .int 0, .int 4] = some (.int 5) := sameO_eq (by decide +kernel)
theorem k30_g2 : m_single_mends [.tup [.tup [.int 4, .int 1], .tup [.int 1, .int 1]]] = some (.lst [.tup [.int 0, .int 0, .lst [.int 1]], .tup [.int 0, .int 1, .lst [.int 4]], .tup [.int 1, .int 0, .lst [.int 4]]]) := sameO_eq (by decide +kernel)
theorem k30_g3 : m_wrong_sets [.tup [.tup [.int 4, .int 1], .tup [.int 1, .int 1]]] = some (.lst [.tup [.tup [.int 0, .int 0]], .tup [.tup [.int 0, .int 1]], .tup [.tup [.int 1, .int 0]]]) := sameO_eq (by decide +kernel)
theorem k30_g4 : m_wrong_sets [.tup [.tup [.int 12, .int 20], .tup [.int 6, .int 30]]] = some (.lst [.tup []]) := sameO_eq (by decide +kernel)
theorem k30_g5 : m_surely_wrong [.tup [.tup [.int 4, .int 1, .int 1], .tup [.int 1, .int 1, .int 1], .tup [.int 1, .int 1, .int 1]]] = some (.lst [.tup [.int 0, .int 0]]) := sameO_eq (by decide +kernel)
theorem k30_g6 : m_ring_at [.bell [4, 6], .int 0] = some (.int 0) := sameO_eq (by decide +kernel)
theorem k30_g7 : m_ring_at [.bell [4, 6], .int 4] = some (.int 12) := sameO_eq (by decide +kernel)
theorem k30_g8 : m_ring_at [.bell [7], .int 1000000000000] = some (.int 7000000000000) := sameO_eq (by decide +kernel)
def fst3 : List (List Nat × Nat) := [([0], 4), ([0, 1], 12), ([], 1)]
theorem k30_g9 : ∀ q ∈ fst3, sameO (m_first_with [.bell [4, 6], eI q.1, .int 1]) (.int (q.2 : Nat)) = true := by decide +kernel
theorem plain_k30 (ns : List Int) (h : ns.length ≤ 63) : m_k30 [.scr ns] = some (.bl true) := by
  obtain ⟨ρ', q1, ag⟩ := for_ag (b := m_k30_b1) (i := 1) (n := 6) (ws := [1, 2]) (ρ := some (.scr ns) :: List.replicate 5 none) (fun i : Nat => D.int i) (by decide) (by simp) (by
    intro k hk ρ' ag e
    obtain ⟨ρ'', q, ag'⟩ := k30_b1 h hk (by rw [ag.1]; rfl) (ag.lk 0 (by decide) rfl) e
    exact ⟨ρ'', q, ag.trans ag'⟩)
  have r6 : opRng1 [.int 6] = some ((List.range 6).map fun i : Nat => D.int i) := rng1 (n := 6) (by decide)
  have f := (for_eq (it := iRng1 (dcons (dc (.int 6)) dnil)) (ρ := some (.scr ns) :: List.replicate 5 none) (by simp only [bnd_some, bnd_none, p_dc, p_dv, lk_z, lk_s, st_z, st_s, un_z, un_s, wipe_n, wipe_c, p_d2, p_d1, p_dnil, p_dcons, p_dL, p_asB, p_asI, p_asL, p_asSeqL, p_asSeqT, p_bV, p_dB, p_bAnd, p_bOr, p_bNot, p_dIf, p_dAnd, p_dOr, p_dNot, p_dCh, p_bYes, p_gN, p_gT, p_gsNil, p_gsCons, p_dNx, p_dRet, p_dSet, p_dIfS, p_dAsg, p_dPar, p_dAug, p_dApp, p_dSetIx, p_nLst, p_nRep, p_nOf, p_dSetN, p_dParN1, p_dParNN, p_iSeq, p_iRng1, p_iRng2, p_oNo, p_oIx, p_dSl, p_asIx, p_opTup, p_opLst, p_lenT, p_lenL, p_lenS, p_tupT, p_tupL, p_add, p_sub, p_mul, p_lt, p_le, p_gt, p_ge, p_eqI, p_neI, p_isN, p_isnN, p_isB, p_isnB, p_isNone_n, p_isNone_i, p_isNone_t, p_isNone_l, p_appL, p_appT, b_mc, b_mn, b_ac, b_an, b_rs, b_rz, b_lc, b_ln, b_it, b_if, b_itt, b_iff, p_dSeq, p_eqB, p_neB, len_eT, len_eR, len_eV, isNone_eO, seq_eT, seq_eR, seq_eV, seq_eL, eO_some, eO_none, len_eL, p_dOrT, ↓p_eqN, ↓p_neN, ↓p_ltN, ↓p_leN, ↓p_gtN, ↓p_geN, r6])).trans q1
  have hl : ρ'.length = 6 := by rw [ag.1]; rfl
  refine run_rt rfl ?_
  have f : dFor (iRng1 (dcons (dc (.int 6)) dnil)) (gN 1) m_k30_b1 ([D.scr ns].map some ++ List.replicate (6 - 1) none) = some (.nx ρ') := f
  have o46 : opBells [.int 4, .int 6] = some (.bell [4, 6]) := rfl
  have o7 : opBells [.int 7] = some (.bell [7]) := rfl
  have p12 : opPow (.int 10) (.int 12) = some (.int 1000000000000) := sameO_eq (by decide +kernel)
  have m12 : opMul (.int 7) (.int 1000000000000) = some (.int 7000000000000) := sameO_eq (by decide +kernel)
  have c1 : m_k30_c1 (st ρ' 3 (.tup [.tup [.int 12, .int 20], .tup [.int 6, .int 30]])) = some (.lst [.int 4, .int 1]) := by
    unfold m_k30_c1
    rw [comp_all (fun v : Nat => D.int v) (fun v => .int (if v = 6 then 4 else if v = 3 then 1 else 0 : Nat)) [6, 3] (by simp only [bnd_some, bnd_none, p_dc, p_dv, lk_z, lk_s, st_z, st_s, un_z, un_s, wipe_n, wipe_c, p_d2, p_d1, p_dnil, p_dcons, p_dL, p_asB, p_asI, p_asL, p_asSeqL, p_asSeqT, p_bV, p_dB, p_bAnd, p_bOr, p_bNot, p_dIf, p_dAnd, p_dOr, p_dNot, p_dCh, p_bYes, p_gN, p_gT, p_gsNil, p_gsCons, p_dNx, p_dRet, p_dSet, p_dIfS, p_dAsg, p_dPar, p_dAug, p_dApp, p_dSetIx, p_nLst, p_nRep, p_nOf, p_dSetN, p_dParN1, p_dParNN, p_iSeq, p_iRng1, p_iRng2, p_oNo, p_oIx, p_dSl, p_asIx, p_opTup, p_opLst, p_lenT, p_lenL, p_lenS, p_tupT, p_tupL, p_add, p_sub, p_mul, p_lt, p_le, p_gt, p_ge, p_eqI, p_neI, p_isN, p_isnN, p_isB, p_isnB, p_isNone_n, p_isNone_i, p_isNone_t, p_isNone_l, p_appL, p_appT, b_mc, b_mn, b_ac, b_an, b_rs, b_rz, b_lc, b_ln, b_it, b_if, b_itt, b_iff, p_dSeq, p_eqB, p_neB, len_eT, len_eR, len_eV, isNone_eO, seq_eT, seq_eR, seq_eV, seq_eL, eO_some, eO_none, len_eL, p_dOrT, ↓p_eqN, ↓p_neN, ↓p_ltN, ↓p_leN, ↓p_gtN, ↓p_geN, Nat.reduceAdd, Nat.reduceLeDiff]; rfl) (by decide) (by
      intro v hv
      have := k21_g0 v (by
        simp only [List.mem_cons, List.not_mem_nil, or_false] at hv ⊢
        rcases hv with e | e
        · exact .inl e
        · exact .inr (.inl e))
      refine ⟨_, rfl, ?_⟩
      simp only [bnd_some, bnd_none, p_dc, p_dv, lk_z, lk_s, st_z, st_s, un_z, un_s, wipe_n, wipe_c, p_d2, p_d1, p_dnil, p_dcons, p_dL, p_asB, p_asI, p_asL, p_asSeqL, p_asSeqT, p_bV, p_dB, p_bAnd, p_bOr, p_bNot, p_dIf, p_dAnd, p_dOr, p_dNot, p_dCh, p_bYes, p_gN, p_gT, p_gsNil, p_gsCons, p_dNx, p_dRet, p_dSet, p_dIfS, p_dAsg, p_dPar, p_dAug, p_dApp, p_dSetIx, p_nLst, p_nRep, p_nOf, p_dSetN, p_dParN1, p_dParNN, p_iSeq, p_iRng1, p_iRng2, p_oNo, p_oIx, p_dSl, p_asIx, p_opTup, p_opLst, p_lenT, p_lenL, p_lenS, p_tupT, p_tupL, p_add, p_sub, p_mul, p_lt, p_le, p_gt, p_ge, p_eqI, p_neI, p_isN, p_isnN, p_isB, p_isnB, p_isNone_n, p_isNone_i, p_isNone_t, p_isNone_l, p_appL, p_appT, b_mc, b_mn, b_ac, b_an, b_rs, b_rz, b_lc, b_ln, b_it, b_if, b_itt, b_iff, p_dSeq, p_eqB, p_neB, len_eT, len_eR, len_eV, isNone_eO, seq_eT, seq_eR, seq_eV, seq_eL, eO_some, eO_none, len_eL, p_dOrT, ↓p_eqN, ↓p_neN, ↓p_ltN, ↓p_leN, ↓p_gtN, ↓p_geN, lk_st_o, lk_st_i, lk_un_o, len_st, len_un, Nat.reduceBEq, Nat.reduceLT, hl, this, Nat.reduceAdd, Nat.reduceLeDiff])]
    rfl
  have c2 : ∀ ρ0 : Rho, ρ0.length = 6 → m_k30_c2 ρ0 = some (.lst [.int 4, .int 12, .int 1]) := fun ρ0 hl0 => by
    unfold m_k30_c2
    rw [comp_all (fun q : List Nat × Nat => eI q.1) (fun q => .int (q.2 : Nat)) fst3 (by simp only [bnd_some, bnd_none, p_dc, p_dv, lk_z, lk_s, st_z, st_s, un_z, un_s, wipe_n, wipe_c, p_d2, p_d1, p_dnil, p_dcons, p_dL, p_asB, p_asI, p_asL, p_asSeqL, p_asSeqT, p_bV, p_dB, p_bAnd, p_bOr, p_bNot, p_dIf, p_dAnd, p_dOr, p_dNot, p_dCh, p_bYes, p_gN, p_gT, p_gsNil, p_gsCons, p_dNx, p_dRet, p_dSet, p_dIfS, p_dAsg, p_dPar, p_dAug, p_dApp, p_dSetIx, p_nLst, p_nRep, p_nOf, p_dSetN, p_dParN1, p_dParNN, p_iSeq, p_iRng1, p_iRng2, p_oNo, p_oIx, p_dSl, p_asIx, p_opTup, p_opLst, p_lenT, p_lenL, p_lenS, p_tupT, p_tupL, p_add, p_sub, p_mul, p_lt, p_le, p_gt, p_ge, p_eqI, p_neI, p_isN, p_isnN, p_isB, p_isnB, p_isNone_n, p_isNone_i, p_isNone_t, p_isNone_l, p_appL, p_appT, b_mc, b_mn, b_ac, b_an, b_rs, b_rz, b_lc, b_ln, b_it, b_if, b_itt, b_iff, p_dSeq, p_eqB, p_neB, len_eT, len_eR, len_eV, isNone_eO, seq_eT, seq_eR, seq_eV, seq_eL, eO_some, eO_none, len_eL, p_dOrT, ↓p_eqN, ↓p_neN, ↓p_ltN, ↓p_leN, ↓p_gtN, ↓p_geN, Nat.reduceAdd, Nat.reduceLeDiff, Nat.zero_le]; rfl) (by decide) (by
      intro q hq
      have := sameO_eq (k30_g9 q hq)
      refine ⟨_, rfl, ?_⟩
      simp only [bnd_some, bnd_none, p_dc, p_dv, lk_z, lk_s, st_z, st_s, un_z, un_s, wipe_n, wipe_c, p_d2, p_d1, p_dnil, p_dcons, p_dL, p_asB, p_asI, p_asL, p_asSeqL, p_asSeqT, p_bV, p_dB, p_bAnd, p_bOr, p_bNot, p_dIf, p_dAnd, p_dOr, p_dNot, p_dCh, p_bYes, p_gN, p_gT, p_gsNil, p_gsCons, p_dNx, p_dRet, p_dSet, p_dIfS, p_dAsg, p_dPar, p_dAug, p_dApp, p_dSetIx, p_nLst, p_nRep, p_nOf, p_dSetN, p_dParN1, p_dParNN, p_iSeq, p_iRng1, p_iRng2, p_oNo, p_oIx, p_dSl, p_asIx, p_opTup, p_opLst, p_lenT, p_lenL, p_lenS, p_tupT, p_tupL, p_add, p_sub, p_mul, p_lt, p_le, p_gt, p_ge, p_eqI, p_neI, p_isN, p_isnN, p_isB, p_isnB, p_isNone_n, p_isNone_i, p_isNone_t, p_isNone_l, p_appL, p_appT, b_mc, b_mn, b_ac, b_an, b_rs, b_rz, b_lc, b_ln, b_it, b_if, b_itt, b_iff, p_dSeq, p_eqB, p_neB, len_eT, len_eR, len_eV, isNone_eO, seq_eT, seq_eR, seq_eV, seq_eL, eO_some, eO_none, len_eL, p_dOrT, ↓p_eqN, ↓p_neN, ↓p_ltN, ↓p_leN, ↓p_gtN, ↓p_geN, lk_st_o, lk_st_i, lk_un_o, len_st, len_un, Nat.reduceBEq, Nat.reduceLT, hl0, o46, this])]
    rfl
  have cc2 := c2 (st ρ' 3 (.tup [.tup [.int 12, .int 20], .tup [.int 6, .int 30]])) (by rw [len_st, hl])
  have e1 : opNe (.lst [.int 4, .int 1]) (.lst [.int 4, .int 1]) = some (.bl false) := sameO_eq (by decide +kernel)
  have e2 : opNe (.int 5) (.int 5) = some (.bl false) := rfl
  have e3 : opNe (.tup [.int 1, .int 5]) (.tup [.int 1, .int 5]) = some (.bl false) := sameO_eq (by decide +kernel)
  have e4 : opNe (.lst [.int 6]) (.lst [.int 6]) = some (.bl false) := sameO_eq (by decide +kernel)
  have e5 : opNe (.lst [.int 8]) (.lst [.int 8]) = some (.bl false) := sameO_eq (by decide +kernel)
  have e6 : opNe (.lst [.tup [.int 0, .int 0, .lst [.int 1]], .tup [.int 0, .int 1, .lst [.int 4]], .tup [.int 1, .int 0, .lst [.int 4]]]) (.lst [.tup [.int 0, .int 0, .lst [.int 1]], .tup [.int 0, .int 1, .lst [.int 4]], .tup [.int 1, .int 0, .lst [.int 4]]]) = some (.bl false) := sameO_eq (by decide +kernel)
  have e7 : opNe (.lst [.tup [.tup [.int 0, .int 0]], .tup [.tup [.int 0, .int 1]], .tup [.tup [.int 1, .int 0]]]) (.lst [.tup [.tup [.int 0, .int 0]], .tup [.tup [.int 0, .int 1]], .tup [.tup [.int 1, .int 0]]]) = some (.bl false) := sameO_eq (by decide +kernel)
  have e8 : opNe (.lst [.tup []]) (.lst [.tup []]) = some (.bl false) := sameO_eq (by decide +kernel)
  have e9 : opNe (.lst [.tup [.int 0, .int 0]]) (.lst [.tup [.int 0, .int 0]]) = some (.bl false) := sameO_eq (by decide +kernel)
  have e10 : opNe (.lst [.int 0, .int 12, .int 7000000000000]) (.lst [.int 0, .int 12, .int 7000000000000]) = some (.bl false) := sameO_eq (by decide +kernel)
  have e11 : opEq (.lst [.int 4, .int 12, .int 1]) (.lst [.int 4, .int 12, .int 1]) = some (.bl true) := sameO_eq (by decide +kernel)
  rw [p_dSeq, f]
  simp only [bnd_some, bnd_none, p_dc, p_dv, lk_z, lk_s, st_z, st_s, un_z, un_s, wipe_n, wipe_c, p_d2, p_d1, p_dnil, p_dcons, p_dL, p_asB, p_asI, p_asL, p_asSeqL, p_asSeqT, p_bV, p_dB, p_bAnd, p_bOr, p_bNot, p_dIf, p_dAnd, p_dOr, p_dNot, p_dCh, p_bYes, p_gN, p_gT, p_gsNil, p_gsCons, p_dNx, p_dRet, p_dSet, p_dIfS, p_dAsg, p_dPar, p_dAug, p_dApp, p_dSetIx, p_nLst, p_nRep, p_nOf, p_dSetN, p_dParN1, p_dParNN, p_iSeq, p_iRng1, p_iRng2, p_oNo, p_oIx, p_dSl, p_asIx, p_opTup, p_opLst, p_lenT, p_lenL, p_lenS, p_tupT, p_tupL, p_add, p_sub, p_mul, p_lt, p_le, p_gt, p_ge, p_eqI, p_neI, p_isN, p_isnN, p_isB, p_isnB, p_isNone_n, p_isNone_i, p_isNone_t, p_isNone_l, p_appL, p_appT, b_mc, b_mn, b_ac, b_an, b_rs, b_rz, b_lc, b_ln, b_it, b_if, b_itt, b_iff, p_dSeq, p_eqB, p_neB, len_eT, len_eR, len_eV, isNone_eO, seq_eT, seq_eR, seq_eV, seq_eL, eO_some, eO_none, len_eL, p_dOrT, ↓p_eqN, ↓p_neN, ↓p_ltN, ↓p_leN, ↓p_gtN, ↓p_geN, Nat.reduceAdd, Nat.reduceLeDiff, Nat.zero_le, lk_st_o, lk_st_i, len_st, Nat.reduceBEq, Nat.reduceLT, hl, c1, cc2, k30_g1, k30_g2, k30_g3, k30_g4, k30_g5, k30_g6, k30_g7, k30_g8, k21_g2, k21_g3, k21_g4, o46, o7, p12, m12, ↓e1, ↓e2, ↓e3, ↓e4, ↓e5, ↓e6, ↓e7, ↓e8, ↓e9, ↓e10, ↓e11]
  try rfl
end Mi
namespace My
open PySem PySem.Spec PyProof.Rows L2 DL Mi
def topS (i : Nat) : Stmt := PySem.Challenge.pw_meetperiods_k30_worked_shares_mends_and.main.body.getD i (.Pass ⟨0, 0, 0, 0⟩)
abbrev s_is_integer : Stmt := topS 1
abbrev N_is_integer : List Str := ["value", "low", "high"]
theorem sc_is_integer : FnScope N_is_integer ["value", "low", "high"] (defScope s_is_integer) := ⟨rfl, rfl, rfl, by decide +kernel, rfl, by decide +kernel, by decide +kernel⟩
abbrev s_gcd : Stmt := topS 2
abbrev N_gcd : List Str := ["one", "other"]
theorem sc_gcd : FnScope N_gcd ["one", "other"] (defScope s_gcd) := ⟨rfl, rfl, rfl, by decide +kernel, rfl, by decide +kernel, by decide +kernel⟩
abbrev s_lcm : Stmt := topS 3
abbrev N_lcm : List Str := ["one", "other"]
theorem sc_lcm : FnScope N_lcm ["one", "other"] (defScope s_lcm) := ⟨rfl, rfl, rfl, by decide +kernel, rfl, by decide +kernel, by decide +kernel⟩
abbrev s_prime_factors : Stmt := topS 4
abbrev N_prime_factors : List Str := ["number", "found", "trial"]
theorem sc_prime_factors : FnScope N_prime_factors ["number"] (defScope s_prime_factors) := ⟨rfl, rfl, rfl, by decide +kernel, rfl, by decide +kernel, by decide +kernel⟩
abbrev s_exponent : Stmt := topS 5
abbrev N_exponent : List Str := ["prime", "number", "found"]
theorem sc_exponent : FnScope N_exponent ["prime", "number"] (defScope s_exponent) := ⟨rfl, rfl, rfl, by decide +kernel, rfl, by decide +kernel, by decide +kernel⟩
abbrev s_power : Stmt := topS 6
abbrev N_power : List Str := ["prime", "times", "found", "turn"]
theorem sc_power : FnScope N_power ["prime", "times"] (defScope s_power) := ⟨rfl, rfl, rfl, by decide +kernel, rfl, by decide +kernel, by decide +kernel⟩
abbrev s_between : Stmt := topS 7
abbrev N_between : List Str := ["low", "high", "found", "prime", "times", "one", "number"]
theorem sc_between : FnScope N_between ["low", "high"] (defScope s_between) := ⟨rfl, rfl, rfl, by decide +kernel, rfl, by decide +kernel, by decide +kernel⟩
abbrev s_turned : Stmt := topS 9
abbrev N_turned : List Str := ["table", "column", "row"]
theorem sc_turned : FnScope N_turned ["table"] (defScope s_turned) := ⟨rfl, rfl, rfl, by decide +kernel, rfl, by decide +kernel, by decide +kernel⟩
abbrev s_row_divisor : Stmt := topS 10
abbrev N_row_divisor : List Str := ["row", "found", "entry"]
theorem sc_row_divisor : FnScope N_row_divisor ["row"] (defScope s_row_divisor) := ⟨rfl, rfl, rfl, by decide +kernel, rfl, by decide +kernel, by decide +kernel⟩
abbrev s_greatest : Stmt := topS 11
abbrev N_greatest : List Str := ["table", "row"]
theorem sc_greatest : FnScope N_greatest ["table"] (defScope s_greatest) := ⟨rfl, rfl, rfl, by decide +kernel, rfl, by decide +kernel, by decide +kernel⟩
abbrev s_known_places : Stmt := topS 12
abbrev N_known_places : List Str := ["table", "found", "row", "column"]
theorem sc_known_places : FnScope N_known_places ["table"] (defScope s_known_places) := ⟨rfl, rfl, rfl, by decide +kernel, rfl, by decide +kernel, by decide +kernel⟩
abbrev s_is_real : Stmt := topS 13
abbrev N_is_real : List Str := ["table", "rows", "columns", "row", "column"]
theorem sc_is_real : FnScope N_is_real ["table"] (defScope s_is_real) := ⟨rfl, rfl, rfl, by decide +kernel, rfl, by decide +kernel, by decide +kernel⟩
abbrev s_without : Stmt := topS 14
abbrev N_without : List Str := ["table", "places", "rows", "row", "line", "column"]
theorem sc_without : FnScope N_without ["table", "places"] (defScope s_without) := ⟨rfl, rfl, rfl, by decide +kernel, rfl, by decide +kernel, by decide +kernel⟩
abbrev s_all_primes : Stmt := topS 16
abbrev N_all_primes : List Str := ["table", "found", "row", "column", "prime"]
theorem sc_all_primes : FnScope N_all_primes ["table"] (defScope s_all_primes) := ⟨rfl, rfl, rfl, by decide +kernel, rfl, by decide +kernel, by decide +kernel⟩
abbrev s_sure : Stmt := topS 17
abbrev N_sure : List Str := ["table", "rows", "columns", "tops", "sides", "prime", "row", "column", "times"]
theorem sc_sure : FnScope N_sure ["table"] (defScope s_sure) := ⟨rfl, rfl, rfl, by decide +kernel, rfl, by decide +kernel, by decide +kernel⟩
abbrev s_entry_values : Stmt := topS 18
abbrev N_entry_values : List Str := ["table", "row", "column", "tops", "sides", "rows", "columns"]
theorem sc_entry_values : FnScope N_entry_values ["table", "row", "column"] (defScope s_entry_values) := ⟨rfl, rfl, rfl, by decide +kernel, rfl, by decide +kernel, by decide +kernel⟩
abbrev s_sets_for : Stmt := topS 19
abbrev N_sets_for : List Str := ["table", "prime", "tops", "sides", "rows", "columns", "full", "fixed", "loose", "sets", "at", "many", "pairs", "number", "row", "column", "some", "one", "other"]
theorem sc_sets_for : FnScope N_sets_for ["table", "prime"] (defScope s_sets_for) := ⟨rfl, rfl, rfl, by decide +kernel, rfl, by decide +kernel, by decide +kernel⟩
abbrev s_count_solutions : Stmt := topS 20
abbrev N_count_solutions : List Str := ["table", "count", "prime", "full", "sets", "total", "some", "ways", "at"]
theorem sc_count_solutions : FnScope N_count_solutions ["table"] (defScope s_count_solutions) := ⟨rfl, rfl, rfl, by decide +kernel, rfl, by decide +kernel, by decide +kernel⟩
abbrev s_ways_with : Stmt := topS 22
abbrev N_ways_with : List Str := ["full", "sets", "row", "times", "total", "some", "ways", "at"]
theorem sc_ways_with : FnScope N_ways_with ["full", "sets", "row", "times"] (defScope s_ways_with) := ⟨rfl, rfl, rfl, by decide +kernel, rfl, by decide +kernel, by decide +kernel⟩
abbrev s_prime_ways : Stmt := topS 23
abbrev N_prime_ways : List Str := ["table", "row", "found", "prime", "full", "sets", "times"]
theorem sc_prime_ways : FnScope N_prime_ways ["table", "row"] (defScope s_prime_ways) := ⟨rfl, rfl, rfl, by decide +kernel, rfl, by decide +kernel, by decide +kernel⟩
abbrev s_count_with : Stmt := topS 24
abbrev N_count_with : List Str := ["table", "row", "number", "count", "prime", "ways"]
theorem sc_count_with : FnScope N_count_with ["table", "row", "number"] (defScope s_count_with) := ⟨rfl, rfl, rfl, by decide +kernel, rfl, by decide +kernel, by decide +kernel⟩
abbrev s_number_share : Stmt := topS 25
abbrev N_number_share : List Str := ["table", "row", "number", "top", "bottom", "common"]
theorem sc_number_share : FnScope N_number_share ["table", "row", "number"] (defScope s_number_share) := ⟨rfl, rfl, rfl, by decide +kernel, rfl, by decide +kernel, by decide +kernel⟩
abbrev s_likeliest : Stmt := topS 26
abbrev N_likeliest : List Str := ["table", "row", "found", "prime", "ways", "best", "times", "count", "number"]
theorem sc_likeliest : FnScope N_likeliest ["table", "row"] (defScope s_likeliest) := ⟨rfl, rfl, rfl, by decide +kernel, rfl, by decide +kernel, by decide +kernel⟩
abbrev s_meetings : Stmt := topS 35
abbrev N_meetings : List Str := ["bells", "found", "period", "many", "length"]
theorem sc_meetings : FnScope N_meetings ["bells"] (defScope s_meetings) := ⟨rfl, rfl, rfl, by decide +kernel, rfl, by decide +kernel, by decide +kernel⟩
abbrev s_choose : Stmt := topS 36
abbrev N_choose : List Str := ["many", "some", "found", "turn"]
theorem sc_choose : FnScope N_choose ["many", "some"] (defScope s_choose) := ⟨rfl, rfl, rfl, by decide +kernel, rfl, by decide +kernel, by decide +kernel⟩
abbrev s_rung_to : Stmt := topS 37
abbrev N_rung_to : List Str := ["sets", "time", "found", "many", "length"]
theorem sc_rung_to : FnScope N_rung_to ["sets", "time"] (defScope s_rung_to) := ⟨rfl, rfl, rfl, by decide +kernel, rfl, by decide +kernel, by decide +kernel⟩
abbrev s_just_to : Stmt := topS 38
abbrev N_just_to : List Str := ["sets", "some", "time", "found", "many", "length"]
theorem sc_just_to : FnScope N_just_to ["sets", "some", "time"] (defScope s_just_to) := ⟨rfl, rfl, rfl, by decide +kernel, rfl, by decide +kernel, by decide +kernel⟩
abbrev s_count_rings : Stmt := topS 39
abbrev N_count_rings : List Str := ["bells", "low", "high", "sets"]
theorem sc_count_rings : FnScope N_count_rings ["bells", "low", "high"] (defScope s_count_rings) := ⟨rfl, rfl, rfl, by decide +kernel, rfl, by decide +kernel, by decide +kernel⟩
abbrev s_count_just : Stmt := topS 40
abbrev N_count_just : List Str := ["bells", "many", "low", "high", "sets"]
theorem sc_count_just : FnScope N_count_just ["bells", "many", "low", "high"] (defScope s_count_just) := ⟨rfl, rfl, rfl, by decide +kernel, rfl, by decide +kernel, by decide +kernel⟩
abbrev s_ring_at : Stmt := topS 41
abbrev N_ring_at : List Str := ["bells", "index", "sets", "low", "high", "middle"]
theorem sc_ring_at : FnScope N_ring_at ["bells", "index"] (defScope s_ring_at) := ⟨rfl, rfl, rfl, by decide +kernel, rfl, by decide +kernel, by decide +kernel⟩
abbrev s_first_with : Stmt := topS 42
abbrev N_first_with : List Str := ["bells", "numbers", "low", "length", "number", "others", "parts", "turn", "period", "part"]
theorem sc_first_with : FnScope N_first_with ["bells", "numbers", "low"] (defScope s_first_with) := ⟨rfl, rfl, rfl, by decide +kernel, rfl, by decide +kernel, by decide +kernel⟩
abbrev s_single_mends : Stmt := topS 44
abbrev N_single_mends : List Str := ["table", "found", "row", "column", "other"]
theorem sc_single_mends : FnScope N_single_mends ["table"] (defScope s_single_mends) := ⟨rfl, rfl, rfl, by decide +kernel, rfl, by decide +kernel, by decide +kernel⟩
abbrev s_wrong_sets : Stmt := topS 45
abbrev N_wrong_sets : List Str := ["table", "level", "places", "found", "longer", "some", "place"]
theorem sc_wrong_sets : FnScope N_wrong_sets ["table"] (defScope s_wrong_sets) := ⟨rfl, rfl, rfl, by decide +kernel, rfl, by decide +kernel, by decide +kernel⟩
abbrev s_surely_wrong : Stmt := topS 46
abbrev N_surely_wrong : List Str := ["table", "sets", "place", "some"]
theorem sc_surely_wrong : FnScope N_surely_wrong ["table"] (defScope s_surely_wrong) := ⟨rfl, rfl, rfl, by decide +kernel, rfl, by decide +kernel, by decide +kernel⟩
abbrev s__law_cell : Stmt := topS 48
abbrev N__law_cell : List Str := ["script", "index"]
theorem sc__law_cell : FnScope N__law_cell ["script", "index"] (defScope s__law_cell) := ⟨rfl, rfl, rfl, by decide +kernel, rfl, by decide +kernel, by decide +kernel⟩
abbrev s__law_digits : Stmt := topS 49
abbrev N__law_digits : List Str := ["script", "index", "count", "base", "primes", "cell", "rest", "digits", "k", "mixed"]
theorem sc__law_digits : FnScope N__law_digits ["script", "index", "count", "base"] (defScope s__law_digits) := ⟨rfl, rfl, rfl, by decide +kernel, rfl, by decide +kernel, by decide +kernel⟩
abbrev s__law_one_bell : Stmt := topS 50
abbrev N__law_one_bell : List Str := ["period", "one", "two"]
theorem sc__law_one_bell : FnScope N__law_one_bell ["period"] (defScope s__law_one_bell) := ⟨rfl, rfl, rfl, by decide +kernel, rfl, by decide +kernel, by decide +kernel⟩
abbrev s__law_power : Stmt := topS 51
abbrev N__law_power : List Str := ["period", "size", "number"]
theorem sc__law_power : FnScope N__law_power ["period"] (defScope s__law_power) := ⟨rfl, rfl, rfl, by decide +kernel, rfl, by decide +kernel, by decide +kernel⟩
abbrev s_law : Stmt := topS 52
abbrev N_law : List Str := ["script", "index", "period", "table", "some", "number"]
theorem sc_law : FnScope N_law ["script"] (defScope s_law) := ⟨rfl, rfl, rfl, by decide +kernel, rfl, by decide +kernel, by decide +kernel⟩
def clsS (st : Stmt) (j : Nat) : Stmt := match st with
  | .ClassDef _ _ _ body .. => body.getD j (.Pass ⟨0, 0, 0, 0⟩)
  | s => s
abbrev sB___init__ : Stmt := clsS (topS 33) 1
abbrev NB___init__ : List Str := ["self", "periods", "period"]
theorem scB___init__ : FnScope NB___init__ ["self", "periods"] (defScope sB___init__) := ⟨rfl, rfl, rfl, by decide +kernel, rfl, by decide +kernel, by decide +kernel⟩
abbrev sB_periods : Stmt := clsS (topS 33) 2
abbrev NB_periods : List Str := ["self"]
theorem scB_periods : FnScope NB_periods ["self"] (defScope sB_periods) := ⟨rfl, rfl, rfl, by decide +kernel, rfl, by decide +kernel, by decide +kernel⟩
structure Bi (mg : Str → Option Value) : Prop where
  all_ : mg "all" = none
  any_ : mg "any" = none
  bool_ : mg "bool" = none
  enumerate_ : mg "enumerate" = none
  int_ : mg "int" = none
  isinstance_ : mg "isinstance" = none
  len_ : mg "len" = none
  max_ : mg "max" = none
  min_ : mg "min" = none
  range_ : mg "range" = none
  sorted_ : mg "sorted" = none
  tuple_ : mg "tuple" = none
section
variable {P : Program} {w : World} {K : PySem.W.Frag} {mg : Str → Option Value} {base : Heap} {C : Addr}
theorem ok_is_integer {f : Addr} {fd : FuncData} (F : Fun K "is_integer" "is_integer" s_is_integer f fd) (B : Bi mg) : FnOk P w K mg base CX0 1 f fd ["value", "low", "high"] (spD K C m_is_integer) :=
  have nd := sc_is_integer.nd
  fnD (k := 0) F sc_is_integer (by decide) fun cdv A outer s H E hr =>
    (dss_one (ds_ret (de_and (de_isi (T := "int") (by simp) (de_var 0) (by rfl) B.isinstance_ (by rfl) B.int_ bt_int) (de_and (de_not (de_isi (T := "bool") (by simp) (de_var 0) (by rfl) B.isinstance_ (by rfl) B.bool_ bt_bool)) (de_one (de_chain od_le od_le (de_var 1) (de_var 0) (de_var 2)))))))
theorem ok_gcd {f : Addr} {fd : FuncData} (F : Fun K "gcd" "gcd" s_gcd f fd) (B : Bi mg) : FnOk P w K mg base CX0 1 f fd ["one", "other"] (spD K C m_gcd) :=
  have nd := sc_gcd.nd
  fnD (k := 0) F sc_gcd (by decide) fun cdv A outer s H E hr =>
    (dss_cons (ds_while PassesOwn.never (dt_cmp (od_gt hr.units0) (de_var 1) de_int) (dss_one (ds_par 0 1 rfl nd (de_var 1) (de_op od_mod (de_var 0) (de_var 1)))))
      (dss_one (ds_ret (de_var 0))))
theorem ok_lcm {f : Addr} {fd : FuncData} (F : Fun K "lcm" "lcm" s_lcm f fd) (B : Bi mg) (c_gcd : Cal P w K mg base C 1 "gcd" ["one", "other"] m_gcd) : FnOk P w K mg base CX0 2 f fd ["one", "other"] (spD K C m_lcm) :=
  have nd := sc_lcm.nd
  fnD (k := 1) F sc_lcm (by decide) fun cdv A outer s H E hr =>
    (dss_one (ds_ret (de_op od_mul (de_op od_fdiv (de_var 0) (de_call c_gcd hr (by rfl) (da_cons (de_var 0) (da_cons (de_var 1) da_nil)))) (de_var 1))))
theorem ok_prime_factors {f : Addr} {fd : FuncData} (F : Fun K "prime_factors" "prime_factors" s_prime_factors f fd) (B : Bi mg) : FnOk P w K mg base CX0 1 f fd ["number"] (spD K C m_prime_factors) :=
  have nd := sc_prime_factors.nd
  fnD (k := 0) F sc_prime_factors (by decide) fun cdv A outer s H E hr =>
    (dss_cons (ds_parN1 1 2 rfl nd (dn_lst da_nil) de_int)
      (dss_cons (ds_while PassesOwn.never (dt_cmp od_le (de_op od_mul (de_var 2) (de_var 2)) (de_var 0)) (dss_cons (ds_if (dt_cmp (od_eq hr.units) (de_op od_mod (de_var 0) (de_var 2)) de_int) (dss_cons (ds_app 1 (de_var 2))
      (dss_one (ds_while PassesOwn.never (dt_cmp (od_eq hr.units) (de_op od_mod (de_var 0) (de_var 2)) de_int) (dss_one (ds_set 0 nd (de_op od_fdiv (de_var 0) (de_var 2))))))) dss_nil)
      (dss_one (ds_aug 2 nd de_int))))
      (dss_one (ds_frz (O1 := []) 1 (ds_ret (de_if (dt_cmp (od_gt hr.units0) (de_var 0) de_int) (de_op od_add (de_var 1) (de_lst (da_cons (de_var 0) da_nil))) (de_var 1)))))))
theorem ok_exponent {f : Addr} {fd : FuncData} (F : Fun K "exponent" "exponent" s_exponent f fd) (B : Bi mg) : FnOk P w K mg base CX0 1 f fd ["prime", "number"] (spD K C m_exponent) :=
  have nd := sc_exponent.nd
  fnD (k := 0) F sc_exponent (by decide) fun cdv A outer s H E hr =>
    (dss_cons (ds_set 2 nd de_int)
      (dss_cons (ds_while PassesOwn.never (dt_cmp (od_eq hr.units) (de_op od_mod (de_var 1) (de_var 0)) de_int) (dss_one (ds_par 1 2 rfl nd (de_op od_fdiv (de_var 1) (de_var 0)) (de_op od_add (de_var 2) de_int))))
      (dss_one (ds_ret (de_var 2)))))
theorem ok_power {f : Addr} {fd : FuncData} (F : Fun K "power" "power" s_power f fd) (B : Bi mg) : FnOk P w K mg base CX0 1 f fd ["prime", "times"] (spD K C m_power) :=
  have nd := sc_power.nd
  fnD (k := 0) F sc_power (by decide) fun cdv A outer s H E hr =>
    (dss_cons (ds_set 2 nd de_int)
      (dss_cons (ds_for PassesOwn.never rfl (di_rng1 (by rfl) B.range_ (da_cons (de_var 1) da_nil)) (dg_name 3 nd) (dss_one (ds_set 2 nd (de_op od_mul (de_var 2) (de_var 0)))))
      (dss_one (ds_ret (de_var 2)))))
theorem ok_between {f : Addr} {fd : FuncData} (F : Fun K "between" "between" s_between f fd) (B : Bi mg) (c_exponent : Cal P w K mg base C 1 "exponent" ["prime", "number"] m_exponent) (c_power : Cal P w K mg base C 1 "power" ["prime", "times"] m_power) (c_prime_factors : Cal P w K mg base C 1 "prime_factors" ["number"] m_prime_factors) : FnOk P w K mg base CX0 2 f fd ["low", "high"] (spD K C m_between) :=
  have nd := sc_between.nd
  fnD (k := 1) F sc_between (by decide) fun cdv A outer s H E hr =>
    (dss_cons (ds_set 2 nd (de_lst (da_cons (de_var 0) da_nil)))
      (dss_cons (ds_for PassesOwn.never rfl (di_seq (de_call c_prime_factors hr (by rfl) (da_cons (de_op od_fdiv (de_var 1) (de_var 0)) da_nil))) (dg_name 3 nd) (dss_cons (ds_set 4 nd (de_call c_exponent hr (by rfl) (da_cons (de_var 3) (da_cons (de_op od_fdiv (de_var 1) (de_var 0)) da_nil))))
      (dss_one (ds_setLc2 2 (own := [("one", 5), ("number", 6)]) (vs1 := [6]) rfl nd (di_seq (de_var 2)) (blkOk_by (N := N_between) (sc := defScope s_between) (by decide +kernel)) (fun _ _ _ _ _ => (dg_name 5 nd)) (fun _ _ _ _ _ => (di_rng1 (by rfl) B.range_ (da_cons (de_op od_add (de_var 4) de_int) da_nil))) (fun _ _ _ _ _ => (dg_name 6 nd)) (fun _ _ _ _ _ => dts_nil) (fun _ _ _ _ _ => (de_op od_mul (de_var 5) (de_call c_power hr (by rfl) (da_cons (de_var 3) (da_cons (de_var 6) da_nil)))))))))
      (dss_one (ds_ret (de_callB cd_sorted (by rfl) B.sorted_ bt_sorted (da_cons (de_var 2) da_nil))))))
theorem ok_turned {f : Addr} {fd : FuncData} (F : Fun K "turned" "turned" s_turned f fd) (B : Bi mg) : FnOk P w K mg base CX0 1 f fd ["table"] (spD K C m_turned) :=
  have nd := sc_turned.nd
  fnD (k := 0) F sc_turned (by decide) fun cdv A outer s H E hr =>
    (dss_one (ds_ret (de_callTy cd_tuple (by rfl) B.tuple_ bt_tuple (da_cons (de_comp (own := [("column", 1)]) rfl nd (di_rng1 (by rfl) B.range_ (da_cons (de_callB cd_len (by rfl) B.len_ bt_len (da_cons (de_ix ix_d (de_var 0) de_int) da_nil)) da_nil)) (blkOk_by (N := N_turned) (sc := defScope s_turned) (by decide +kernel)) (fun _ _ _ _ _ => (dg_name 1 nd)) (fun _ _ _ _ _ => dts_nil) (fun _ _ _ _ _ => (de_callTy cd_tuple (by rfl) B.tuple_ bt_tuple (da_cons (de_comp (own := [("row", 2)]) rfl nd (di_seq (de_var 0)) (blkOk_by (N := N_turned)  (by with_unfolding_all rfl)) (fun _ _ _ _ _ => (dg_name 2 nd)) (fun _ _ _ _ _ => dts_nil) (fun _ _ _ _ _ => (de_ix ix_d (de_var 2) (de_var 1)))) da_nil)))) da_nil))))
theorem ok_row_divisor {f : Addr} {fd : FuncData} (F : Fun K "row_divisor" "row_divisor" s_row_divisor f fd) (B : Bi mg) (c_gcd : Cal P w K mg base C 1 "gcd" ["one", "other"] m_gcd) : FnOk P w K mg base CX0 2 f fd ["row"] (spD K C m_row_divisor) :=
  have nd := sc_row_divisor.nd
  fnD (k := 1) F sc_row_divisor (by decide) fun cdv A outer s H E hr =>
    (dss_cons (ds_set 1 nd de_int)
      (dss_cons (ds_for PassesOwn.never rfl (di_seq (de_var 0)) (dg_name 2 nd) (dss_one (ds_if (dt_cmp od_isnot (de_var 2) de_non) (dss_one (ds_set 1 nd (de_call c_gcd hr (by rfl) (da_cons (de_var 2) (da_cons (de_var 1) da_nil))))) dss_nil)))
      (dss_one (ds_ret (de_var 1)))))
theorem ok_greatest {f : Addr} {fd : FuncData} (F : Fun K "greatest" "greatest" s_greatest f fd) (B : Bi mg) (c_row_divisor : Cal P w K mg base C 2 "row_divisor" ["row"] m_row_divisor) (c_turned : Cal P w K mg base C 1 "turned" ["table"] m_turned) : FnOk P w K mg base CX0 3 f fd ["table"] (spD K C m_greatest) :=
  have nd := sc_greatest.nd
  fnD (k := 2) F sc_greatest (by decide) fun cdv A outer s H E hr =>
    (dss_one (ds_ret (de_tup (da_cons (de_callTy cd_tuple (by rfl) B.tuple_ bt_tuple (da_cons (de_comp (own := [("row", 1)]) rfl nd (di_seq (de_var 0)) (blkOk_by (N := N_greatest) (sc := defScope s_greatest) (by decide +kernel)) (fun _ _ _ _ _ => (dg_name 1 nd)) (fun _ _ _ _ _ => dts_nil) (fun _ _ _ _ _ => (de_call c_row_divisor hr (by rfl) (da_cons (de_var 1) da_nil)))) da_nil)) (da_cons (de_callTy cd_tuple (by rfl) B.tuple_ bt_tuple (da_cons (de_comp (own := [("row", 1)]) rfl nd (di_seq (de_call c_turned hr (by rfl) (da_cons (de_var 0) da_nil))) (blkOk_by (N := N_greatest) (sc := defScope s_greatest) (by decide +kernel)) (fun _ _ _ _ _ => (dg_name 1 nd)) (fun _ _ _ _ _ => dts_nil) (fun _ _ _ _ _ => (de_call c_row_divisor hr (by rfl) (da_cons (de_var 1) da_nil)))) da_nil)) da_nil)))))
theorem ok_known_places {f : Addr} {fd : FuncData} (F : Fun K "known_places" "known_places" s_known_places f fd) (B : Bi mg) : FnOk P w K mg base CX0 1 f fd ["table"] (spD K C m_known_places) :=
  have nd := sc_known_places.nd
  fnD (k := 0) F sc_known_places (by decide) fun cdv A outer s H E hr =>
    (dss_cons (ds_set 1 nd (de_lst da_nil))
      (dss_cons (ds_for PassesOwn.never rfl (di_rng1 (by rfl) B.range_ (da_cons (de_callB cd_len (by rfl) B.len_ bt_len (da_cons (de_var 0) da_nil)) da_nil)) (dg_name 2 nd) (dss_one (ds_set 1 nd (de_op od_add (de_var 1) (de_comp (own := [("column", 3)]) rfl nd (di_rng1 (by rfl) B.range_ (da_cons (de_callB cd_len (by rfl) B.len_ bt_len (da_cons (de_ix ix_d (de_var 0) de_int) da_nil)) da_nil)) (blkOk_by (N := N_known_places) (sc := defScope s_known_places) (by decide +kernel)) (fun _ _ _ _ _ => (dg_name 3 nd)) (fun _ _ _ _ _ => (dts_one (dt_cmp od_isnot (de_ix ix_d (de_ix ix_d (de_var 0) (de_var 2)) (de_var 3)) de_non))) (fun _ _ _ _ _ => (de_tup (da_cons (de_var 2) (da_cons (de_var 3) da_nil)))))))))
      (dss_one (ds_ret (de_var 1)))))
theorem ok_is_real {f : Addr} {fd : FuncData} (F : Fun K "is_real" "is_real" s_is_real f fd) (B : Bi mg) (c_greatest : Cal P w K mg base C 3 "greatest" ["table"] m_greatest) (c_known_places : Cal P w K mg base C 1 "known_places" ["table"] m_known_places) (c_lcm : Cal P w K mg base C 2 "lcm" ["one", "other"] m_lcm) : FnOk P w K mg base CX0 4 f fd ["table"] (spD K C m_is_real) :=
  have nd := sc_is_real.nd
  fnD (k := 3) F sc_is_real (by decide) fun cdv A outer s H E hr =>
    (dss_cons (ds_asg (de_call c_greatest hr (by rfl) (da_cons (de_var 0) da_nil)) (dg_tup rfl (dg_cons (dg_name 1 nd) (dg_cons (dg_name 2 nd) dg_nil)) (gl1 (gl1 gl0))))
      (dss_one (ds_ret (de_callB (cd_all rfl) (by rfl) B.all_ bt_all (da_cons (de_comp (own := [("row", 3), ("column", 4)]) rfl nd (di_seq (de_call c_known_places hr (by rfl) (da_cons (de_var 0) da_nil))) (blkOk_by (N := N_is_real) (sc := defScope s_is_real) (by decide +kernel)) (fun _ _ _ _ _ => (dg_tup rfl (dg_cons (dg_name 3 nd) (dg_cons (dg_name 4 nd) dg_nil)) (gl1 (gl1 gl0)))) (fun _ _ _ _ _ => dts_nil) (fun _ _ _ _ _ => (de_cmp (od_eq hr.units) (de_call c_lcm hr (by rfl) (da_cons (de_ix ix_d (de_var 1) (de_var 3)) (da_cons (de_ix ix_d (de_var 2) (de_var 4)) da_nil))) (de_ix ix_d (de_ix ix_d (de_var 0) (de_var 3)) (de_var 4))))) da_nil)))))
theorem ok_without {f : Addr} {fd : FuncData} (F : Fun K "without" "without" s_without f fd) (B : Bi mg) : FnOk P w K mg base CX0 1 f fd ["table", "places"] (spD K C m_without) :=
  have nd := sc_without.nd
  fnD (k := 0) F sc_without (by decide) fun cdv A outer s H E hr =>
    (dss_cons (ds_setN 2 nd (dn_lst da_nil))
      (dss_cons (ds_for PassesOwn.never rfl (di_rng1 (by rfl) B.range_ (da_cons (de_callB cd_len (by rfl) B.len_ bt_len (da_cons (de_var 0) da_nil)) da_nil)) (dg_name 3 nd) (dss_cons (ds_setLc 4 (own := [("column", 5)]) rfl nd (di_rng1 (by rfl) B.range_ (da_cons (de_callB cd_len (by rfl) B.len_ bt_len (da_cons (de_ix ix_d (de_var 0) de_int) da_nil)) da_nil)) (blkOk_by (N := N_without) (sc := defScope s_without) (by decide +kernel)) (fun _ _ _ _ _ => (dg_name 5 nd)) (fun _ _ _ _ _ => dts_nil) (fun _ _ _ _ _ => (de_if (dt_cmp (od_in (hu65 hr)) (de_tup (da_cons (de_var 3) (da_cons (de_var 5) da_nil))) (de_var 1)) de_non (de_ix ix_d (de_ix ix_d (de_var 0) (de_var 3)) (de_var 5)))))
      (dss_one (ds_app 2 (de_callTy cd_tuple (by rfl) B.tuple_ bt_tuple (da_cons (de_var 4) da_nil))))))
      (dss_one (ds_frz (O1 := []) 2 (ds_ret (de_callTy cd_tuple (by rfl) B.tuple_ bt_tuple (da_cons (de_var 2) da_nil)))))))
theorem ok_all_primes {f : Addr} {fd : FuncData} (F : Fun K "all_primes" "all_primes" s_all_primes f fd) (B : Bi mg) (c_known_places : Cal P w K mg base C 1 "known_places" ["table"] m_known_places) (c_prime_factors : Cal P w K mg base C 1 "prime_factors" ["number"] m_prime_factors) : FnOk P w K mg base CX0 2 f fd ["table"] (spD K C m_all_primes) :=
  have nd := sc_all_primes.nd
  fnD (k := 1) F sc_all_primes (by decide) fun cdv A outer s H E hr =>
    (dss_cons (ds_set 1 nd (de_lst da_nil))
      (dss_cons (ds_for PassesOwn.never rfl (di_seq (de_call c_known_places hr (by rfl) (da_cons (de_var 0) da_nil))) (dg_tup rfl (dg_cons (dg_name 2 nd) (dg_cons (dg_name 3 nd) dg_nil)) (gl1 (gl1 gl0))) (dss_one (ds_set 1 nd (de_op od_add (de_var 1) (de_comp (own := [("prime", 4)]) rfl nd (di_seq (de_call c_prime_factors hr (by rfl) (da_cons (de_ix ix_d (de_ix ix_d (de_var 0) (de_var 2)) (de_var 3)) da_nil))) (blkOk_by (N := N_all_primes) (sc := defScope s_all_primes) (by decide +kernel)) (fun _ _ _ _ _ => (dg_name 4 nd)) (fun _ _ _ _ _ => (dts_one (dt_cmp (od_notIn (hu65 hr)) (de_var 4) (de_var 1)))) (fun _ _ _ _ _ => (de_var 4)))))))
      (dss_one (ds_ret (de_callB cd_sorted (by rfl) B.sorted_ bt_sorted (da_cons (de_var 1) da_nil))))))
theorem ok_sure {f : Addr} {fd : FuncData} (F : Fun K "sure" "sure" s_sure f fd) (B : Bi mg) (c_all_primes : Cal P w K mg base C 2 "all_primes" ["table"] m_all_primes) (c_exponent : Cal P w K mg base C 1 "exponent" ["prime", "number"] m_exponent) (c_greatest : Cal P w K mg base C 3 "greatest" ["table"] m_greatest) (c_known_places : Cal P w K mg base C 1 "known_places" ["table"] m_known_places) (c_lcm : Cal P w K mg base C 2 "lcm" ["one", "other"] m_lcm) (c_power : Cal P w K mg base C 1 "power" ["prime", "times"] m_power) : FnOk P w K mg base CX0 4 f fd ["table"] (spD K C m_sure) :=
  have nd := sc_sure.nd
  fnD (k := 3) F sc_sure (by decide) fun cdv A outer s H E hr =>
    (dss_cons (ds_parNN 1 2 rfl nd (dn_rep (de_lst (da_cons de_int da_nil)) (de_callB cd_len (by rfl) B.len_ bt_len (da_cons (de_var 0) da_nil))) (dn_rep (de_lst (da_cons de_int da_nil)) (de_callB cd_len (by rfl) B.len_ bt_len (da_cons (de_ix ix_d (de_var 0) de_int) da_nil))))
      (dss_cons (ds_asg (de_call c_greatest hr (by rfl) (da_cons (de_var 0) da_nil)) (dg_tup rfl (dg_cons (dg_name 3 nd) (dg_cons (dg_name 4 nd) dg_nil)) (gl1 (gl1 gl0))))
      (dss_cons (ds_for PassesOwn.never rfl (di_seq (de_call c_all_primes hr (by rfl) (da_cons (de_var 0) da_nil))) (dg_name 5 nd) (dss_one (ds_for PassesOwn.never rfl (di_seq (de_call c_known_places hr (by rfl) (da_cons (de_var 0) da_nil))) (dg_tup rfl (dg_cons (dg_name 6 nd) (dg_cons (dg_name 7 nd) dg_nil)) (gl1 (gl1 gl0))) (dss_cons (ds_set 8 nd (de_call c_exponent hr (by rfl) (da_cons (de_var 5) (da_cons (de_ix ix_d (de_ix ix_d (de_var 0) (de_var 6)) (de_var 7)) da_nil))))
      (dss_cons (ds_if (dt_cmp (od_lt hr.units0) (de_call c_exponent hr (by rfl) (da_cons (de_var 5) (da_cons (de_ix ix_d (de_var 4) (de_var 7)) da_nil))) (de_var 8)) (dss_one (ds_setIx 1 (de_call c_lcm hr (by rfl) (da_cons (de_ownIx 1 (de_var 6)) (da_cons (de_call c_power hr (by rfl) (da_cons (de_var 5) (da_cons (de_var 8) da_nil))) da_nil))) (de_var 6))) dss_nil)
      (dss_one (ds_if (dt_cmp (od_lt hr.units0) (de_call c_exponent hr (by rfl) (da_cons (de_var 5) (da_cons (de_ix ix_d (de_var 3) (de_var 6)) da_nil))) (de_var 8)) (dss_one (ds_setIx 2 (de_call c_lcm hr (by rfl) (da_cons (de_ownIx 2 (de_var 7)) (da_cons (de_call c_power hr (by rfl) (da_cons (de_var 5) (da_cons (de_var 8) da_nil))) da_nil))) (de_var 7))) dss_nil)))))))
      (dss_one (ds_frz (O1 := [1]) 2 (ds_frz (O1 := []) 1 (ds_ret (de_tup (da_cons (de_callTy cd_tuple (by rfl) B.tuple_ bt_tuple (da_cons (de_var 1) da_nil)) (da_cons (de_callTy cd_tuple (by rfl) B.tuple_ bt_tuple (da_cons (de_var 2) da_nil)) da_nil))))))))))
theorem ok_entry_values {f : Addr} {fd : FuncData} (F : Fun K "entry_values" "entry_values" s_entry_values f fd) (B : Bi mg) (c_between : Cal P w K mg base C 2 "between" ["low", "high"] m_between) (c_greatest : Cal P w K mg base C 3 "greatest" ["table"] m_greatest) (c_lcm : Cal P w K mg base C 2 "lcm" ["one", "other"] m_lcm) (c_sure : Cal P w K mg base C 4 "sure" ["table"] m_sure) : FnOk P w K mg base CX0 5 f fd ["table", "row", "column"] (spD K C m_entry_values) :=
  have nd := sc_entry_values.nd
  fnD (k := 4) F sc_entry_values (by decide) fun cdv A outer s H E hr =>
    (dss_cons (ds_asg (de_call c_greatest hr (by rfl) (da_cons (de_var 0) da_nil)) (dg_tup rfl (dg_cons (dg_name 3 nd) (dg_cons (dg_name 4 nd) dg_nil)) (gl1 (gl1 gl0))))
      (dss_cons (ds_if (dt_cmp od_isnot (de_ix ix_d (de_ix ix_d (de_var 0) (de_var 1)) (de_var 2)) de_non) (dss_one (ds_ret (de_lst (da_cons (de_ix ix_d (de_ix ix_d (de_var 0) (de_var 1)) (de_var 2)) da_nil)))) dss_nil)
      (dss_cons (ds_if (dt_w (dw_or (dt_cmp (od_eq hr.units) (de_ix ix_d (de_var 3) (de_var 1)) de_int) (dw_or1 (dt_cmp (od_eq hr.units) (de_ix ix_d (de_var 4) (de_var 2)) de_int)))) (dss_one (ds_ret de_non)) dss_nil)
      (dss_cons (ds_asg (de_call c_sure hr (by rfl) (da_cons (de_var 0) da_nil)) (dg_tup rfl (dg_cons (dg_name 5 nd) (dg_cons (dg_name 6 nd) dg_nil)) (gl1 (gl1 gl0))))
      (dss_one (ds_ret (de_call c_between hr (by rfl) (da_cons (de_call c_lcm hr (by rfl) (da_cons (de_ix ix_d (de_var 5) (de_var 1)) (da_cons (de_ix ix_d (de_var 6) (de_var 2)) da_nil))) (da_cons (de_call c_lcm hr (by rfl) (da_cons (de_ix ix_d (de_var 3) (de_var 1)) (da_cons (de_ix ix_d (de_var 4) (de_var 2)) da_nil))) da_nil)))))))))
theorem ok_sets_for {f : Addr} {fd : FuncData} (F : Fun K "sets_for" "sets_for" s_sets_for f fd) (B : Bi mg) (c_exponent : Cal P w K mg base C 1 "exponent" ["prime", "number"] m_exponent) (c_greatest : Cal P w K mg base C 3 "greatest" ["table"] m_greatest) (c_known_places : Cal P w K mg base C 1 "known_places" ["table"] m_known_places) (c_sure : Cal P w K mg base C 4 "sure" ["table"] m_sure) : FnOk P w K mg base CX0 5 f fd ["table", "prime"] (spD K C m_sets_for) :=
  have nd := sc_sets_for.nd
  fnD (k := 4) F sc_sets_for (by decide) fun cdv A outer s H E hr =>
    (dss_cons (ds_asg (de_call c_greatest hr (by rfl) (da_cons (de_var 0) da_nil)) (dg_tup rfl (dg_cons (dg_name 2 nd) (dg_cons (dg_name 3 nd) dg_nil)) (gl1 (gl1 gl0))))
      (dss_cons (ds_asg (de_call c_sure hr (by rfl) (da_cons (de_var 0) da_nil)) (dg_tup rfl (dg_cons (dg_name 4 nd) (dg_cons (dg_name 5 nd) dg_nil)) (gl1 (gl1 gl0))))
      (dss_cons (ds_set 6 nd (de_comp (own := [("number", 13)]) rfl nd (di_seq (de_op od_add (de_var 2) (de_var 3))) (blkOk_by (N := N_sets_for) (sc := defScope s_sets_for) (by decide +kernel)) (fun _ _ _ _ _ => (dg_name 13 nd)) (fun _ _ _ _ _ => dts_nil) (fun _ _ _ _ _ => (de_call c_exponent hr (by rfl) (da_cons (de_var 1) (da_cons (de_var 13) da_nil))))))
      (dss_cons (ds_set 7 nd (de_comp (own := [("number", 13)]) rfl nd (di_seq (de_op od_add (de_var 4) (de_var 5))) (blkOk_by (N := N_sets_for) (sc := defScope s_sets_for) (by decide +kernel)) (fun _ _ _ _ _ => (dg_name 13 nd)) (fun _ _ _ _ _ => dts_nil) (fun _ _ _ _ _ => (de_call c_exponent hr (by rfl) (da_cons (de_var 1) (da_cons (de_var 13) da_nil))))))
      (dss_cons (ds_setLc 8 (own := [("at", 10)]) rfl nd (di_rng1 (by rfl) B.range_ (da_cons (de_callB cd_len (by rfl) B.len_ bt_len (da_cons (de_var 6) da_nil)) da_nil)) (blkOk_by (N := N_sets_for) (sc := defScope s_sets_for) (by decide +kernel)) (fun _ _ _ _ _ => (dg_name 10 nd)) (fun _ _ _ _ _ => (dts_one (dt_cmp (od_gt hr.units0) (de_ix ix_d (de_var 6) (de_var 10)) (de_ix ix_d (de_var 7) (de_var 10))))) (fun _ _ _ _ _ => (de_var 10)))
      (dss_cons (ds_set 9 nd (de_lst (da_cons (de_tup da_nil) da_nil)))
      (dss_cons (ds_for PassesOwn.never rfl (di_seq (de_var 8)) (dg_name 10 nd) (dss_one (ds_set 9 nd (de_op od_add (de_var 9) (de_comp (own := [("some", 16)]) rfl nd (di_seq (de_var 9)) (blkOk_by (N := N_sets_for) (sc := defScope s_sets_for) (by decide +kernel)) (fun _ _ _ _ _ => (dg_name 16 nd)) (fun _ _ _ _ _ => dts_nil) (fun _ _ _ _ _ => (de_op od_add (de_var 16) (de_tup (da_cons (de_var 10) da_nil)))))))))
      (dss_cons (ds_set 11 nd (de_callB cd_len (by rfl) B.len_ bt_len (da_cons (de_var 0) da_nil)))
      (dss_cons (ds_set 12 nd (de_comp (own := [("row", 14), ("column", 15)]) rfl nd (di_seq (de_call c_known_places hr (by rfl) (da_cons (de_var 0) da_nil))) (blkOk_by (N := N_sets_for) (sc := defScope s_sets_for) (by decide +kernel)) (fun _ _ _ _ _ => (dg_tup rfl (dg_cons (dg_name 14 nd) (dg_cons (dg_name 15 nd) dg_nil)) (gl1 (gl1 gl0)))) (fun _ _ _ _ _ => (dts_one (dt_cmp (od_gt hr.units0) (de_call c_exponent hr (by rfl) (da_cons (de_var 1) (da_cons (de_ix ix_d (de_ix ix_d (de_var 0) (de_var 14)) (de_var 15)) da_nil))) de_int))) (fun _ _ _ _ _ => (de_tup (da_cons (de_var 14) (da_cons (de_op od_add (de_var 11) (de_var 15)) da_nil))))))
      (dss_one (ds_ret (de_tup (da_cons (de_var 6) (da_cons (de_comp (own := [("some", 16)]) rfl nd (di_seq (de_var 9)) (blkOk_by (N := N_sets_for) (sc := defScope s_sets_for) (by decide +kernel)) (fun _ _ _ _ _ => (dg_name 16 nd)) (fun _ _ _ _ _ => (dts_one (dt_not (dt_val (de_callB (cd_any rfl) (by rfl) B.any_ bt_any (da_cons (de_comp (own := [("one", 17), ("other", 18)]) rfl nd (di_seq (de_var 12)) (blkOk_by (N := N_sets_for)  (by with_unfolding_all rfl)) (fun _ _ _ _ _ => (dg_tup rfl (dg_cons (dg_name 17 nd) (dg_cons (dg_name 18 nd) dg_nil)) (gl1 (gl1 gl0)))) (fun _ _ _ _ _ => dts_nil) (fun _ _ _ _ _ => (de_and (de_cmp (od_in (hu65 hr)) (de_var 17) (de_var 16)) (de_one (de_cmp (od_in (hu65 hr)) (de_var 18) (de_var 16)))))) da_nil)))))) (fun _ _ _ _ _ => (de_var 16))) da_nil))))))))))))))
theorem ok_count_solutions {f : Addr} {fd : FuncData} (F : Fun K "count_solutions" "count_solutions" s_count_solutions f fd) (B : Bi mg) (c_all_primes : Cal P w K mg base C 2 "all_primes" ["table"] m_all_primes) (c_sets_for : Cal P w K mg base C 5 "sets_for" ["table", "prime"] m_sets_for) : FnOk P w K mg base CX0 6 f fd ["table"] (spD K C m_count_solutions) :=
  have nd := sc_count_solutions.nd
  fnD (k := 5) F sc_count_solutions (by decide) fun cdv A outer s H E hr =>
    (dss_cons (ds_set 1 nd de_int)
      (dss_cons (ds_for PassesOwn.never rfl (di_seq (de_call c_all_primes hr (by rfl) (da_cons (de_var 0) da_nil))) (dg_name 2 nd) (dss_cons (ds_asg (de_call c_sets_for hr (by rfl) (da_cons (de_var 0) (da_cons (de_var 2) da_nil))) (dg_tup rfl (dg_cons (dg_name 3 nd) (dg_cons (dg_name 4 nd) dg_nil)) (gl1 (gl1 gl0))))
      (dss_cons (ds_set 5 nd de_int)
      (dss_cons (ds_for PassesOwn.never rfl (di_seq (de_var 4)) (dg_name 6 nd) (dss_cons (ds_set 7 nd de_int)
      (dss_cons (ds_for PassesOwn.never rfl (di_seq (de_var 6)) (dg_name 8 nd) (dss_one (ds_set 7 nd (de_op od_mul (de_var 7) (de_ix ix_d (de_var 3) (de_var 8))))))
      (dss_one (ds_set 5 nd (de_op od_add (de_var 5) (de_var 7)))))))
      (dss_one (ds_set 1 nd (de_op od_mul (de_var 1) (de_var 5))))))))
      (dss_one (ds_ret (de_var 1)))))
theorem ok_ways_with {f : Addr} {fd : FuncData} (F : Fun K "ways_with" "ways_with" s_ways_with f fd) (B : Bi mg) : FnOk P w K mg base CX0 1 f fd ["full", "sets", "row", "times"] (spD K C m_ways_with) :=
  have nd := sc_ways_with.nd
  fnD (k := 0) F sc_ways_with (by decide) fun cdv A outer s H E hr =>
    (dss_cons (ds_set 4 nd de_int)
      (dss_cons (ds_for PassesOwn.never rfl (di_seq (de_var 1)) (dg_name 5 nd) (dss_one (ds_if (dt_w (dw_or (dt_w (dw_and (dt_cmp (od_lt hr.units0) (de_var 3) (de_ix ix_d (de_var 0) (de_var 2))) (dw_and1 (dt_cmp (od_in (hu65 hr)) (de_var 2) (de_var 5))))) (dw_or1 (dt_w (dw_and (dt_cmp (od_eq hr.units) (de_var 3) (de_ix ix_d (de_var 0) (de_var 2))) (dw_and1 (dt_cmp (od_notIn (hu65 hr)) (de_var 2) (de_var 5)))))))) (dss_cons (ds_set 6 nd de_int)
      (dss_cons (ds_for PassesOwn.never rfl (di_seq (de_var 5)) (dg_name 7 nd) (dss_one (ds_set 6 nd (de_op od_mul (de_var 6) (de_if (dt_cmp (od_ne hr.units) (de_var 7) (de_var 2)) (de_ix ix_d (de_var 0) (de_var 7)) de_int)))))
      (dss_one (ds_set 4 nd (de_op od_add (de_var 4) (de_var 6)))))) dss_nil)))
      (dss_one (ds_ret (de_var 4)))))
theorem ok_prime_ways {f : Addr} {fd : FuncData} (F : Fun K "prime_ways" "prime_ways" s_prime_ways f fd) (B : Bi mg) (c_all_primes : Cal P w K mg base C 2 "all_primes" ["table"] m_all_primes) (c_sets_for : Cal P w K mg base C 5 "sets_for" ["table", "prime"] m_sets_for) (c_ways_with : Cal P w K mg base C 1 "ways_with" ["full", "sets", "row", "times"] m_ways_with) : FnOk P w K mg base CX0 6 f fd ["table", "row"] (spD K C m_prime_ways) :=
  have nd := sc_prime_ways.nd
  fnD (k := 5) F sc_prime_ways (by decide) fun cdv A outer s H E hr =>
    (dss_cons (ds_setN 2 nd (dn_lst da_nil))
      (dss_cons (ds_for PassesOwn.never rfl (di_seq (de_call c_all_primes hr (by rfl) (da_cons (de_var 0) da_nil))) (dg_name 3 nd) (dss_cons (ds_asg (de_call c_sets_for hr (by rfl) (da_cons (de_var 0) (da_cons (de_var 3) da_nil))) (dg_tup rfl (dg_cons (dg_name 4 nd) (dg_cons (dg_name 5 nd) dg_nil)) (gl1 (gl1 gl0))))
      (dss_one (ds_app 2 (de_tup (da_cons (de_var 3) (da_cons (de_comp (own := [("times", 6)]) rfl nd (di_rng1 (by rfl) B.range_ (da_cons (de_op od_add (de_ix ix_d (de_var 4) (de_var 1)) de_int) da_nil)) (blkOk_by (N := N_prime_ways) (sc := defScope s_prime_ways) (by decide +kernel)) (fun _ _ _ _ _ => (dg_name 6 nd)) (fun _ _ _ _ _ => dts_nil) (fun _ _ _ _ _ => (de_call c_ways_with hr (by rfl) (da_cons (de_var 4) (da_cons (de_var 5) (da_cons (de_var 1) (da_cons (de_var 6) da_nil))))))) da_nil)))))))
      (dss_one (ds_frz (O1 := []) 2 (ds_ret (de_var 2))))))
theorem ok_count_with {f : Addr} {fd : FuncData} (F : Fun K "count_with" "count_with" s_count_with f fd) (B : Bi mg) (c_exponent : Cal P w K mg base C 1 "exponent" ["prime", "number"] m_exponent) (c_greatest : Cal P w K mg base C 3 "greatest" ["table"] m_greatest) (c_prime_ways : Cal P w K mg base C 6 "prime_ways" ["table", "row"] m_prime_ways) : FnOk P w K mg base CX0 7 f fd ["table", "row", "number"] (spD K C m_count_with) :=
  have nd := sc_count_with.nd
  fnD (k := 6) F sc_count_with (by decide) fun cdv A outer s H E hr =>
    (dss_cons (ds_if (dt_cmp (od_ne hr.units) (de_op od_mod (de_ix ix_d (de_ix ix_d (de_call c_greatest hr (by rfl) (da_cons (de_var 0) da_nil)) de_int) (de_var 1)) (de_var 2)) de_int) (dss_one (ds_ret de_int)) dss_nil)
      (dss_cons (ds_set 3 nd de_int)
      (dss_cons (ds_for PassesOwn.never rfl (di_seq (de_call c_prime_ways hr (by rfl) (da_cons (de_var 0) (da_cons (de_var 1) da_nil)))) (dg_tup rfl (dg_cons (dg_name 4 nd) (dg_cons (dg_name 5 nd) dg_nil)) (gl1 (gl1 gl0))) (dss_one (ds_set 3 nd (de_op od_mul (de_var 3) (de_ix ix_d (de_var 5) (de_call c_exponent hr (by rfl) (da_cons (de_var 4) (da_cons (de_var 2) da_nil))))))))
      (dss_one (ds_ret (de_var 3))))))
theorem ok_number_share {f : Addr} {fd : FuncData} (F : Fun K "number_share" "number_share" s_number_share f fd) (B : Bi mg) (c_count_solutions : Cal P w K mg base C 6 "count_solutions" ["table"] m_count_solutions) (c_count_with : Cal P w K mg base C 7 "count_with" ["table", "row", "number"] m_count_with) (c_gcd : Cal P w K mg base C 1 "gcd" ["one", "other"] m_gcd) : FnOk P w K mg base CX0 8 f fd ["table", "row", "number"] (spD K C m_number_share) :=
  have nd := sc_number_share.nd
  fnD (k := 7) F sc_number_share (by decide) fun cdv A outer s H E hr =>
    (dss_cons (ds_par 3 4 rfl nd (de_call c_count_with hr (by rfl) (da_cons (de_var 0) (da_cons (de_var 1) (da_cons (de_var 2) da_nil)))) (de_call c_count_solutions hr (by rfl) (da_cons (de_var 0) da_nil)))
      (dss_cons (ds_set 5 nd (de_call c_gcd hr (by rfl) (da_cons (de_var 4) (da_cons (de_var 3) da_nil))))
      (dss_one (ds_ret (de_tup (da_cons (de_op od_fdiv (de_var 3) (de_var 5)) (da_cons (de_op od_fdiv (de_var 4) (de_var 5)) da_nil)))))))
theorem ok_likeliest {f : Addr} {fd : FuncData} (F : Fun K "likeliest" "likeliest" s_likeliest f fd) (B : Bi mg) (c_power : Cal P w K mg base C 1 "power" ["prime", "times"] m_power) (c_prime_ways : Cal P w K mg base C 6 "prime_ways" ["table", "row"] m_prime_ways) : FnOk P w K mg base CX0 7 f fd ["table", "row"] (spD K C m_likeliest) :=
  have nd := sc_likeliest.nd
  fnD (k := 6) F sc_likeliest (by decide) fun cdv A outer s H E hr =>
    (dss_cons (ds_set 2 nd (de_lst (da_cons de_int da_nil)))
      (dss_cons (ds_for PassesOwn.never rfl (di_seq (de_call c_prime_ways hr (by rfl) (da_cons (de_var 0) (da_cons (de_var 1) da_nil)))) (dg_tup rfl (dg_cons (dg_name 3 nd) (dg_cons (dg_name 4 nd) dg_nil)) (gl1 (gl1 gl0))) (dss_cons (ds_set 5 nd (de_comp (own := [("times", 6), ("count", 7)]) rfl nd (di_enum (by rfl) B.enumerate_ (da_cons (de_var 4) da_nil)) (blkOk_by (N := N_likeliest) (sc := defScope s_likeliest) (by decide +kernel)) (fun _ _ _ _ _ => (dg_tup rfl (dg_cons (dg_name 6 nd) (dg_cons (dg_name 7 nd) dg_nil)) (gl1 (gl1 gl0)))) (fun _ _ _ _ _ => (dts_one (dt_cmp (od_eq hr.units) (de_var 7) (de_callB (cd_max rfl) (by rfl) B.max_ bt_max (da_cons (de_var 4) da_nil))))) (fun _ _ _ _ _ => (de_var 6))))
      (dss_one (ds_setLc2 2 (own := [("number", 8), ("times", 6)]) (vs1 := [6]) rfl nd (di_seq (de_var 2)) (blkOk_by (N := N_likeliest) (sc := defScope s_likeliest) (by decide +kernel)) (fun _ _ _ _ _ => (dg_name 8 nd)) (fun _ _ _ _ _ => (di_seq (de_var 5))) (fun _ _ _ _ _ => (dg_name 6 nd)) (fun _ _ _ _ _ => dts_nil) (fun _ _ _ _ _ => (de_op od_mul (de_var 8) (de_call c_power hr (by rfl) (da_cons (de_var 3) (da_cons (de_var 6) da_nil)))))))))
      (dss_one (ds_ret (de_callB cd_sorted (by rfl) B.sorted_ bt_sorted (da_cons (de_var 2) da_nil))))))
theorem ok_meetings {f : Addr} {fd : FuncData} (F : Fun K "meetings" "meetings" s_meetings f fd) (B : Bi mg) (BC : BeC P w K mg base C) (c_lcm : Cal P w K mg base C 2 "lcm" ["one", "other"] m_lcm) : FnOk P w K mg base CX0 3 f fd ["bells"] (spD K C m_meetings) :=
  have nd := sc_meetings.nd
  fnD (k := 2) F sc_meetings (by decide) fun cdv A outer s H E hr =>
    (dss_cons (ds_set 1 nd (de_lst (da_cons (de_tup (da_cons de_int (da_cons de_int da_nil))) da_nil)))
      (dss_cons (ds_for PassesOwn.never rfl (di_seq (de_periods BC hr (de_var 0))) (dg_name 2 nd) (dss_one (ds_set 1 nd (de_op od_add (de_var 1) (de_comp (own := [("many", 3), ("length", 4)]) rfl nd (di_seq (de_var 1)) (blkOk_by (N := N_meetings) (sc := defScope s_meetings) (by decide +kernel)) (fun _ _ _ _ _ => (dg_tup rfl (dg_cons (dg_name 3 nd) (dg_cons (dg_name 4 nd) dg_nil)) (gl1 (gl1 gl0)))) (fun _ _ _ _ _ => dts_nil) (fun _ _ _ _ _ => (de_tup (da_cons (de_op od_add (de_var 3) de_int) (da_cons (de_call c_lcm hr (by rfl) (da_cons (de_var 4) (da_cons (de_var 2) da_nil))) da_nil)))))))))
      (dss_one (ds_ret (de_var 1)))))
theorem ok_choose {f : Addr} {fd : FuncData} (F : Fun K "choose" "choose" s_choose f fd) (B : Bi mg) : FnOk P w K mg base CX0 1 f fd ["many", "some"] (spD K C m_choose) :=
  have nd := sc_choose.nd
  fnD (k := 0) F sc_choose (by decide) fun cdv A outer s H E hr =>
    (dss_cons (ds_set 2 nd de_int)
      (dss_cons (ds_for PassesOwn.never rfl (di_rng1 (by rfl) B.range_ (da_cons (de_var 1) da_nil)) (dg_name 3 nd) (dss_one (ds_set 2 nd (de_op od_fdiv (de_op od_mul (de_var 2) (de_op od_sub (de_var 0) (de_var 3))) (de_op od_add (de_var 3) de_int)))))
      (dss_one (ds_ret (de_var 2)))))
theorem ok_rung_to {f : Addr} {fd : FuncData} (F : Fun K "rung_to" "rung_to" s_rung_to f fd) (B : Bi mg) : FnOk P w K mg base CX0 1 f fd ["sets", "time"] (spD K C m_rung_to) :=
  have nd := sc_rung_to.nd
  fnD (k := 0) F sc_rung_to (by decide) fun cdv A outer s H E hr =>
    (dss_cons (ds_set 2 nd de_int)
      (dss_cons (ds_for PassesOwn.never rfl (di_seq (de_var 0)) (dg_tup rfl (dg_cons (dg_name 3 nd) (dg_cons (dg_name 4 nd) dg_nil)) (gl1 (gl1 gl0))) (dss_one (ds_if (dt_cmp (od_gt hr.units0) (de_var 3) de_int) (dss_one (ds_set 2 nd (de_op od_add (de_var 2) (de_op od_mul (de_op od_add (de_op od_fdiv (de_var 1) (de_var 4)) de_int) (de_if (dt_cmp (od_eq hr.units) (de_op od_mod (de_var 3) de_int) de_int) de_int (de_neg de_int)))))) dss_nil)))
      (dss_one (ds_ret (de_var 2)))))
theorem ok_just_to {f : Addr} {fd : FuncData} (F : Fun K "just_to" "just_to" s_just_to f fd) (B : Bi mg) (c_choose : Cal P w K mg base C 1 "choose" ["many", "some"] m_choose) : FnOk P w K mg base CX0 2 f fd ["sets", "some", "time"] (spD K C m_just_to) :=
  have nd := sc_just_to.nd
  fnD (k := 1) F sc_just_to (by decide) fun cdv A outer s H E hr =>
    (dss_cons (ds_set 3 nd de_int)
      (dss_cons (ds_for PassesOwn.never rfl (di_seq (de_var 0)) (dg_tup rfl (dg_cons (dg_name 4 nd) (dg_cons (dg_name 5 nd) dg_nil)) (gl1 (gl1 gl0))) (dss_one (ds_if (dt_cmp od_ge (de_var 4) (de_var 1)) (dss_one (ds_set 3 nd (de_op od_add (de_var 3) (de_op od_mul (de_op od_mul (de_op od_add (de_op od_fdiv (de_var 2) (de_var 5)) de_int) (de_call c_choose hr (by rfl) (da_cons (de_var 4) (da_cons (de_var 1) da_nil)))) (de_if (dt_cmp (od_eq hr.units) (de_op od_mod (de_op od_sub (de_var 4) (de_var 1)) de_int) de_int) de_int (de_neg de_int)))))) dss_nil)))
      (dss_one (ds_ret (de_var 3)))))
theorem ok_count_rings {f : Addr} {fd : FuncData} (F : Fun K "count_rings" "count_rings" s_count_rings f fd) (B : Bi mg) (c_meetings : Cal P w K mg base C 3 "meetings" ["bells"] m_meetings) (c_rung_to : Cal P w K mg base C 1 "rung_to" ["sets", "time"] m_rung_to) : FnOk P w K mg base CX0 4 f fd ["bells", "low", "high"] (spD K C m_count_rings) :=
  have nd := sc_count_rings.nd
  fnD (k := 3) F sc_count_rings (by decide) fun cdv A outer s H E hr =>
    (dss_cons (ds_set 3 nd (de_call c_meetings hr (by rfl) (da_cons (de_var 0) da_nil)))
      (dss_one (ds_ret (de_if (dt_cmp od_le (de_var 1) (de_var 2)) (de_callB (cd_max rfl) (by rfl) B.max_ bt_max (da_cons de_int (da_cons (de_op od_sub (de_call c_rung_to hr (by rfl) (da_cons (de_var 3) (da_cons (de_var 2) da_nil))) (de_call c_rung_to hr (by rfl) (da_cons (de_var 3) (da_cons (de_op od_sub (de_var 1) de_int) da_nil)))) da_nil))) de_int))))
theorem ok_count_just {f : Addr} {fd : FuncData} (F : Fun K "count_just" "count_just" s_count_just f fd) (B : Bi mg) (c_just_to : Cal P w K mg base C 2 "just_to" ["sets", "some", "time"] m_just_to) (c_meetings : Cal P w K mg base C 3 "meetings" ["bells"] m_meetings) : FnOk P w K mg base CX0 4 f fd ["bells", "many", "low", "high"] (spD K C m_count_just) :=
  have nd := sc_count_just.nd
  fnD (k := 3) F sc_count_just (by decide) fun cdv A outer s H E hr =>
    (dss_cons (ds_set 4 nd (de_call c_meetings hr (by rfl) (da_cons (de_var 0) da_nil)))
      (dss_one (ds_ret (de_if (dt_cmp od_le (de_var 2) (de_var 3)) (de_op od_sub (de_call c_just_to hr (by rfl) (da_cons (de_var 4) (da_cons (de_var 1) (da_cons (de_var 3) da_nil)))) (de_call c_just_to hr (by rfl) (da_cons (de_var 4) (da_cons (de_var 1) (da_cons (de_op od_sub (de_var 2) de_int) da_nil))))) de_int))))
theorem ok_ring_at {f : Addr} {fd : FuncData} (F : Fun K "ring_at" "ring_at" s_ring_at f fd) (B : Bi mg) (BC : BeC P w K mg base C) (c_meetings : Cal P w K mg base C 3 "meetings" ["bells"] m_meetings) (c_rung_to : Cal P w K mg base C 1 "rung_to" ["sets", "time"] m_rung_to) : FnOk P w K mg base CX0 4 f fd ["bells", "index"] (spD K C m_ring_at) :=
  have nd := sc_ring_at.nd
  fnD (k := 3) F sc_ring_at (by decide) fun cdv A outer s H E hr =>
    (dss_cons (ds_set 2 nd (de_call c_meetings hr (by rfl) (da_cons (de_var 0) da_nil)))
      (dss_cons (ds_par 3 4 rfl nd de_int (de_op od_mul (de_var 1) (de_callB (cd_minT rfl (hu65 hr)) (by rfl) B.min_ bt_min (da_cons (de_periods BC hr (de_var 0)) da_nil))))
      (dss_cons (ds_while PassesOwn.never (dt_cmp (od_lt hr.units0) (de_var 3) (de_var 4)) (dss_cons (ds_set 5 nd (de_op od_fdiv (de_op od_add (de_var 3) (de_var 4)) de_int))
      (dss_one (ds_if (dt_cmp (od_gt hr.units0) (de_call c_rung_to hr (by rfl) (da_cons (de_var 2) (da_cons (de_var 5) da_nil))) (de_var 1)) (dss_one (ds_set 4 nd (de_var 5))) (dss_one (ds_set 3 nd (de_op od_add (de_var 5) de_int)))))))
      (dss_one (ds_ret (de_var 3))))))
theorem ok_first_with {f : Addr} {fd : FuncData} (F : Fun K "first_with" "first_with" s_first_with f fd) (B : Bi mg) (BC : BeC P w K mg base C) (c_gcd : Cal P w K mg base C 1 "gcd" ["one", "other"] m_gcd) (c_lcm : Cal P w K mg base C 2 "lcm" ["one", "other"] m_lcm) : FnOk P w K mg base CX0 3 f fd ["bells", "numbers", "low"] (spD K C m_first_with) :=
  have nd := sc_first_with.nd
  fnD (k := 2) F sc_first_with (by decide) fun cdv A outer s H E hr =>
    (dss_cons (ds_set 3 nd de_int)
      (dss_cons (ds_for PassesOwn.never rfl (di_seq (de_var 1)) (dg_name 4 nd) (dss_one (ds_set 3 nd (de_call c_lcm hr (by rfl) (da_cons (de_var 3) (da_cons (de_ix ix_d (de_periods BC hr (de_var 0)) (de_var 4)) da_nil))))))
      (dss_cons (ds_setLc 5 (own := [("number", 4), ("period", 8)]) rfl nd (di_enum (by rfl) B.enumerate_ (da_cons (de_periods BC hr (de_var 0)) da_nil)) (blkOk_by (N := N_first_with) (sc := defScope s_first_with) (by decide +kernel)) (fun _ _ _ _ _ => (dg_tup rfl (dg_cons (dg_name 4 nd) (dg_cons (dg_name 8 nd) dg_nil)) (gl1 (gl1 gl0)))) (fun _ _ _ _ _ => (dts_one (dt_cmp (od_notIn (hu65 hr)) (de_var 4) (de_var 1)))) (fun _ _ _ _ _ => (de_var 8)))
      (dss_cons (ds_setLc 6 (own := [("period", 8)]) rfl nd (di_seq (de_var 5)) (blkOk_by (N := N_first_with) (sc := defScope s_first_with) (by decide +kernel)) (fun _ _ _ _ _ => (dg_name 8 nd)) (fun _ _ _ _ _ => dts_nil) (fun _ _ _ _ _ => (de_op od_fdiv (de_var 8) (de_call c_gcd hr (by rfl) (da_cons (de_var 8) (da_cons (de_var 3) da_nil))))))
      (dss_cons (ds_if (dt_cmp (od_in (hu65 hr)) de_int (de_var 6)) (dss_one (ds_ret de_non)) dss_nil)
      (dss_cons (ds_set 7 nd (de_op od_fdiv (de_op od_sub (de_op od_add (de_var 2) (de_var 3)) de_int) (de_var 3)))
      (dss_cons (ds_while PassesOwn.never (dt_val (de_callB (cd_any rfl) (by rfl) B.any_ bt_any (da_cons (de_comp (own := [("part", 9)]) rfl nd (di_seq (de_var 6)) (blkOk_by (N := N_first_with) (sc := defScope s_first_with) (by decide +kernel)) (fun _ _ _ _ _ => (dg_name 9 nd)) (fun _ _ _ _ _ => dts_nil) (fun _ _ _ _ _ => (de_cmp (od_eq hr.units) (de_op od_mod (de_var 7) (de_var 9)) de_int))) da_nil))) (dss_one (ds_aug 7 nd de_int)))
      (dss_one (ds_ret (de_op od_mul (de_var 7) (de_var 3)))))))))))
theorem ok_single_mends {f : Addr} {fd : FuncData} (F : Fun K "single_mends" "single_mends" s_single_mends f fd) (B : Bi mg) (c_entry_values : Cal P w K mg base C 5 "entry_values" ["table", "row", "column"] m_entry_values) (c_is_real : Cal P w K mg base C 4 "is_real" ["table"] m_is_real) (c_known_places : Cal P w K mg base C 1 "known_places" ["table"] m_known_places) (c_without : Cal P w K mg base C 1 "without" ["table", "places"] m_without) : FnOk P w K mg base CX0 6 f fd ["table"] (spD K C m_single_mends) :=
  have nd := sc_single_mends.nd
  fnD (k := 5) F sc_single_mends (by decide) fun cdv A outer s H E hr =>
    (dss_cons (ds_setN 1 nd (dn_lst da_nil))
      (dss_cons (ds_for PassesOwn.never rfl (di_seq (de_call c_known_places hr (by rfl) (da_cons (de_var 0) da_nil))) (dg_tup rfl (dg_cons (dg_name 2 nd) (dg_cons (dg_name 3 nd) dg_nil)) (gl1 (gl1 gl0))) (dss_cons (ds_set 4 nd (de_call c_without hr (by rfl) (da_cons (de_var 0) (da_cons (de_lst (da_cons (de_tup (da_cons (de_var 2) (da_cons (de_var 3) da_nil))) da_nil)) da_nil))))
      (dss_one (ds_if (dt_val (de_call c_is_real hr (by rfl) (da_cons (de_var 4) da_nil))) (dss_one (ds_app 1 (de_tup (da_cons (de_var 2) (da_cons (de_var 3) (da_cons (de_call c_entry_values hr (by rfl) (da_cons (de_var 4) (da_cons (de_var 2) (da_cons (de_var 3) da_nil)))) da_nil)))))) dss_nil))))
      (dss_one (ds_frz (O1 := []) 1 (ds_ret (de_var 1))))))
theorem ok_wrong_sets {f : Addr} {fd : FuncData} (F : Fun K "wrong_sets" "wrong_sets" s_wrong_sets f fd) (B : Bi mg) (c_is_real : Cal P w K mg base C 4 "is_real" ["table"] m_is_real) (c_known_places : Cal P w K mg base C 1 "known_places" ["table"] m_known_places) (c_without : Cal P w K mg base C 1 "without" ["table", "places"] m_without) : FnOk P w K mg base CX0 5 f fd ["table"] (spD K C m_wrong_sets) :=
  have nd := sc_wrong_sets.nd
  fnD (k := 4) F sc_wrong_sets (by decide) fun cdv A outer s H E hr =>
    (dss_cons (ds_par 1 2 rfl nd (de_lst (da_cons (de_tup da_nil) da_nil)) (de_call c_known_places hr (by rfl) (da_cons (de_var 0) da_nil)))
      (dss_cons (ds_while PassesOwn.never (dt_cmp (od_ne hr.units) (de_var 1) (de_lst da_nil)) (dss_cons (ds_setLc 3 (own := [("some", 5)]) rfl nd (di_seq (de_var 1)) (blkOk_by (N := N_wrong_sets) (sc := defScope s_wrong_sets) (by decide +kernel)) (fun _ _ _ _ _ => (dg_name 5 nd)) (fun _ _ _ _ _ => (dts_one (dt_val (de_call c_is_real hr (by rfl) (da_cons (de_call c_without hr (by rfl) (da_cons (de_var 0) (da_cons (de_var 5) da_nil))) da_nil))))) (fun _ _ _ _ _ => (de_var 5)))
      (dss_cons (ds_if (dt_cmp (od_ne hr.units) (de_var 3) (de_lst da_nil)) (dss_one (ds_ret (de_var 3))) dss_nil)
      (dss_cons (ds_set 4 nd (de_lst da_nil))
      (dss_cons (ds_for PassesOwn.never rfl (di_seq (de_var 1)) (dg_name 5 nd) (dss_one (ds_set 4 nd (de_op od_add (de_var 4) (de_comp (own := [("place", 6)]) rfl nd (di_seq (de_var 2)) (blkOk_by (N := N_wrong_sets) (sc := defScope s_wrong_sets) (by decide +kernel)) (fun _ _ _ _ _ => (dg_name 6 nd)) (fun _ _ _ _ _ => (dts_one (dt_w (dw_or (dt_cmp (od_eq hr.units) (de_var 5) (de_tup da_nil)) (dw_or1 (dt_cmp (od_gt hr.units0) (de_var 6) (de_ix ix_d (de_var 5) (de_neg de_int)))))))) (fun _ _ _ _ _ => (de_op od_add (de_var 5) (de_tup (da_cons (de_var 6) da_nil)))))))))
      (dss_one (ds_set 1 nd (de_var 4))))))))
      (dss_one (ds_ret (de_lst da_nil)))))
theorem ok_surely_wrong {f : Addr} {fd : FuncData} (F : Fun K "surely_wrong" "surely_wrong" s_surely_wrong f fd) (B : Bi mg) (c_known_places : Cal P w K mg base C 1 "known_places" ["table"] m_known_places) (c_wrong_sets : Cal P w K mg base C 5 "wrong_sets" ["table"] m_wrong_sets) : FnOk P w K mg base CX0 6 f fd ["table"] (spD K C m_surely_wrong) :=
  have nd := sc_surely_wrong.nd
  fnD (k := 5) F sc_surely_wrong (by decide) fun cdv A outer s H E hr =>
    (dss_cons (ds_set 1 nd (de_call c_wrong_sets hr (by rfl) (da_cons (de_var 0) da_nil)))
      (dss_one (ds_ret (de_comp (own := [("place", 2)]) rfl nd (di_seq (de_call c_known_places hr (by rfl) (da_cons (de_var 0) da_nil))) (blkOk_by (N := N_surely_wrong) (sc := defScope s_surely_wrong) (by decide +kernel)) (fun _ _ _ _ _ => (dg_name 2 nd)) (fun _ _ _ _ _ => (dts_one (dt_val (de_callB (cd_all rfl) (by rfl) B.all_ bt_all (da_cons (de_comp (own := [("some", 3)]) rfl nd (di_seq (de_var 1)) (blkOk_by (N := N_surely_wrong)  (by with_unfolding_all rfl)) (fun _ _ _ _ _ => (dg_name 3 nd)) (fun _ _ _ _ _ => dts_nil) (fun _ _ _ _ _ => (de_cmp (od_in (hu65 hr)) (de_var 2) (de_var 3)))) da_nil))))) (fun _ _ _ _ _ => (de_var 2))))))
theorem ok__law_cell {f : Addr} {fd : FuncData} (F : Fun K "_law_cell" "_law_cell" s__law_cell f fd) (B : Bi mg) : FnOk P w K mg base CX0 1 f fd ["script", "index"] (spD K C m_law_cell) :=
  have nd := sc__law_cell.nd
  fnD (k := 0) F sc__law_cell (by decide) fun cdv A outer s H E hr =>
    (dss_cons (ds_if (dt_cmp (od_lt hr.units0) (de_var 1) (de_callB cd_len (by rfl) B.len_ bt_len (da_cons (de_var 0) da_nil))) (dss_one (ds_ret (de_ix ix_d (de_var 0) (de_var 1)))) dss_nil)
      (dss_cons (ds_if (dt_cmp (od_eq hr.units) (de_callB cd_len (by rfl) B.len_ bt_len (da_cons (de_var 0) da_nil)) de_int) (dss_one (ds_ret (de_op od_add (de_op od_mul de_int (de_var 1)) de_int))) dss_nil)
      (dss_one (ds_ret (de_op od_add (de_op od_mod (de_ix ix_d (de_var 0) (de_op od_mod (de_var 1) (de_callB cd_len (by rfl) B.len_ bt_len (da_cons (de_var 0) da_nil)))) de_int) (de_op od_mul de_int (de_var 1)))))))
theorem ok__law_digits {f : Addr} {fd : FuncData} (F : Fun K "_law_digits" "_law_digits" s__law_digits f fd) (B : Bi mg) (c__law_cell : Cal P w K mg base C 1 "_law_cell" ["script", "index"] m_law_cell) : FnOk P w K mg base CX0 2 f fd ["script", "index", "count", "base"] (spD K C m_law_digits) :=
  have nd := sc__law_digits.nd
  fnD (k := 1) F sc__law_digits (by decide) fun cdv A outer s H E hr =>
    (dss_cons (ds_set 4 nd (de_tup (da_cons de_int (da_cons de_int (da_cons de_int (da_cons de_int (da_cons de_int (da_cons de_int (da_cons de_int (da_cons de_int da_nil))))))))))
      (dss_cons (ds_set 5 nd (de_call c__law_cell hr (by rfl) (da_cons (de_var 0) (da_cons (de_var 1) da_nil))))
      (dss_cons (ds_set 6 nd (de_if (dt_cmp od_ge (de_var 5) (de_op od_pow de_int de_int)) (de_var 5) de_int))
      (dss_cons (ds_setN 7 nd (dn_lst da_nil))
      (dss_cons (ds_for PassesOwn.never rfl (di_rng1 (by rfl) B.range_ (da_cons (de_var 2) da_nil)) (dg_name 8 nd) (dss_cons (ds_set 9 nd (de_op od_mul (de_op od_mod (de_var 5) (de_ix ix_d (de_var 4) (de_op od_mod (de_var 8) de_int))) (de_op od_add de_int (de_op od_mul (de_op od_mul de_int (de_var 8)) (de_var 8)))))
      (dss_cons (ds_set 9 nd (de_op od_add (de_op od_add (de_var 9) (de_op od_mul (de_op od_mul de_int (de_op od_add (de_var 8) de_int)) (de_op od_add (de_var 8) de_int))) (de_op od_mul de_int (de_var 1))))
      (dss_cons (ds_set 9 nd (de_op od_mod (de_var 9) (de_ix ix_d (de_var 4) (de_op od_mod (de_op od_add (de_op od_mul de_int (de_var 8)) (de_var 1)) de_int))))
      (dss_cons (ds_set 9 nd (de_op od_mod (de_op od_mul (de_op od_mul (de_var 9) (de_var 9)) (de_var 9)) (de_ix ix_d (de_var 4) (de_op od_mod (de_op od_add (de_var 8) de_int) de_int))))
      (dss_cons (ds_if (dt_cmp (od_gt hr.units0) (de_var 6) de_int) (dss_one (ds_set 9 nd (de_var 6))) dss_nil)
      (dss_cons (ds_app 7 (de_op od_mod (de_var 9) (de_var 3)))
      (dss_one (ds_set 6 nd (de_op od_fdiv (de_var 6) (de_var 3)))))))))))
      (dss_one (ds_frz (O1 := []) 7 (ds_ret (de_var 7)))))))))
theorem ok__law_one_bell {f : Addr} {fd : FuncData} (F : Fun K "_law_one_bell" "_law_one_bell" s__law_one_bell f fd) (B : Bi mg) (BC : BeC P w K mg base C) (c_count_just : Cal P w K mg base C 4 "count_just" ["bells", "many", "low", "high"] m_count_just) (c_count_rings : Cal P w K mg base C 4 "count_rings" ["bells", "low", "high"] m_count_rings) (c_first_with : Cal P w K mg base C 3 "first_with" ["bells", "numbers", "low"] m_first_with) (c_ring_at : Cal P w K mg base C 4 "ring_at" ["bells", "index"] m_ring_at) : FnOk P w K mg base CX0 6 f fd ["period"] (spD K C m_law_one_bell) :=
  have nd := sc__law_one_bell.nd
  fnD (k := 5) F sc__law_one_bell (by decide) fun cdv A outer s H E hr =>
    (dss_cons (ds_par 1 2 rfl nd (de_bells BC hr (by rfl) (da_cons (de_var 0) da_nil)) (de_bells BC hr (by rfl) (da_cons (de_var 0) (da_cons (de_var 0) da_nil))))
      (dss_cons (ds_if (dt_w (dw_or (dt_cmp (od_ne hr.units) (de_call c_count_rings hr (by rfl) (da_cons (de_var 1) (da_cons de_int (da_cons (de_op od_mul de_int (de_var 0)) da_nil)))) de_int) (dw_or1 (dt_cmp (od_ne hr.units) (de_call c_count_just hr (by rfl) (da_cons (de_var 2) (da_cons de_int (da_cons de_int (da_cons (de_op od_mul de_int (de_var 0)) da_nil))))) de_int)))) (dss_one (ds_ret de_bl)) dss_nil)
      (dss_cons (ds_if (dt_w (dw_or (dt_cmp (od_ne hr.units) (de_call c_count_just hr (by rfl) (da_cons (de_var 2) (da_cons de_int (da_cons de_int (da_cons (de_op od_pow de_int de_int) da_nil))))) de_int) (dw_or1 (dt_cmp (od_ne hr.units) (de_call c_count_just hr (by rfl) (da_cons (de_var 1) (da_cons de_int (da_cons de_int (da_cons (de_op od_mul de_int (de_var 0)) da_nil))))) (de_op od_sub (de_op od_mul de_int (de_var 0)) de_int))))) (dss_one (ds_ret de_bl)) dss_nil)
      (dss_cons (ds_if (dt_w (dw_or (dt_cmp (od_ne hr.units) (de_call c_ring_at hr (by rfl) (da_cons (de_var 2) (da_cons (de_op od_pow de_int de_int) da_nil))) (de_op od_mul (de_var 0) (de_op od_pow de_int de_int))) (dw_or1 (dt_cmp od_isnot (de_call c_first_with hr (by rfl) (da_cons (de_var 2) (da_cons (de_tup (da_cons de_int da_nil)) (da_cons de_int da_nil)))) de_non)))) (dss_one (ds_ret de_bl)) dss_nil)
      (dss_one (ds_ret (de_and (de_cmp (od_eq hr.units) (de_call c_first_with hr (by rfl) (da_cons (de_var 2) (da_cons (de_tup (da_cons de_int (da_cons de_int da_nil))) (da_cons de_int da_nil)))) (de_var 0)) (de_one (de_cmp (od_eq hr.units) (de_call c_first_with hr (by rfl) (da_cons (de_var 1) (da_cons (de_tup (da_cons de_int da_nil)) (da_cons (de_op od_add (de_var 0) de_int) da_nil)))) (de_op od_mul de_int (de_var 0)))))))))))
theorem ok__law_power {f : Addr} {fd : FuncData} (F : Fun K "_law_power" "_law_power" s__law_power f fd) (B : Bi mg) (c_count_with : Cal P w K mg base C 7 "count_with" ["table", "row", "number"] m_count_with) (c_likeliest : Cal P w K mg base C 7 "likeliest" ["table", "row"] m_likeliest) (c_number_share : Cal P w K mg base C 8 "number_share" ["table", "row", "number"] m_number_share) : FnOk P w K mg base CX0 9 f fd ["period"] (spD K C m_law_power) :=
  have nd := sc__law_power.nd
  fnD (k := 8) F sc__law_power (by decide) fun cdv A outer s H E hr =>
    (dss_cons (ds_asg (de_tup (da_cons de_int (da_cons de_int da_nil))) (dg_tup rfl (dg_cons (dg_name 1 nd) (dg_cons (dg_name 2 nd) dg_nil)) (gl1 (gl1 gl0))))
      (dss_cons (ds_while PassesOwn.never (dt_cmp od_le (de_op od_mul de_int (de_var 2)) (de_var 0)) (dss_one (ds_par 1 2 rfl nd (de_op od_add (de_var 1) de_int) (de_op od_mul de_int (de_var 2)))))
      (dss_cons (ds_if (dt_w (dw_or (dt_cmp (od_ne hr.units) (de_call c_count_with hr (by rfl) (da_cons (de_tup (da_cons (de_tup (da_cons (de_var 2) da_nil)) da_nil)) (da_cons de_int (da_cons (de_var 2) da_nil)))) (de_op od_add (de_var 1) de_int)) (dw_or1 (dt_cmp (od_ne hr.units) (de_call c_count_with hr (by rfl) (da_cons (de_tup (da_cons (de_tup (da_cons (de_var 2) da_nil)) da_nil)) (da_cons de_int (da_cons de_int da_nil)))) de_int)))) (dss_one (ds_ret de_bl)) dss_nil)
      (dss_cons (ds_if (dt_w (dw_and (dt_cmp (od_gt hr.units0) (de_var 1) de_int) (dw_and1 (dt_w (dw_or (dt_cmp (od_ne hr.units) (de_call c_count_with hr (by rfl) (da_cons (de_tup (da_cons (de_tup (da_cons (de_var 2) da_nil)) da_nil)) (da_cons de_int (da_cons de_int da_nil)))) de_int) (dw_or1 (dt_cmp (od_ne hr.units) (de_call c_likeliest hr (by rfl) (da_cons (de_tup (da_cons (de_tup (da_cons (de_var 2) da_nil)) da_nil)) (da_cons de_int da_nil))) (de_lst (da_cons (de_var 2) da_nil))))))))) (dss_one (ds_ret de_bl)) dss_nil)
      (dss_one (ds_ret (de_cmp (od_eq hr.units) (de_call c_number_share hr (by rfl) (da_cons (de_tup (da_cons (de_tup (da_cons (de_var 2) da_nil)) da_nil)) (da_cons de_int (da_cons (de_var 2) da_nil)))) (de_tup (da_cons (de_op od_add (de_var 1) de_int) (da_cons (de_op od_add (de_op od_mul de_int (de_var 1)) de_int) da_nil))))))))))
theorem ok_law {f : Addr} {fd : FuncData} (F : Fun K "law" "law" s_law f fd) (B : Bi mg) (BC : BeC P w K mg base C) (c__law_digits : Cal P w K mg base C 2 "_law_digits" ["script", "index", "count", "base"] m_law_digits) (c__law_one_bell : Cal P w K mg base C 6 "_law_one_bell" ["period"] m_law_one_bell) (c__law_power : Cal P w K mg base C 9 "_law_power" ["period"] m_law_power) (c_count_with : Cal P w K mg base C 7 "count_with" ["table", "row", "number"] m_count_with) (c_first_with : Cal P w K mg base C 3 "first_with" ["bells", "numbers", "low"] m_first_with) (c_likeliest : Cal P w K mg base C 7 "likeliest" ["table", "row"] m_likeliest) (c_number_share : Cal P w K mg base C 8 "number_share" ["table", "row", "number"] m_number_share) (c_ring_at : Cal P w K mg base C 4 "ring_at" ["bells", "index"] m_ring_at) (c_single_mends : Cal P w K mg base C 6 "single_mends" ["table"] m_single_mends) (c_surely_wrong : Cal P w K mg base C 6 "surely_wrong" ["table"] m_surely_wrong) (c_wrong_sets : Cal P w K mg base C 5 "wrong_sets" ["table"] m_wrong_sets) : FnOk P w K mg base CX0 10 f fd ["script"] (spD K C m_k30) :=
  have nd := sc_law.nd
  fnD (k := 9) F sc_law (by decide) fun cdv A outer s H E hr =>
    (dss_cons (ds_for PassesOwn.never rfl (di_rng1 (by rfl) B.range_ (da_cons de_int da_nil)) (dg_name 1 nd) (dss_cons (ds_set 2 nd (de_op od_add de_int (de_ix ix_d (de_call c__law_digits hr (by rfl) (da_cons (de_var 0) (da_cons (de_var 1) (da_cons de_int (da_cons de_int da_nil))))) de_int)))
      (dss_one (ds_if (dt_w (dw_or (dt_not (dt_val (de_call c__law_one_bell hr (by rfl) (da_cons (de_var 2) da_nil)))) (dw_or1 (dt_not (dt_val (de_call c__law_power hr (by rfl) (da_cons (de_var 2) da_nil))))))) (dss_one (ds_ret de_bl)) dss_nil))))
      (dss_cons (ds_set 3 nd (de_tup (da_cons (de_tup (da_cons de_int (da_cons de_int da_nil))) (da_cons (de_tup (da_cons de_int (da_cons de_int da_nil))) da_nil))))
      (dss_cons (ds_if (dt_w (dw_or (dt_cmp (od_ne hr.units) (de_comp (own := [("number", 5)]) rfl nd (di_seq (de_tup (da_cons de_int (da_cons de_int da_nil)))) (blkOk_by (N := N_law) (sc := defScope s_law) (by decide +kernel)) (fun _ _ _ _ _ => (dg_name 5 nd)) (fun _ _ _ _ _ => dts_nil) (fun _ _ _ _ _ => (de_call c_count_with hr (by rfl) (da_cons (de_var 3) (da_cons de_int (da_cons (de_var 5) da_nil)))))) (de_lst (da_cons de_int (da_cons de_int da_nil)))) (dw_or1 (dt_cmp (od_ne hr.units) (de_call c_count_with hr (by rfl) (da_cons (de_var 3) (da_cons de_int (da_cons de_int da_nil)))) de_int)))) (dss_one (ds_ret de_bl)) dss_nil)
      (dss_cons (ds_if (dt_w (dw_or (dt_cmp (od_ne hr.units) (de_call c_number_share hr (by rfl) (da_cons (de_var 3) (da_cons de_int (da_cons de_int da_nil)))) (de_tup (da_cons de_int (da_cons de_int da_nil)))) (dw_or (dt_cmp (od_ne hr.units) (de_call c_likeliest hr (by rfl) (da_cons (de_var 3) (da_cons de_int da_nil))) (de_lst (da_cons de_int da_nil))) (dw_or1 (dt_cmp (od_ne hr.units) (de_call c_likeliest hr (by rfl) (da_cons (de_tup (da_cons (de_tup (da_cons de_int da_nil)) da_nil)) (da_cons de_int da_nil))) (de_lst (da_cons de_int da_nil))))))) (dss_one (ds_ret de_bl)) dss_nil)
      (dss_cons (ds_if (dt_cmp (od_ne hr.units) (de_call c_single_mends hr (by rfl) (da_cons (de_tup (da_cons (de_tup (da_cons de_int (da_cons de_int da_nil))) (da_cons (de_tup (da_cons de_int (da_cons de_int da_nil))) da_nil))) da_nil)) (de_lst (da_cons (de_tup (da_cons de_int (da_cons de_int (da_cons (de_lst (da_cons de_int da_nil)) da_nil)))) (da_cons (de_tup (da_cons de_int (da_cons de_int (da_cons (de_lst (da_cons de_int da_nil)) da_nil)))) (da_cons (de_tup (da_cons de_int (da_cons de_int (da_cons (de_lst (da_cons de_int da_nil)) da_nil)))) da_nil))))) (dss_one (ds_ret de_bl)) dss_nil)
      (dss_cons (ds_if (dt_w (dw_or (dt_cmp (od_ne hr.units) (de_call c_wrong_sets hr (by rfl) (da_cons (de_tup (da_cons (de_tup (da_cons de_int (da_cons de_int da_nil))) (da_cons (de_tup (da_cons de_int (da_cons de_int da_nil))) da_nil))) da_nil)) (de_lst (da_cons (de_tup (da_cons (de_tup (da_cons de_int (da_cons de_int da_nil))) da_nil)) (da_cons (de_tup (da_cons (de_tup (da_cons de_int (da_cons de_int da_nil))) da_nil)) (da_cons (de_tup (da_cons (de_tup (da_cons de_int (da_cons de_int da_nil))) da_nil)) da_nil))))) (dw_or1 (dt_cmp (od_ne hr.units) (de_call c_wrong_sets hr (by rfl) (da_cons (de_var 3) da_nil)) (de_lst (da_cons (de_tup da_nil) da_nil)))))) (dss_one (ds_ret de_bl)) dss_nil)
      (dss_cons (ds_if (dt_cmp (od_ne hr.units) (de_call c_surely_wrong hr (by rfl) (da_cons (de_tup (da_cons (de_tup (da_cons de_int (da_cons de_int (da_cons de_int da_nil)))) (da_cons (de_tup (da_cons de_int (da_cons de_int (da_cons de_int da_nil)))) (da_cons (de_tup (da_cons de_int (da_cons de_int (da_cons de_int da_nil)))) da_nil)))) da_nil)) (de_lst (da_cons (de_tup (da_cons de_int (da_cons de_int da_nil))) da_nil))) (dss_one (ds_ret de_bl)) dss_nil)
      (dss_cons (ds_if (dt_cmp (od_ne hr.units) (de_lst (da_cons (de_call c_ring_at hr (by rfl) (da_cons (de_bells BC hr (by rfl) (da_cons de_int (da_cons de_int da_nil))) (da_cons de_int da_nil))) (da_cons (de_call c_ring_at hr (by rfl) (da_cons (de_bells BC hr (by rfl) (da_cons de_int (da_cons de_int da_nil))) (da_cons de_int da_nil))) (da_cons (de_call c_ring_at hr (by rfl) (da_cons (de_bells BC hr (by rfl) (da_cons de_int da_nil)) (da_cons (de_op od_pow de_int de_int) da_nil))) da_nil)))) (de_lst (da_cons de_int (da_cons de_int (da_cons (de_op od_mul de_int (de_op od_pow de_int de_int)) da_nil))))) (dss_one (ds_ret de_bl)) dss_nil)
      (dss_one (ds_ret (de_cmp (od_eq hr.units) (de_comp (own := [("some", 4)]) rfl nd (di_seq (de_tup (da_cons (de_tup (da_cons de_int da_nil)) (da_cons (de_tup (da_cons de_int (da_cons de_int da_nil))) (da_cons (de_tup da_nil) da_nil))))) (blkOk_by (N := N_law) (sc := defScope s_law) (by decide +kernel)) (fun _ _ _ _ _ => (dg_name 4 nd)) (fun _ _ _ _ _ => dts_nil) (fun _ _ _ _ _ => (de_call c_first_with hr (by rfl) (da_cons (de_bells BC hr (by rfl) (da_cons de_int (da_cons de_int da_nil))) (da_cons (de_var 4) (da_cons de_int da_nil)))))) (de_lst (da_cons de_int (da_cons de_int (da_cons de_int da_nil)))))))))))))))
theorem ok_init {f : Addr} {fd : FuncData} (F : Fun K "__init__" "Bells.__init__" sB___init__ f fd) (B : Bi mg) (cl : Cls K C) (nr : NoAttr K C "row") (MO : Most K C) (hmB : mg "Bells" = some (.ref C)) (c_is_integer : Cal P w K mg base C 1 "is_integer" ["value", "low", "high"] m_is_integer)
    (hv : ∀ ns, bellOk ns = true → m_init_t (none :: some (.tup (ns.map .int)) :: List.replicate (NB___init__.length - 2) none) = some false) : FnR P w K mg base CX0 4 f (spStar (spInit C)) :=
  have nd := scB___init__.nd
  init_ok (k := 3) F scB___init__ cl nr rfl (fun _ _ _ _ _ _ us rest hl => match us, hl, rest with | [_], _, [] => rfl | [_], _, _ :: _ => rfl) (fun cdv A outer s H E hr =>
    (dt_w (dw_or (dt_not (dt_chain od_le od_le de_int (de_callB cd_len (by rfl) B.len_ bt_len (da_cons (de_var 1) da_nil)) (de_most MO (by rfl) hmB))) (dw_or1 (dt_not (dt_val (de_callB (cd_all rfl) (by rfl) B.all_ bt_all (da_cons (de_comp (own := [("period", 2)]) rfl nd (di_seq (de_var 1)) (blkOk_by (N := NB___init__) (sc := defScope sB___init__) (by decide +kernel)) (fun _ _ _ _ _ => (dg_name 2 nd)) (fun _ _ _ _ _ => dts_nil) (fun _ _ _ _ _ => (de_call c_is_integer hr (by rfl) (da_cons (de_var 2) (da_cons de_int (da_cons de_int da_nil)))))) da_nil)))))))) hv rfl rfl (by decide) (by first | exact Or.inl rfl | exact Or.inr (Or.inl rfl)) (by first | exact Or.inl rfl | exact Or.inr (Or.inl rfl)) (fun _ => rfl)
end
end My
namespace My
open PySem PySem.Spec PyProof.Rows L2 DL Mi
theorem all_mk {l : PySem.W.OpenLaw} {w : World} {K : PySem.W.Frag} {h : Heap} {mg : Str → Option Value} {fa f0 f1 f2 f3 f4 f5 f6 f7 f8 f9 f10 f11 f12 f13 f14 f15 f16 f17 f18 f19 f20 f21 f22 f23 f24 f25 f26 f27 f28 f29 f30 f31 f32 f33 f34 f35 f36 f37 f38 : Addr} (X : K.In h) (G : h.Ns mainGlobals mg) (hfa : mg "law" = some (.ref fa))
    {od0 an0 : Option Addr} {sl0 : Array (Option Value)} {oc0 kV0 dc0 pm0 cd0 ct0 : Value} (a0 : PySem.W.nsIn K mainGlobals "is_integer" = some (some (.ref f0))) (l0 : K.lookup f0 = some ⟨oc0, od0, .func (PySem.W.fnOf "is_integer" "is_integer" (defArgs s_is_integer) (defBody s_is_integer) (defScope s_is_integer) .none kV0 dc0 pm0 an0 cd0 ct0), sl0⟩) (c0 : PySem.W.codeIn K cd0 "is_integer" = true) (k0 : PySem.W.keepIn K (.ref f0) = true)
    {od1 an1 : Option Addr} {sl1 : Array (Option Value)} {oc1 kV1 dc1 pm1 cd1 ct1 : Value} (a1 : PySem.W.nsIn K mainGlobals "gcd" = some (some (.ref f1))) (l1 : K.lookup f1 = some ⟨oc1, od1, .func (PySem.W.fnOf "gcd" "gcd" (defArgs s_gcd) (defBody s_gcd) (defScope s_gcd) .none kV1 dc1 pm1 an1 cd1 ct1), sl1⟩) (c1 : PySem.W.codeIn K cd1 "gcd" = true) (k1 : PySem.W.keepIn K (.ref f1) = true)
    {od2 an2 : Option Addr} {sl2 : Array (Option Value)} {oc2 kV2 dc2 pm2 cd2 ct2 : Value} (a2 : PySem.W.nsIn K mainGlobals "lcm" = some (some (.ref f2))) (l2 : K.lookup f2 = some ⟨oc2, od2, .func (PySem.W.fnOf "lcm" "lcm" (defArgs s_lcm) (defBody s_lcm) (defScope s_lcm) .none kV2 dc2 pm2 an2 cd2 ct2), sl2⟩) (c2 : PySem.W.codeIn K cd2 "lcm" = true) (k2 : PySem.W.keepIn K (.ref f2) = true)
    {od3 an3 : Option Addr} {sl3 : Array (Option Value)} {oc3 kV3 dc3 pm3 cd3 ct3 : Value} (a3 : PySem.W.nsIn K mainGlobals "prime_factors" = some (some (.ref f3))) (l3 : K.lookup f3 = some ⟨oc3, od3, .func (PySem.W.fnOf "prime_factors" "prime_factors" (defArgs s_prime_factors) (defBody s_prime_factors) (defScope s_prime_factors) .none kV3 dc3 pm3 an3 cd3 ct3), sl3⟩) (c3 : PySem.W.codeIn K cd3 "prime_factors" = true) (k3 : PySem.W.keepIn K (.ref f3) = true)
    {od4 an4 : Option Addr} {sl4 : Array (Option Value)} {oc4 kV4 dc4 pm4 cd4 ct4 : Value} (a4 : PySem.W.nsIn K mainGlobals "exponent" = some (some (.ref f4))) (l4 : K.lookup f4 = some ⟨oc4, od4, .func (PySem.W.fnOf "exponent" "exponent" (defArgs s_exponent) (defBody s_exponent) (defScope s_exponent) .none kV4 dc4 pm4 an4 cd4 ct4), sl4⟩) (c4 : PySem.W.codeIn K cd4 "exponent" = true) (k4 : PySem.W.keepIn K (.ref f4) = true)
    {od5 an5 : Option Addr} {sl5 : Array (Option Value)} {oc5 kV5 dc5 pm5 cd5 ct5 : Value} (a5 : PySem.W.nsIn K mainGlobals "power" = some (some (.ref f5))) (l5 : K.lookup f5 = some ⟨oc5, od5, .func (PySem.W.fnOf "power" "power" (defArgs s_power) (defBody s_power) (defScope s_power) .none kV5 dc5 pm5 an5 cd5 ct5), sl5⟩) (c5 : PySem.W.codeIn K cd5 "power" = true) (k5 : PySem.W.keepIn K (.ref f5) = true)
    {od6 an6 : Option Addr} {sl6 : Array (Option Value)} {oc6 kV6 dc6 pm6 cd6 ct6 : Value} (a6 : PySem.W.nsIn K mainGlobals "between" = some (some (.ref f6))) (l6 : K.lookup f6 = some ⟨oc6, od6, .func (PySem.W.fnOf "between" "between" (defArgs s_between) (defBody s_between) (defScope s_between) .none kV6 dc6 pm6 an6 cd6 ct6), sl6⟩) (c6 : PySem.W.codeIn K cd6 "between" = true) (k6 : PySem.W.keepIn K (.ref f6) = true)
    {od7 an7 : Option Addr} {sl7 : Array (Option Value)} {oc7 kV7 dc7 pm7 cd7 ct7 : Value} (a7 : PySem.W.nsIn K mainGlobals "turned" = some (some (.ref f7))) (l7 : K.lookup f7 = some ⟨oc7, od7, .func (PySem.W.fnOf "turned" "turned" (defArgs s_turned) (defBody s_turned) (defScope s_turned) .none kV7 dc7 pm7 an7 cd7 ct7), sl7⟩) (c7 : PySem.W.codeIn K cd7 "turned" = true) (k7 : PySem.W.keepIn K (.ref f7) = true)
    {od8 an8 : Option Addr} {sl8 : Array (Option Value)} {oc8 kV8 dc8 pm8 cd8 ct8 : Value} (a8 : PySem.W.nsIn K mainGlobals "row_divisor" = some (some (.ref f8))) (l8 : K.lookup f8 = some ⟨oc8, od8, .func (PySem.W.fnOf "row_divisor" "row_divisor" (defArgs s_row_divisor) (defBody s_row_divisor) (defScope s_row_divisor) .none kV8 dc8 pm8 an8 cd8 ct8), sl8⟩) (c8 : PySem.W.codeIn K cd8 "row_divisor" = true) (k8 : PySem.W.keepIn K (.ref f8) = true)
    {od9 an9 : Option Addr} {sl9 : Array (Option Value)} {oc9 kV9 dc9 pm9 cd9 ct9 : Value} (a9 : PySem.W.nsIn K mainGlobals "greatest" = some (some (.ref f9))) (l9 : K.lookup f9 = some ⟨oc9, od9, .func (PySem.W.fnOf "greatest" "greatest" (defArgs s_greatest) (defBody s_greatest) (defScope s_greatest) .none kV9 dc9 pm9 an9 cd9 ct9), sl9⟩) (c9 : PySem.W.codeIn K cd9 "greatest" = true) (k9 : PySem.W.keepIn K (.ref f9) = true)
    {od10 an10 : Option Addr} {sl10 : Array (Option Value)} {oc10 kV10 dc10 pm10 cd10 ct10 : Value} (a10 : PySem.W.nsIn K mainGlobals "known_places" = some (some (.ref f10))) (l10 : K.lookup f10 = some ⟨oc10, od10, .func (PySem.W.fnOf "known_places" "known_places" (defArgs s_known_places) (defBody s_known_places) (defScope s_known_places) .none kV10 dc10 pm10 an10 cd10 ct10), sl10⟩) (c10 : PySem.W.codeIn K cd10 "known_places" = true) (k10 : PySem.W.keepIn K (.ref f10) = true)
    {od11 an11 : Option Addr} {sl11 : Array (Option Value)} {oc11 kV11 dc11 pm11 cd11 ct11 : Value} (a11 : PySem.W.nsIn K mainGlobals "is_real" = some (some (.ref f11))) (l11 : K.lookup f11 = some ⟨oc11, od11, .func (PySem.W.fnOf "is_real" "is_real" (defArgs s_is_real) (defBody s_is_real) (defScope s_is_real) .none kV11 dc11 pm11 an11 cd11 ct11), sl11⟩) (c11 : PySem.W.codeIn K cd11 "is_real" = true) (k11 : PySem.W.keepIn K (.ref f11) = true)
    {od12 an12 : Option Addr} {sl12 : Array (Option Value)} {oc12 kV12 dc12 pm12 cd12 ct12 : Value} (a12 : PySem.W.nsIn K mainGlobals "without" = some (some (.ref f12))) (l12 : K.lookup f12 = some ⟨oc12, od12, .func (PySem.W.fnOf "without" "without" (defArgs s_without) (defBody s_without) (defScope s_without) .none kV12 dc12 pm12 an12 cd12 ct12), sl12⟩) (c12 : PySem.W.codeIn K cd12 "without" = true) (k12 : PySem.W.keepIn K (.ref f12) = true)
    {od13 an13 : Option Addr} {sl13 : Array (Option Value)} {oc13 kV13 dc13 pm13 cd13 ct13 : Value} (a13 : PySem.W.nsIn K mainGlobals "all_primes" = some (some (.ref f13))) (l13 : K.lookup f13 = some ⟨oc13, od13, .func (PySem.W.fnOf "all_primes" "all_primes" (defArgs s_all_primes) (defBody s_all_primes) (defScope s_all_primes) .none kV13 dc13 pm13 an13 cd13 ct13), sl13⟩) (c13 : PySem.W.codeIn K cd13 "all_primes" = true) (k13 : PySem.W.keepIn K (.ref f13) = true)
    {od14 an14 : Option Addr} {sl14 : Array (Option Value)} {oc14 kV14 dc14 pm14 cd14 ct14 : Value} (a14 : PySem.W.nsIn K mainGlobals "sure" = some (some (.ref f14))) (l14 : K.lookup f14 = some ⟨oc14, od14, .func (PySem.W.fnOf "sure" "sure" (defArgs s_sure) (defBody s_sure) (defScope s_sure) .none kV14 dc14 pm14 an14 cd14 ct14), sl14⟩) (c14 : PySem.W.codeIn K cd14 "sure" = true) (k14 : PySem.W.keepIn K (.ref f14) = true)
    {od15 an15 : Option Addr} {sl15 : Array (Option Value)} {oc15 kV15 dc15 pm15 cd15 ct15 : Value} (a15 : PySem.W.nsIn K mainGlobals "entry_values" = some (some (.ref f15))) (l15 : K.lookup f15 = some ⟨oc15, od15, .func (PySem.W.fnOf "entry_values" "entry_values" (defArgs s_entry_values) (defBody s_entry_values) (defScope s_entry_values) .none kV15 dc15 pm15 an15 cd15 ct15), sl15⟩) (c15 : PySem.W.codeIn K cd15 "entry_values" = true) (k15 : PySem.W.keepIn K (.ref f15) = true)
    {od16 an16 : Option Addr} {sl16 : Array (Option Value)} {oc16 kV16 dc16 pm16 cd16 ct16 : Value} (a16 : PySem.W.nsIn K mainGlobals "sets_for" = some (some (.ref f16))) (l16 : K.lookup f16 = some ⟨oc16, od16, .func (PySem.W.fnOf "sets_for" "sets_for" (defArgs s_sets_for) (defBody s_sets_for) (defScope s_sets_for) .none kV16 dc16 pm16 an16 cd16 ct16), sl16⟩) (c16 : PySem.W.codeIn K cd16 "sets_for" = true) (k16 : PySem.W.keepIn K (.ref f16) = true)
    {od17 an17 : Option Addr} {sl17 : Array (Option Value)} {oc17 kV17 dc17 pm17 cd17 ct17 : Value} (a17 : PySem.W.nsIn K mainGlobals "count_solutions" = some (some (.ref f17))) (l17 : K.lookup f17 = some ⟨oc17, od17, .func (PySem.W.fnOf "count_solutions" "count_solutions" (defArgs s_count_solutions) (defBody s_count_solutions) (defScope s_count_solutions) .none kV17 dc17 pm17 an17 cd17 ct17), sl17⟩) (c17 : PySem.W.codeIn K cd17 "count_solutions" = true) (k17 : PySem.W.keepIn K (.ref f17) = true)
    {od18 an18 : Option Addr} {sl18 : Array (Option Value)} {oc18 kV18 dc18 pm18 cd18 ct18 : Value} (a18 : PySem.W.nsIn K mainGlobals "ways_with" = some (some (.ref f18))) (l18 : K.lookup f18 = some ⟨oc18, od18, .func (PySem.W.fnOf "ways_with" "ways_with" (defArgs s_ways_with) (defBody s_ways_with) (defScope s_ways_with) .none kV18 dc18 pm18 an18 cd18 ct18), sl18⟩) (c18 : PySem.W.codeIn K cd18 "ways_with" = true) (k18 : PySem.W.keepIn K (.ref f18) = true)
    {od19 an19 : Option Addr} {sl19 : Array (Option Value)} {oc19 kV19 dc19 pm19 cd19 ct19 : Value} (a19 : PySem.W.nsIn K mainGlobals "prime_ways" = some (some (.ref f19))) (l19 : K.lookup f19 = some ⟨oc19, od19, .func (PySem.W.fnOf "prime_ways" "prime_ways" (defArgs s_prime_ways) (defBody s_prime_ways) (defScope s_prime_ways) .none kV19 dc19 pm19 an19 cd19 ct19), sl19⟩) (c19 : PySem.W.codeIn K cd19 "prime_ways" = true) (k19 : PySem.W.keepIn K (.ref f19) = true)
    {od20 an20 : Option Addr} {sl20 : Array (Option Value)} {oc20 kV20 dc20 pm20 cd20 ct20 : Value} (a20 : PySem.W.nsIn K mainGlobals "count_with" = some (some (.ref f20))) (l20 : K.lookup f20 = some ⟨oc20, od20, .func (PySem.W.fnOf "count_with" "count_with" (defArgs s_count_with) (defBody s_count_with) (defScope s_count_with) .none kV20 dc20 pm20 an20 cd20 ct20), sl20⟩) (c20 : PySem.W.codeIn K cd20 "count_with" = true) (k20 : PySem.W.keepIn K (.ref f20) = true)
    {od21 an21 : Option Addr} {sl21 : Array (Option Value)} {oc21 kV21 dc21 pm21 cd21 ct21 : Value} (a21 : PySem.W.nsIn K mainGlobals "number_share" = some (some (.ref f21))) (l21 : K.lookup f21 = some ⟨oc21, od21, .func (PySem.W.fnOf "number_share" "number_share" (defArgs s_number_share) (defBody s_number_share) (defScope s_number_share) .none kV21 dc21 pm21 an21 cd21 ct21), sl21⟩) (c21 : PySem.W.codeIn K cd21 "number_share" = true) (k21 : PySem.W.keepIn K (.ref f21) = true)
    {od22 an22 : Option Addr} {sl22 : Array (Option Value)} {oc22 kV22 dc22 pm22 cd22 ct22 : Value} (a22 : PySem.W.nsIn K mainGlobals "likeliest" = some (some (.ref f22))) (l22 : K.lookup f22 = some ⟨oc22, od22, .func (PySem.W.fnOf "likeliest" "likeliest" (defArgs s_likeliest) (defBody s_likeliest) (defScope s_likeliest) .none kV22 dc22 pm22 an22 cd22 ct22), sl22⟩) (c22 : PySem.W.codeIn K cd22 "likeliest" = true) (k22 : PySem.W.keepIn K (.ref f22) = true)
    {od23 an23 : Option Addr} {sl23 : Array (Option Value)} {oc23 kV23 dc23 pm23 cd23 ct23 : Value} (a23 : PySem.W.nsIn K mainGlobals "meetings" = some (some (.ref f23))) (l23 : K.lookup f23 = some ⟨oc23, od23, .func (PySem.W.fnOf "meetings" "meetings" (defArgs s_meetings) (defBody s_meetings) (defScope s_meetings) .none kV23 dc23 pm23 an23 cd23 ct23), sl23⟩) (c23 : PySem.W.codeIn K cd23 "meetings" = true) (k23 : PySem.W.keepIn K (.ref f23) = true)
    {od24 an24 : Option Addr} {sl24 : Array (Option Value)} {oc24 kV24 dc24 pm24 cd24 ct24 : Value} (a24 : PySem.W.nsIn K mainGlobals "choose" = some (some (.ref f24))) (l24 : K.lookup f24 = some ⟨oc24, od24, .func (PySem.W.fnOf "choose" "choose" (defArgs s_choose) (defBody s_choose) (defScope s_choose) .none kV24 dc24 pm24 an24 cd24 ct24), sl24⟩) (c24 : PySem.W.codeIn K cd24 "choose" = true) (k24 : PySem.W.keepIn K (.ref f24) = true)
    {od25 an25 : Option Addr} {sl25 : Array (Option Value)} {oc25 kV25 dc25 pm25 cd25 ct25 : Value} (a25 : PySem.W.nsIn K mainGlobals "rung_to" = some (some (.ref f25))) (l25 : K.lookup f25 = some ⟨oc25, od25, .func (PySem.W.fnOf "rung_to" "rung_to" (defArgs s_rung_to) (defBody s_rung_to) (defScope s_rung_to) .none kV25 dc25 pm25 an25 cd25 ct25), sl25⟩) (c25 : PySem.W.codeIn K cd25 "rung_to" = true) (k25 : PySem.W.keepIn K (.ref f25) = true)
    {od26 an26 : Option Addr} {sl26 : Array (Option Value)} {oc26 kV26 dc26 pm26 cd26 ct26 : Value} (a26 : PySem.W.nsIn K mainGlobals "just_to" = some (some (.ref f26))) (l26 : K.lookup f26 = some ⟨oc26, od26, .func (PySem.W.fnOf "just_to" "just_to" (defArgs s_just_to) (defBody s_just_to) (defScope s_just_to) .none kV26 dc26 pm26 an26 cd26 ct26), sl26⟩) (c26 : PySem.W.codeIn K cd26 "just_to" = true) (k26 : PySem.W.keepIn K (.ref f26) = true)
    {od27 an27 : Option Addr} {sl27 : Array (Option Value)} {oc27 kV27 dc27 pm27 cd27 ct27 : Value} (a27 : PySem.W.nsIn K mainGlobals "count_rings" = some (some (.ref f27))) (l27 : K.lookup f27 = some ⟨oc27, od27, .func (PySem.W.fnOf "count_rings" "count_rings" (defArgs s_count_rings) (defBody s_count_rings) (defScope s_count_rings) .none kV27 dc27 pm27 an27 cd27 ct27), sl27⟩) (c27 : PySem.W.codeIn K cd27 "count_rings" = true) (k27 : PySem.W.keepIn K (.ref f27) = true)
    {od28 an28 : Option Addr} {sl28 : Array (Option Value)} {oc28 kV28 dc28 pm28 cd28 ct28 : Value} (a28 : PySem.W.nsIn K mainGlobals "count_just" = some (some (.ref f28))) (l28 : K.lookup f28 = some ⟨oc28, od28, .func (PySem.W.fnOf "count_just" "count_just" (defArgs s_count_just) (defBody s_count_just) (defScope s_count_just) .none kV28 dc28 pm28 an28 cd28 ct28), sl28⟩) (c28 : PySem.W.codeIn K cd28 "count_just" = true) (k28 : PySem.W.keepIn K (.ref f28) = true)
    {od29 an29 : Option Addr} {sl29 : Array (Option Value)} {oc29 kV29 dc29 pm29 cd29 ct29 : Value} (a29 : PySem.W.nsIn K mainGlobals "ring_at" = some (some (.ref f29))) (l29 : K.lookup f29 = some ⟨oc29, od29, .func (PySem.W.fnOf "ring_at" "ring_at" (defArgs s_ring_at) (defBody s_ring_at) (defScope s_ring_at) .none kV29 dc29 pm29 an29 cd29 ct29), sl29⟩) (c29 : PySem.W.codeIn K cd29 "ring_at" = true) (k29 : PySem.W.keepIn K (.ref f29) = true)
    {od30 an30 : Option Addr} {sl30 : Array (Option Value)} {oc30 kV30 dc30 pm30 cd30 ct30 : Value} (a30 : PySem.W.nsIn K mainGlobals "first_with" = some (some (.ref f30))) (l30 : K.lookup f30 = some ⟨oc30, od30, .func (PySem.W.fnOf "first_with" "first_with" (defArgs s_first_with) (defBody s_first_with) (defScope s_first_with) .none kV30 dc30 pm30 an30 cd30 ct30), sl30⟩) (c30 : PySem.W.codeIn K cd30 "first_with" = true) (k30 : PySem.W.keepIn K (.ref f30) = true)
    {od31 an31 : Option Addr} {sl31 : Array (Option Value)} {oc31 kV31 dc31 pm31 cd31 ct31 : Value} (a31 : PySem.W.nsIn K mainGlobals "single_mends" = some (some (.ref f31))) (l31 : K.lookup f31 = some ⟨oc31, od31, .func (PySem.W.fnOf "single_mends" "single_mends" (defArgs s_single_mends) (defBody s_single_mends) (defScope s_single_mends) .none kV31 dc31 pm31 an31 cd31 ct31), sl31⟩) (c31 : PySem.W.codeIn K cd31 "single_mends" = true) (k31 : PySem.W.keepIn K (.ref f31) = true)
    {od32 an32 : Option Addr} {sl32 : Array (Option Value)} {oc32 kV32 dc32 pm32 cd32 ct32 : Value} (a32 : PySem.W.nsIn K mainGlobals "wrong_sets" = some (some (.ref f32))) (l32 : K.lookup f32 = some ⟨oc32, od32, .func (PySem.W.fnOf "wrong_sets" "wrong_sets" (defArgs s_wrong_sets) (defBody s_wrong_sets) (defScope s_wrong_sets) .none kV32 dc32 pm32 an32 cd32 ct32), sl32⟩) (c32 : PySem.W.codeIn K cd32 "wrong_sets" = true) (k32 : PySem.W.keepIn K (.ref f32) = true)
    {od33 an33 : Option Addr} {sl33 : Array (Option Value)} {oc33 kV33 dc33 pm33 cd33 ct33 : Value} (a33 : PySem.W.nsIn K mainGlobals "surely_wrong" = some (some (.ref f33))) (l33 : K.lookup f33 = some ⟨oc33, od33, .func (PySem.W.fnOf "surely_wrong" "surely_wrong" (defArgs s_surely_wrong) (defBody s_surely_wrong) (defScope s_surely_wrong) .none kV33 dc33 pm33 an33 cd33 ct33), sl33⟩) (c33 : PySem.W.codeIn K cd33 "surely_wrong" = true) (k33 : PySem.W.keepIn K (.ref f33) = true)
    {od34 an34 : Option Addr} {sl34 : Array (Option Value)} {oc34 kV34 dc34 pm34 cd34 ct34 : Value} (a34 : PySem.W.nsIn K mainGlobals "_law_cell" = some (some (.ref f34))) (l34 : K.lookup f34 = some ⟨oc34, od34, .func (PySem.W.fnOf "_law_cell" "_law_cell" (defArgs s__law_cell) (defBody s__law_cell) (defScope s__law_cell) .none kV34 dc34 pm34 an34 cd34 ct34), sl34⟩) (c34 : PySem.W.codeIn K cd34 "_law_cell" = true) (k34 : PySem.W.keepIn K (.ref f34) = true)
    {od35 an35 : Option Addr} {sl35 : Array (Option Value)} {oc35 kV35 dc35 pm35 cd35 ct35 : Value} (a35 : PySem.W.nsIn K mainGlobals "_law_digits" = some (some (.ref f35))) (l35 : K.lookup f35 = some ⟨oc35, od35, .func (PySem.W.fnOf "_law_digits" "_law_digits" (defArgs s__law_digits) (defBody s__law_digits) (defScope s__law_digits) .none kV35 dc35 pm35 an35 cd35 ct35), sl35⟩) (c35 : PySem.W.codeIn K cd35 "_law_digits" = true) (k35 : PySem.W.keepIn K (.ref f35) = true)
    {od36 an36 : Option Addr} {sl36 : Array (Option Value)} {oc36 kV36 dc36 pm36 cd36 ct36 : Value} (a36 : PySem.W.nsIn K mainGlobals "_law_one_bell" = some (some (.ref f36))) (l36 : K.lookup f36 = some ⟨oc36, od36, .func (PySem.W.fnOf "_law_one_bell" "_law_one_bell" (defArgs s__law_one_bell) (defBody s__law_one_bell) (defScope s__law_one_bell) .none kV36 dc36 pm36 an36 cd36 ct36), sl36⟩) (c36 : PySem.W.codeIn K cd36 "_law_one_bell" = true) (k36 : PySem.W.keepIn K (.ref f36) = true)
    {od37 an37 : Option Addr} {sl37 : Array (Option Value)} {oc37 kV37 dc37 pm37 cd37 ct37 : Value} (a37 : PySem.W.nsIn K mainGlobals "_law_power" = some (some (.ref f37))) (l37 : K.lookup f37 = some ⟨oc37, od37, .func (PySem.W.fnOf "_law_power" "_law_power" (defArgs s__law_power) (defBody s__law_power) (defScope s__law_power) .none kV37 dc37 pm37 an37 cd37 ct37), sl37⟩) (c37 : PySem.W.codeIn K cd37 "_law_power" = true) (k37 : PySem.W.keepIn K (.ref f37) = true)
    {od38 an38 : Option Addr} {sl38 : Array (Option Value)} {oc38 kV38 dc38 pm38 cd38 ct38 : Value} (a38 : PySem.W.nsIn K mainGlobals "law" = some (some (.ref f38))) (l38 : K.lookup f38 = some ⟨oc38, od38, .func (PySem.W.fnOf "law" "law" (defArgs s_law) (defBody s_law) (defScope s_law) .none kV38 dc38 pm38 an38 cd38 ct38), sl38⟩) (c38 : PySem.W.codeIn K cd38 "law" = true) (k38 : PySem.W.keepIn K (.ref f38) = true)
    (z_all : PySem.W.nsIn K mainGlobals "all" = some none)
    (z_any : PySem.W.nsIn K mainGlobals "any" = some none)
    (z_bool : PySem.W.nsIn K mainGlobals "bool" = some none)
    (z_enumerate : PySem.W.nsIn K mainGlobals "enumerate" = some none)
    (z_int : PySem.W.nsIn K mainGlobals "int" = some none)
    (z_isinstance : PySem.W.nsIn K mainGlobals "isinstance" = some none)
    (z_len : PySem.W.nsIn K mainGlobals "len" = some none)
    (z_max : PySem.W.nsIn K mainGlobals "max" = some none)
    (z_min : PySem.W.nsIn K mainGlobals "min" = some none)
    (z_range : PySem.W.nsIn K mainGlobals "range" = some none)
    (z_sorted : PySem.W.nsIn K mainGlobals "sorted" = some none)
    (z_tuple : PySem.W.nsIn K mainGlobals "tuple" = some none)
    {C fI fP pP : Addr} (e1 : PySem.W.nsIn K mainGlobals "Bells" = some (some (.ref C))) (e2 : PySem.W.plainGet K C Str.empty = true) (e3 : PySem.W.hasDictIn K C = true) (e4 : PySem.W.plainOver K C = true) (e5 : PySem.W.findIn K (.ref C) "__setattr__" = some (some (.builtin "object.__setattr__"))) (e6 : PySem.W.findIn K (.ref C) "row" = some none)
    (e7 : PySem.W.makesIn K C = true) (e8 : PySem.W.findIn K (.ref C) "__init__" = some (some (.ref fI))) (e9 : PySem.W.isFn K (.ref fI) = true) (e10 : PySem.W.keepIn K (.ref C) = true)
    {odI anI : Option Addr} {slI : Array (Option Value)} {ocI kVI dcI pmI cdI ctI : Value} (lI : K.lookup fI = some ⟨ocI, odI, .func (PySem.W.fnOf "__init__" "Bells.__init__" (defArgs sB___init__) (defBody sB___init__) (defScope sB___init__) .none kVI dcI pmI anI cdI ctI), slI⟩) (cI : PySem.W.codeIn K cdI "Bells.__init__" = true) (kI : PySem.W.keepIn K (.ref fI) = true)
    {odP anP : Option Addr} {slP : Array (Option Value)} {ocP kVP dcP pmP cdP ctP : Value} (lP : K.lookup fP = some ⟨ocP, odP, .func (PySem.W.fnOf "periods" "Bells.periods" (defArgs sB_periods) (defBody sB_periods) (defScope sB_periods) .none kVP dcP pmP anP cdP ctP), slP⟩) (cP : PySem.W.codeIn K cdP "Bells.periods" = true) (kP : PySem.W.keepIn K (.ref fP) = true)
    {tM : Tok} {rest : List Value} (e11 : PySem.W.readsIn K C (.type "type") = true) (e12 : PySem.W.specialIn K (.ref C) "__getattribute__" = some (some (.builtin "type.__getattribute__"))) (e13 : PySem.W.findCls K (.ref C) (.type "type") "MOST" = some (.val (.int 5 tM)))
    (e14 : PySem.W.findIn K (.ref C) "periods" = some (some (.ref pP))) (e15 : PySem.W.specialIn K (.ref pP) "__get__" = some (some (.builtin "property.__get__"))) (e16 : PySem.W.takesIn K (.ref pP) = some true) (e17 : PySem.W.recIn K pP "property" = some (.ref fP :: rest))
    : ∃ fd : FuncData, (∀ (s : Shared) (v : Value), BindsTo s fd ⟨[v], []⟩ [("script", v)]) ∧ ∀ base : Heap, K.In base → base.Ns mainGlobals mg → FnOk l.prog w K mg base CX0 10 fa fd ["script"] (spD K C m_k30) := by
  have e := hfa.symm.trans (PySem.W.mg_of X G a38)
  cases e
  have F0 := fun_mk (st := s_is_integer) l0 c0 k0
  have F1 := fun_mk (st := s_gcd) l1 c1 k1
  have F2 := fun_mk (st := s_lcm) l2 c2 k2
  have F3 := fun_mk (st := s_prime_factors) l3 c3 k3
  have F4 := fun_mk (st := s_exponent) l4 c4 k4
  have F5 := fun_mk (st := s_power) l5 c5 k5
  have F6 := fun_mk (st := s_between) l6 c6 k6
  have F7 := fun_mk (st := s_turned) l7 c7 k7
  have F8 := fun_mk (st := s_row_divisor) l8 c8 k8
  have F9 := fun_mk (st := s_greatest) l9 c9 k9
  have F10 := fun_mk (st := s_known_places) l10 c10 k10
  have F11 := fun_mk (st := s_is_real) l11 c11 k11
  have F12 := fun_mk (st := s_without) l12 c12 k12
  have F13 := fun_mk (st := s_all_primes) l13 c13 k13
  have F14 := fun_mk (st := s_sure) l14 c14 k14
  have F15 := fun_mk (st := s_entry_values) l15 c15 k15
  have F16 := fun_mk (st := s_sets_for) l16 c16 k16
  have F17 := fun_mk (st := s_count_solutions) l17 c17 k17
  have F18 := fun_mk (st := s_ways_with) l18 c18 k18
  have F19 := fun_mk (st := s_prime_ways) l19 c19 k19
  have F20 := fun_mk (st := s_count_with) l20 c20 k20
  have F21 := fun_mk (st := s_number_share) l21 c21 k21
  have F22 := fun_mk (st := s_likeliest) l22 c22 k22
  have F23 := fun_mk (st := s_meetings) l23 c23 k23
  have F24 := fun_mk (st := s_choose) l24 c24 k24
  have F25 := fun_mk (st := s_rung_to) l25 c25 k25
  have F26 := fun_mk (st := s_just_to) l26 c26 k26
  have F27 := fun_mk (st := s_count_rings) l27 c27 k27
  have F28 := fun_mk (st := s_count_just) l28 c28 k28
  have F29 := fun_mk (st := s_ring_at) l29 c29 k29
  have F30 := fun_mk (st := s_first_with) l30 c30 k30
  have F31 := fun_mk (st := s_single_mends) l31 c31 k31
  have F32 := fun_mk (st := s_wrong_sets) l32 c32 k32
  have F33 := fun_mk (st := s_surely_wrong) l33 c33 k33
  have F34 := fun_mk (st := s__law_cell) l34 c34 k34
  have F35 := fun_mk (st := s__law_digits) l35 c35 k35
  have F36 := fun_mk (st := s__law_one_bell) l36 c36 k36
  have F37 := fun_mk (st := s__law_power) l37 c37 k37
  have F38 := fun_mk (st := s_law) l38 c38 k38
  have B : Bi mg := ⟨PySem.W.mg_none_of X G z_all, PySem.W.mg_none_of X G z_any, PySem.W.mg_none_of X G z_bool, PySem.W.mg_none_of X G z_enumerate, PySem.W.mg_none_of X G z_int, PySem.W.mg_none_of X G z_isinstance, PySem.W.mg_none_of X G z_len, PySem.W.mg_none_of X G z_max, PySem.W.mg_none_of X G z_min, PySem.W.mg_none_of X G z_range, PySem.W.mg_none_of X G z_sorted, PySem.W.mg_none_of X G z_tuple⟩
  have b0 := F0.binds (ps := ["value", "low", "high"]) fun _ _ _ _ _ _ us hl => match us, hl with | [_, _, _], _ => rfl
  have b1 := F1.binds (ps := ["one", "other"]) fun _ _ _ _ _ _ us hl => match us, hl with | [_, _], _ => rfl
  have b2 := F2.binds (ps := ["one", "other"]) fun _ _ _ _ _ _ us hl => match us, hl with | [_, _], _ => rfl
  have b3 := F3.binds (ps := ["number"]) fun _ _ _ _ _ _ us hl => match us, hl with | [_], _ => rfl
  have b4 := F4.binds (ps := ["prime", "number"]) fun _ _ _ _ _ _ us hl => match us, hl with | [_, _], _ => rfl
  have b5 := F5.binds (ps := ["prime", "times"]) fun _ _ _ _ _ _ us hl => match us, hl with | [_, _], _ => rfl
  have b6 := F6.binds (ps := ["low", "high"]) fun _ _ _ _ _ _ us hl => match us, hl with | [_, _], _ => rfl
  have b7 := F7.binds (ps := ["table"]) fun _ _ _ _ _ _ us hl => match us, hl with | [_], _ => rfl
  have b8 := F8.binds (ps := ["row"]) fun _ _ _ _ _ _ us hl => match us, hl with | [_], _ => rfl
  have b9 := F9.binds (ps := ["table"]) fun _ _ _ _ _ _ us hl => match us, hl with | [_], _ => rfl
  have b10 := F10.binds (ps := ["table"]) fun _ _ _ _ _ _ us hl => match us, hl with | [_], _ => rfl
  have b11 := F11.binds (ps := ["table"]) fun _ _ _ _ _ _ us hl => match us, hl with | [_], _ => rfl
  have b12 := F12.binds (ps := ["table", "places"]) fun _ _ _ _ _ _ us hl => match us, hl with | [_, _], _ => rfl
  have b13 := F13.binds (ps := ["table"]) fun _ _ _ _ _ _ us hl => match us, hl with | [_], _ => rfl
  have b14 := F14.binds (ps := ["table"]) fun _ _ _ _ _ _ us hl => match us, hl with | [_], _ => rfl
  have b15 := F15.binds (ps := ["table", "row", "column"]) fun _ _ _ _ _ _ us hl => match us, hl with | [_, _, _], _ => rfl
  have b16 := F16.binds (ps := ["table", "prime"]) fun _ _ _ _ _ _ us hl => match us, hl with | [_, _], _ => rfl
  have b17 := F17.binds (ps := ["table"]) fun _ _ _ _ _ _ us hl => match us, hl with | [_], _ => rfl
  have b18 := F18.binds (ps := ["full", "sets", "row", "times"]) fun _ _ _ _ _ _ us hl => match us, hl with | [_, _, _, _], _ => rfl
  have b19 := F19.binds (ps := ["table", "row"]) fun _ _ _ _ _ _ us hl => match us, hl with | [_, _], _ => rfl
  have b20 := F20.binds (ps := ["table", "row", "number"]) fun _ _ _ _ _ _ us hl => match us, hl with | [_, _, _], _ => rfl
  have b21 := F21.binds (ps := ["table", "row", "number"]) fun _ _ _ _ _ _ us hl => match us, hl with | [_, _, _], _ => rfl
  have b22 := F22.binds (ps := ["table", "row"]) fun _ _ _ _ _ _ us hl => match us, hl with | [_, _], _ => rfl
  have b23 := F23.binds (ps := ["bells"]) fun _ _ _ _ _ _ us hl => match us, hl with | [_], _ => rfl
  have b24 := F24.binds (ps := ["many", "some"]) fun _ _ _ _ _ _ us hl => match us, hl with | [_, _], _ => rfl
  have b25 := F25.binds (ps := ["sets", "time"]) fun _ _ _ _ _ _ us hl => match us, hl with | [_, _], _ => rfl
  have b26 := F26.binds (ps := ["sets", "some", "time"]) fun _ _ _ _ _ _ us hl => match us, hl with | [_, _, _], _ => rfl
  have b27 := F27.binds (ps := ["bells", "low", "high"]) fun _ _ _ _ _ _ us hl => match us, hl with | [_, _, _], _ => rfl
  have b28 := F28.binds (ps := ["bells", "many", "low", "high"]) fun _ _ _ _ _ _ us hl => match us, hl with | [_, _, _, _], _ => rfl
  have b29 := F29.binds (ps := ["bells", "index"]) fun _ _ _ _ _ _ us hl => match us, hl with | [_, _], _ => rfl
  have b30 := F30.binds (ps := ["bells", "numbers", "low"]) fun _ _ _ _ _ _ us hl => match us, hl with | [_, _, _], _ => rfl
  have b31 := F31.binds (ps := ["table"]) fun _ _ _ _ _ _ us hl => match us, hl with | [_], _ => rfl
  have b32 := F32.binds (ps := ["table"]) fun _ _ _ _ _ _ us hl => match us, hl with | [_], _ => rfl
  have b33 := F33.binds (ps := ["table"]) fun _ _ _ _ _ _ us hl => match us, hl with | [_], _ => rfl
  have b34 := F34.binds (ps := ["script", "index"]) fun _ _ _ _ _ _ us hl => match us, hl with | [_, _], _ => rfl
  have b35 := F35.binds (ps := ["script", "index", "count", "base"]) fun _ _ _ _ _ _ us hl => match us, hl with | [_, _, _, _], _ => rfl
  have b36 := F36.binds (ps := ["period"]) fun _ _ _ _ _ _ us hl => match us, hl with | [_], _ => rfl
  have b37 := F37.binds (ps := ["period"]) fun _ _ _ _ _ _ us hl => match us, hl with | [_], _ => rfl
  have FI := fun_mk (st := sB___init__) lI cI kI
  have FP := fun_mk (st := sB_periods) lP cP kP
  have cl : Cls K C := ⟨e2, e3, e4, e5⟩
  have hmB : mg "Bells" = some (.ref C) := PySem.W.mg_of X G e1
  have MO : Most K C := ⟨.type "type", _, ⟨e11, e12⟩, ⟨e13, ⟨_, rfl⟩⟩⟩
  refine ⟨PySem.W.fnOf "law" "law" (defArgs s_law) (defBody s_law) (defScope s_law) .none kV38 dc38 pm38 an38 cd38 ct38, fun s v => .of_eq rfl, fun base _ _ => ?_⟩
  have C_is_integer : Cal l.prog w K mg base C 1 "is_integer" ["value", "low", "high"] m_is_integer := ⟨⟨_, _, ok_is_integer F0 B , PySem.W.mg_of X G a0, F0.kp, b0⟩⟩
  have C_gcd : Cal l.prog w K mg base C 1 "gcd" ["one", "other"] m_gcd := ⟨⟨_, _, ok_gcd F1 B , PySem.W.mg_of X G a1, F1.kp, b1⟩⟩
  have C_lcm : Cal l.prog w K mg base C 2 "lcm" ["one", "other"] m_lcm := ⟨⟨_, _, ok_lcm F2 B C_gcd, PySem.W.mg_of X G a2, F2.kp, b2⟩⟩
  have C_prime_factors : Cal l.prog w K mg base C 1 "prime_factors" ["number"] m_prime_factors := ⟨⟨_, _, ok_prime_factors F3 B , PySem.W.mg_of X G a3, F3.kp, b3⟩⟩
  have C_exponent : Cal l.prog w K mg base C 1 "exponent" ["prime", "number"] m_exponent := ⟨⟨_, _, ok_exponent F4 B , PySem.W.mg_of X G a4, F4.kp, b4⟩⟩
  have C_power : Cal l.prog w K mg base C 1 "power" ["prime", "times"] m_power := ⟨⟨_, _, ok_power F5 B , PySem.W.mg_of X G a5, F5.kp, b5⟩⟩
  have C_between : Cal l.prog w K mg base C 2 "between" ["low", "high"] m_between := ⟨⟨_, _, ok_between F6 B C_exponent C_power C_prime_factors, PySem.W.mg_of X G a6, F6.kp, b6⟩⟩
  have C_turned : Cal l.prog w K mg base C 1 "turned" ["table"] m_turned := ⟨⟨_, _, ok_turned F7 B , PySem.W.mg_of X G a7, F7.kp, b7⟩⟩
  have C_row_divisor : Cal l.prog w K mg base C 2 "row_divisor" ["row"] m_row_divisor := ⟨⟨_, _, ok_row_divisor F8 B C_gcd, PySem.W.mg_of X G a8, F8.kp, b8⟩⟩
  have C_greatest : Cal l.prog w K mg base C 3 "greatest" ["table"] m_greatest := ⟨⟨_, _, ok_greatest F9 B C_row_divisor C_turned, PySem.W.mg_of X G a9, F9.kp, b9⟩⟩
  have C_known_places : Cal l.prog w K mg base C 1 "known_places" ["table"] m_known_places := ⟨⟨_, _, ok_known_places F10 B , PySem.W.mg_of X G a10, F10.kp, b10⟩⟩
  have C_is_real : Cal l.prog w K mg base C 4 "is_real" ["table"] m_is_real := ⟨⟨_, _, ok_is_real F11 B C_greatest C_known_places C_lcm, PySem.W.mg_of X G a11, F11.kp, b11⟩⟩
  have C_without : Cal l.prog w K mg base C 1 "without" ["table", "places"] m_without := ⟨⟨_, _, ok_without F12 B , PySem.W.mg_of X G a12, F12.kp, b12⟩⟩
  have C_all_primes : Cal l.prog w K mg base C 2 "all_primes" ["table"] m_all_primes := ⟨⟨_, _, ok_all_primes F13 B C_known_places C_prime_factors, PySem.W.mg_of X G a13, F13.kp, b13⟩⟩
  have C_sure : Cal l.prog w K mg base C 4 "sure" ["table"] m_sure := ⟨⟨_, _, ok_sure F14 B C_all_primes C_exponent C_greatest C_known_places C_lcm C_power, PySem.W.mg_of X G a14, F14.kp, b14⟩⟩
  have C_entry_values : Cal l.prog w K mg base C 5 "entry_values" ["table", "row", "column"] m_entry_values := ⟨⟨_, _, ok_entry_values F15 B C_between C_greatest C_lcm C_sure, PySem.W.mg_of X G a15, F15.kp, b15⟩⟩
  have C_sets_for : Cal l.prog w K mg base C 5 "sets_for" ["table", "prime"] m_sets_for := ⟨⟨_, _, ok_sets_for F16 B C_exponent C_greatest C_known_places C_sure, PySem.W.mg_of X G a16, F16.kp, b16⟩⟩
  have C_count_solutions : Cal l.prog w K mg base C 6 "count_solutions" ["table"] m_count_solutions := ⟨⟨_, _, ok_count_solutions F17 B C_all_primes C_sets_for, PySem.W.mg_of X G a17, F17.kp, b17⟩⟩
  have C_ways_with : Cal l.prog w K mg base C 1 "ways_with" ["full", "sets", "row", "times"] m_ways_with := ⟨⟨_, _, ok_ways_with F18 B , PySem.W.mg_of X G a18, F18.kp, b18⟩⟩
  have C_prime_ways : Cal l.prog w K mg base C 6 "prime_ways" ["table", "row"] m_prime_ways := ⟨⟨_, _, ok_prime_ways F19 B C_all_primes C_sets_for C_ways_with, PySem.W.mg_of X G a19, F19.kp, b19⟩⟩
  have C_count_with : Cal l.prog w K mg base C 7 "count_with" ["table", "row", "number"] m_count_with := ⟨⟨_, _, ok_count_with F20 B C_exponent C_greatest C_prime_ways, PySem.W.mg_of X G a20, F20.kp, b20⟩⟩
  have C_number_share : Cal l.prog w K mg base C 8 "number_share" ["table", "row", "number"] m_number_share := ⟨⟨_, _, ok_number_share F21 B C_count_solutions C_count_with C_gcd, PySem.W.mg_of X G a21, F21.kp, b21⟩⟩
  have C_likeliest : Cal l.prog w K mg base C 7 "likeliest" ["table", "row"] m_likeliest := ⟨⟨_, _, ok_likeliest F22 B C_power C_prime_ways, PySem.W.mg_of X G a22, F22.kp, b22⟩⟩
  have BC : BeC l.prog w K mg base C := ⟨cl, e6, ⟨fI, ⟨e7, e8, e9, e10⟩, ok_init FI B cl e6 MO hmB C_is_integer Mi.init_test, hmB⟩, prop_ok FP scB_periods rfl rfl cl e6 (fun _ _ _ _ _ _ us hl => match us, hl with | [_], _ => rfl) ⟨e14, e15, e16, ⟨rest, e17⟩⟩⟩
  have C_meetings : Cal l.prog w K mg base C 3 "meetings" ["bells"] m_meetings := ⟨⟨_, _, ok_meetings F23 B BC C_lcm, PySem.W.mg_of X G a23, F23.kp, b23⟩⟩
  have C_choose : Cal l.prog w K mg base C 1 "choose" ["many", "some"] m_choose := ⟨⟨_, _, ok_choose F24 B , PySem.W.mg_of X G a24, F24.kp, b24⟩⟩
  have C_rung_to : Cal l.prog w K mg base C 1 "rung_to" ["sets", "time"] m_rung_to := ⟨⟨_, _, ok_rung_to F25 B , PySem.W.mg_of X G a25, F25.kp, b25⟩⟩
  have C_just_to : Cal l.prog w K mg base C 2 "just_to" ["sets", "some", "time"] m_just_to := ⟨⟨_, _, ok_just_to F26 B C_choose, PySem.W.mg_of X G a26, F26.kp, b26⟩⟩
  have C_count_rings : Cal l.prog w K mg base C 4 "count_rings" ["bells", "low", "high"] m_count_rings := ⟨⟨_, _, ok_count_rings F27 B C_meetings C_rung_to, PySem.W.mg_of X G a27, F27.kp, b27⟩⟩
  have C_count_just : Cal l.prog w K mg base C 4 "count_just" ["bells", "many", "low", "high"] m_count_just := ⟨⟨_, _, ok_count_just F28 B C_just_to C_meetings, PySem.W.mg_of X G a28, F28.kp, b28⟩⟩
  have C_ring_at : Cal l.prog w K mg base C 4 "ring_at" ["bells", "index"] m_ring_at := ⟨⟨_, _, ok_ring_at F29 B BC C_meetings C_rung_to, PySem.W.mg_of X G a29, F29.kp, b29⟩⟩
  have C_first_with : Cal l.prog w K mg base C 3 "first_with" ["bells", "numbers", "low"] m_first_with := ⟨⟨_, _, ok_first_with F30 B BC C_gcd C_lcm, PySem.W.mg_of X G a30, F30.kp, b30⟩⟩
  have C_single_mends : Cal l.prog w K mg base C 6 "single_mends" ["table"] m_single_mends := ⟨⟨_, _, ok_single_mends F31 B C_entry_values C_is_real C_known_places C_without, PySem.W.mg_of X G a31, F31.kp, b31⟩⟩
  have C_wrong_sets : Cal l.prog w K mg base C 5 "wrong_sets" ["table"] m_wrong_sets := ⟨⟨_, _, ok_wrong_sets F32 B C_is_real C_known_places C_without, PySem.W.mg_of X G a32, F32.kp, b32⟩⟩
  have C_surely_wrong : Cal l.prog w K mg base C 6 "surely_wrong" ["table"] m_surely_wrong := ⟨⟨_, _, ok_surely_wrong F33 B C_known_places C_wrong_sets, PySem.W.mg_of X G a33, F33.kp, b33⟩⟩
  have C__law_cell : Cal l.prog w K mg base C 1 "_law_cell" ["script", "index"] m_law_cell := ⟨⟨_, _, ok__law_cell F34 B , PySem.W.mg_of X G a34, F34.kp, b34⟩⟩
  have C__law_digits : Cal l.prog w K mg base C 2 "_law_digits" ["script", "index", "count", "base"] m_law_digits := ⟨⟨_, _, ok__law_digits F35 B C__law_cell, PySem.W.mg_of X G a35, F35.kp, b35⟩⟩
  have C__law_one_bell : Cal l.prog w K mg base C 6 "_law_one_bell" ["period"] m_law_one_bell := ⟨⟨_, _, ok__law_one_bell F36 B BC C_count_just C_count_rings C_first_with C_ring_at, PySem.W.mg_of X G a36, F36.kp, b36⟩⟩
  have C__law_power : Cal l.prog w K mg base C 9 "_law_power" ["period"] m_law_power := ⟨⟨_, _, ok__law_power F37 B C_count_with C_likeliest C_number_share, PySem.W.mg_of X G a37, F37.kp, b37⟩⟩
  exact ok_law F38 B BC C__law_digits C__law_one_bell C__law_power C_count_with C_first_with C_likeliest C_number_share C_ring_at C_single_mends C_surely_wrong C_wrong_sets
end My
open PySem PySem.W PyProof.Rows
set_option maxHeartbeats 0 in
theorem PySem.Challenge.cw_meetperiods_k30_worked_shares_mends_and_holds : PySem.Challenge.rw_meetperiods_k30_worked_shares_mends_and.Holds := by
  w_on; o_law; k_head; (case hw => w_witness2)
  k_fill
  refine L2.walk_of (l := PySem.Challenge.rw_meetperiods_k30_worked_shares_mends_and) (n := 63) (k := 10) (x := "script") (CX := fun _ => L2.CX0) (sp := fun w => DL.spD _ 284 Mi.m_k30) rfl (by decide) rfl ⟨rfl, by decide, by decide⟩ (fun w h Y => PySem.W.kIn_of Y) ?F (fun _ H a ns hl _ hS => ⟨H, [.scr ns], .bl true, L2.Same.refl _, DL.RpL.one ⟨a, rfl, hS⟩, Mi.plain_k30 ns hl, fun _ _ _ _ r => r⟩) (fun _ _ _ _ _ h => h)
  case F =>
    intro w mg fa h KX G hmg
    refine' My.all_mk KX G hmg ?a0 ?l0 ?c0 ?k0 ?a1 ?l1 ?c1 ?k1 ?a2 ?l2 ?c2 ?k2 ?a3 ?l3 ?c3 ?k3 ?a4 ?l4 ?c4 ?k4 ?a5 ?l5 ?c5 ?k5 ?a6 ?l6 ?c6 ?k6 ?a7 ?l7 ?c7 ?k7 ?a8 ?l8 ?c8 ?k8 ?a9 ?l9 ?c9 ?k9 ?a10 ?l10 ?c10 ?k10 ?a11 ?l11 ?c11 ?k11 ?a12 ?l12 ?c12 ?k12 ?a13 ?l13 ?c13 ?k13 ?a14 ?l14 ?c14 ?k14 ?a15 ?l15 ?c15 ?k15 ?a16 ?l16 ?c16 ?k16 ?a17 ?l17 ?c17 ?k17 ?a18 ?l18 ?c18 ?k18 ?a19 ?l19 ?c19 ?k19 ?a20 ?l20 ?c20 ?k20 ?a21 ?l21 ?c21 ?k21 ?a22 ?l22 ?c22 ?k22 ?a23 ?l23 ?c23 ?k23 ?a24 ?l24 ?c24 ?k24 ?a25 ?l25 ?c25 ?k25 ?a26 ?l26 ?c26 ?k26 ?a27 ?l27 ?c27 ?k27 ?a28 ?l28 ?c28 ?k28 ?a29 ?l29 ?c29 ?k29 ?a30 ?l30 ?c30 ?k30 ?a31 ?l31 ?c31 ?k31 ?a32 ?l32 ?c32 ?k32 ?a33 ?l33 ?c33 ?k33 ?a34 ?l34 ?c34 ?k34 ?a35 ?l35 ?c35 ?k35 ?a36 ?l36 ?c36 ?k36 ?a37 ?l37 ?c37 ?k37 ?a38 ?l38 ?c38 ?k38 ?z_all ?z_any ?z_bool ?z_enumerate ?z_int ?z_isinstance ?z_len ?z_max ?z_min ?z_range ?z_sorted ?z_tuple ?e1 ?e2 ?e3 ?e4 ?e5 ?e6 ?e7 ?e8 ?e9 ?e10 ?lI ?cI ?kI ?lP ?cP ?kP ?e11 ?e12 ?e13 ?e14 ?e15 ?e16 ?e17
    (case a0 => k_is)
    (case l0 => k_is)
    (case c0 => k_is)
    (case k0 => k_is)
    (case a1 => k_is)
    (case l1 => k_is)
    (case c1 => k_is)
    (case k1 => k_is)
    (case a2 => k_is)
    (case l2 => k_is)
    (case c2 => k_is)
    (case k2 => k_is)
    (case a3 => k_is)
    (case l3 => k_is)
    (case c3 => k_is)
    (case k3 => k_is)
    (case a4 => k_is)
    (case l4 => k_is)
    (case c4 => k_is)
    (case k4 => k_is)
    (case a5 => k_is)
    (case l5 => k_is)
    (case c5 => k_is)
    (case k5 => k_is)
    (case a6 => k_is)
    (case l6 => k_is)
    (case c6 => k_is)
    (case k6 => k_is)
    (case a7 => k_is)
    (case l7 => k_is)
    (case c7 => k_is)
    (case k7 => k_is)
    (case a8 => k_is)
    (case l8 => k_is)
    (case c8 => k_is)
    (case k8 => k_is)
    (case a9 => k_is)
    (case l9 => k_is)
    (case c9 => k_is)
    (case k9 => k_is)
    (case a10 => k_is)
    (case l10 => k_is)
    (case c10 => k_is)
    (case k10 => k_is)
    (case a11 => k_is)
    (case l11 => k_is)
    (case c11 => k_is)
    (case k11 => k_is)
    (case a12 => k_is)
    (case l12 => k_is)
    (case c12 => k_is)
    (case k12 => k_is)
    (case a13 => k_is)
    (case l13 => k_is)
    (case c13 => k_is)
    (case k13 => k_is)
    (case a14 => k_is)
    (case l14 => k_is)
    (case c14 => k_is)
    (case k14 => k_is)
    (case a15 => k_is)
    (case l15 => k_is)
    (case c15 => k_is)
    (case k15 => k_is)
    (case a16 => k_is)
    (case l16 => k_is)
    (case c16 => k_is)
    (case k16 => k_is)
    (case a17 => k_is)
    (case l17 => k_is)
    (case c17 => k_is)
    (case k17 => k_is)
    (case a18 => k_is)
    (case l18 => k_is)
    (case c18 => k_is)
    (case k18 => k_is)
    (case a19 => k_is)
    (case l19 => k_is)
    (case c19 => k_is)
    (case k19 => k_is)
    (case a20 => k_is)
    (case l20 => k_is)
    (case c20 => k_is)
    (case k20 => k_is)
    (case a21 => k_is)
    (case l21 => k_is)
    (case c21 => k_is)
    (case k21 => k_is)
    (case a22 => k_is)
    (case l22 => k_is)
    (case c22 => k_is)
    (case k22 => k_is)
    (case a23 => k_is)
    (case l23 => k_is)
    (case c23 => k_is)
    (case k23 => k_is)
    (case a24 => k_is)
    (case l24 => k_is)
    (case c24 => k_is)
    (case k24 => k_is)
    (case a25 => k_is)
    (case l25 => k_is)
    (case c25 => k_is)
    (case k25 => k_is)
    (case a26 => k_is)
    (case l26 => k_is)
    (case c26 => k_is)
    (case k26 => k_is)
    (case a27 => k_is)
    (case l27 => k_is)
    (case c27 => k_is)
    (case k27 => k_is)
    (case a28 => k_is)
    (case l28 => k_is)
    (case c28 => k_is)
    (case k28 => k_is)
    (case a29 => k_is)
    (case l29 => k_is)
    (case c29 => k_is)
    (case k29 => k_is)
    (case a30 => k_is)
    (case l30 => k_is)
    (case c30 => k_is)
    (case k30 => k_is)
    (case a31 => k_is)
    (case l31 => k_is)
    (case c31 => k_is)
    (case k31 => k_is)
    (case a32 => k_is)
    (case l32 => k_is)
    (case c32 => k_is)
    (case k32 => k_is)
    (case a33 => k_is)
    (case l33 => k_is)
    (case c33 => k_is)
    (case k33 => k_is)
    (case a34 => k_is)
    (case l34 => k_is)
    (case c34 => k_is)
    (case k34 => k_is)
    (case a35 => k_is)
    (case l35 => k_is)
    (case c35 => k_is)
    (case k35 => k_is)
    (case a36 => k_is)
    (case l36 => k_is)
    (case c36 => k_is)
    (case k36 => k_is)
    (case a37 => k_is)
    (case l37 => k_is)
    (case c37 => k_is)
    (case k37 => k_is)
    (case a38 => k_is)
    (case l38 => k_is)
    (case c38 => k_is)
    (case k38 => k_is)
    (case z_all => k_is)
    (case z_any => k_is)
    (case z_bool => k_is)
    (case z_enumerate => k_is)
    (case z_int => k_is)
    (case z_isinstance => k_is)
    (case z_len => k_is)
    (case z_max => k_is)
    (case z_min => k_is)
    (case z_range => k_is)
    (case z_sorted => k_is)
    (case z_tuple => k_is)
    (case e1 => k_is)
    (case e2 => k_is)
    (case e3 => k_is)
    (case e4 => k_is)
    (case e5 => k_is)
    (case e6 => k_is)
    (case e7 => k_is)
    (case e8 => k_is)
    (case e9 => k_is)
    (case e10 => k_is)
    (case e11 => k_is)
    (case e12 => k_is)
    (case e13 => k_is)
    (case e14 => k_is)
    (case e15 => k_is)
    (case e16 => k_is)
    (case e17 => k_is)
    (case lI => k_is)
    (case cI => k_is)
    (case kI => k_is)
    (case lP => k_is)
    (case cP => k_is)
    (case kP => k_is)
