import PyProof.Rows.All
import Wide.All
import OpenK.AllK
import Wide.FinOn
import HandS.Deep
import HandS.ForMost
import HandS.IsInst
import HandS.SetFor
import HandS.SortInts
import HandS.Style
import HandS.TupAny
import HandS.TupLe
import HandS.TupMul
import HandS.TupSets
import HandS.Wide
import HandS.Zip
import KE.GoesEnum
import PyProof.P3In
import PySem.Challenge.RW_meetperiods_k06_whole_entries_that_must
set_option Elab.async false
set_option linter.all false
set_option maxRecDepth 100000
set_option maxHeartbeats 4000000
namespace DL
open PySem PySem.Spec PyProof.Rows L2
/-- data: none, bools, ints, texts, tuples, lists, bells (by their periods), the script -/
inductive D where
  | non | bl (b : Bool) | int (i : Int) | str (x : Str) | tup (xs : List D) | lst (xs : List D) | bell (ps : List Int) | scr (ns : List Int)
mutual
/-- v stands for d in the frozen heap H -/
def Rp (K : PySem.W.Frag) (C : Addr) (H : Hp) : D → V → Prop
  | .non, v => v = .non
  | .bl b, v => v = .bl b
  | .int i, v => v = .int i
  | .str x, v => v = .str x
  | .tup ds, v => ∃ a xs, v = .ref a ∧ H a = some (.tup xs) ∧ RpL K C H ds xs
  | .lst ds, v => ∃ a xs, v = .ref a ∧ H a = some (.lst xs) ∧ RpL K C H ds xs
  | .bell ps, v => ∃ a dx t, v = .ref a ∧ H a = some (.ins C dx [("row", .ref t)]) ∧ H t = some (.tup (ps.map V.int))
  | .scr ns, v => ∃ a, v = .ref a ∧ SqL K H a (ns.map V.int)
def RpL (K : PySem.W.Frag) (C : Addr) (H : Hp) : List D → List V → Prop
  | [], xs => xs = []
  | d :: ds, xs => ∃ x r, xs = x :: r ∧ Rp K C H d x ∧ RpL K C H ds r
end
section
variable {K : PySem.W.Frag} {C : Addr} {F F' H H' : Hp}
mutual
theorem Rp.mono (s : Same F F') : ∀ (d : D) (v : V), Rp K C F d v → Rp K C F' d v
  | .non, _, h => h
  | .bl _, _, h => h
  | .int _, _, h => h
  | .str _, _, h => h
  | .tup ds, v, h => by
    simp only [Rp] at h ⊢
    obtain ⟨a, xs, e, ha, hl⟩ := h
    exact ⟨a, xs, e, s _ _ ha, RpL.mono s ds xs hl⟩
  | .lst ds, v, h => by
    simp only [Rp] at h ⊢
    obtain ⟨a, xs, e, ha, hl⟩ := h
    exact ⟨a, xs, e, s _ _ ha, RpL.mono s ds xs hl⟩
  | .bell ps, v, h => by
    simp only [Rp] at h ⊢
    obtain ⟨a, dx, t, e, ha, ht⟩ := h
    exact ⟨a, dx, t, e, s _ _ ha, s _ _ ht⟩
  | .scr ns, v, h => by
    simp only [Rp] at h ⊢
    obtain ⟨a, e, ha⟩ := h
    exact ⟨a, e, s.seq ha⟩
theorem RpL.mono (s : Same F F') : ∀ (ds : List D) (vs : List V), RpL K C F ds vs → RpL K C F' ds vs
  | [], _, h => h
  | d :: ds, vs, h => by
    simp only [RpL] at h ⊢
    obtain ⟨x, r, e, h1, h2⟩ := h
    exact ⟨x, r, e, Rp.mono s d x h1, RpL.mono s ds r h2⟩
end
theorem RpL.nil : RpL K C F [] [] := rfl
theorem RpL.cons {d : D} {ds : List D} {x : V} {r : List V} (h1 : Rp K C F d x) (h2 : RpL K C F ds r) : RpL K C F (d :: ds) (x :: r) := ⟨x, r, rfl, h1, h2⟩
theorem RpL.len : ∀ {ds : List D} {vs : List V}, RpL K C F ds vs → ds.length = vs.length
  | [], vs, h => by
    have e : vs = [] := h
    subst e
    rfl
  | d :: ds, vs, h => by
    obtain ⟨x, r, e, _, h2⟩ := h
    subst e
    rw [List.length_cons, List.length_cons, RpL.len h2]
theorem RpL.get : ∀ {ds : List D} {vs : List V} {i : Nat} {d : D}, RpL K C F ds vs → ds[i]? = some d → ∃ v, vs[i]? = some v ∧ Rp K C F d v
  | [], _, i, d, _, e => by simp at e
  | d0 :: ds, vs, i, d, h, e => by
    obtain ⟨x, r, e1, h1, h2⟩ := h
    subst e1
    cases i with
    | zero =>
      simp only [List.getElem?_cons_zero, Option.some.injEq] at e
      subst e
      exact ⟨x, rfl, h1⟩
    | succ i =>
      rw [List.getElem?_cons_succ] at e
      rw [List.getElem?_cons_succ]
      exact RpL.get h2 e
theorem RpL.append : ∀ {ds es : List D} {vs ws : List V}, RpL K C F ds vs → RpL K C F es ws → RpL K C F (ds ++ es) (vs ++ ws)
  | [], es, vs, ws, h, h' => by
    have e : vs = [] := h
    subst e
    exact h'
  | d :: ds, es, vs, ws, h, h' => by
    obtain ⟨x, r, e, h1, h2⟩ := h
    subst e
    exact RpL.cons h1 (RpL.append h2 h')
theorem RpL.one {d : D} {v : V} (h : Rp K C F d v) : RpL K C F [d] [v] := RpL.cons h RpL.nil
theorem RpL.set : ∀ {ds : List D} {vs : List V} (i : Nat) {d : D} {v : V}, RpL K C F ds vs → Rp K C F d v → RpL K C F (ds.set i d) (vs.set i v)
  | [], vs, i, d, v, h, _ => by
    have e : vs = [] := h
    subst e
    exact h
  | d0 :: ds, vs, i, d, v, h, hv => by
    obtain ⟨x, r, e, h1, h2⟩ := h
    subst e
    cases i with
    | zero => exact RpL.cons hv h2
    | succ i => exact RpL.cons h1 (RpL.set i h2 hv)
theorem RpL.drop : ∀ {ds : List D} {vs : List V} (n : Nat), RpL K C F ds vs → RpL K C F (ds.drop n) (vs.drop n)
  | ds, vs, 0, h => h
  | [], vs, n + 1, h => by
    have e : vs = [] := h
    subst e
    exact h
  | d :: ds, vs, n + 1, h => by
    obtain ⟨x, r, e, _, h2⟩ := h
    subst e
    exact RpL.drop n h2
theorem RpL.take : ∀ {ds : List D} {vs : List V} (n : Nat), RpL K C F ds vs → RpL K C F (ds.take n) (vs.take n)
  | _, _, 0, _ => rfl
  | [], vs, n + 1, h => by
    have e : vs = [] := h
    subst e
    exact h
  | d :: ds, vs, n + 1, h => by
    obtain ⟨x, r, e, h1, h2⟩ := h
    subst e
    exact RpL.cons h1 (RpL.take n h2)
theorem RpL.rep {ds : List D} {vs : List V} (h : RpL K C F ds vs) : ∀ k : Nat, RpL K C F (List.replicate k ds).flatten (List.replicate k vs).flatten
  | 0 => rfl
  | k + 1 => by
    rw [List.replicate_succ, List.replicate_succ, List.flatten_cons, List.flatten_cons]
    exact RpL.append h (RpL.rep h k)
theorem RpL.ints : ∀ {ns : List Int} {vs : List V}, RpL K C F (ns.map D.int) vs → vs = ns.map V.int
  | [], vs, h => h
  | n :: ns, vs, h => by
    obtain ⟨x, r, e, h1, h2⟩ := h
    have h1' : x = .int n := h1
    rw [e, h1', RpL.ints h2]
    rfl
/-- one list and one tuple for each -/
theorem Rp.int {i : Int} {v : V} (h : Rp K C F (.int i) v) : v = .int i := h
theorem Rp.bl {b : Bool} {v : V} (h : Rp K C F (.bl b) v) : v = .bl b := h
/-- a step: more is frozen, all that stood stands, what is frozen anew is new -/
structure Stp (F H F' H' : Hp) : Prop where
  ff : Same F F'
  hh : Same H H'
  fh : Same F' H'
  old : ∀ a o, H a = some o → F' a = F a
theorem Stp.refl (fh : Same F H) : Stp F H F H := ⟨Same.refl _, Same.refl _, fh, fun _ _ _ => rfl⟩
theorem Stp.trans {F1 H1 F2 H2 : Hp} (a : Stp F H F1 H1) (b : Stp F1 H1 F2 H2) : Stp F H F2 H2 :=
  ⟨a.ff.trans b.ff, a.hh.trans b.hh, b.fh, fun x o h => (b.old x o (a.hh x o h)).trans (a.old x o h)⟩
theorem same_upd {H : Hp} {p : Addr} {o : HO} (h : H p = none) : Same H (upd H p o) := fun b x e => by
  rw [upd_ne (ne_of_none e h)]
  exact e
theorem none_of_same {F H : Hp} (s : Same F H) {p : Addr} (h : H p = none) : F p = none := s.free h
/-- a new object, frozen -/
theorem Stp.new (fh : Same F H) {p : Addr} {o : HO} (h : H p = none) : Stp F H (upd F p o) (upd H p o) := by
  refine ⟨same_upd (none_of_same fh h), same_upd h, fun b x e => ?_, fun a u e => upd_ne (ne_of_none e h)⟩
  by_cases hb : b = p
  · subst hb
    rw [upd_same] at e ⊢
    exact e
  · rw [upd_ne hb] at e ⊢
    exact fh b x e
/-- a new object that is not frozen -/
theorem Stp.own (fh : Same F H) {p : Addr} {o : HO} (h : H p = none) : Stp F H F (upd H p o) :=
  ⟨Same.refl _, same_upd h, fh.trans (same_upd h), fun _ _ _ => rfl⟩
abbrev Rho := List (Option D)
def lk : Rho → Nat → Option D
  | [], _ => none
  | x :: _, 0 => x
  | _ :: r, n + 1 => lk r n
def st : Rho → Nat → D → Rho
  | [], _, _ => []
  | _ :: r, 0, d => some d :: r
  | x :: r, n + 1, d => x :: st r n d
def un : Rho → Nat → Rho
  | [], _ => []
  | _ :: r, 0 => none :: r
  | x :: r, n + 1 => x :: un r n
def wipeR (ρ : Rho) : List Nat → Rho
  | [] => ρ
  | v :: vs => un (wipeR ρ vs) v
theorem st_len : ∀ (ρ : Rho) (i : Nat) (d : D), (st ρ i d).length = ρ.length
  | [], _, _ => rfl
  | _ :: _, 0, _ => rfl
  | x :: r, n + 1, d => by
    show (st r n d).length + 1 = r.length + 1
    rw [st_len r n d]
theorem un_len : ∀ (ρ : Rho) (i : Nat), (un ρ i).length = ρ.length
  | [], _ => rfl
  | _ :: _, 0 => rfl
  | x :: r, n + 1 => by
    show (un r n).length + 1 = r.length + 1
    rw [un_len r n]
theorem lk_lt : ∀ {ρ : Rho} {i : Nat} {d : D}, lk ρ i = some d → i < ρ.length
  | [], _, _, h => by simp [lk] at h
  | _ :: _, 0, _, _ => by simp
  | x :: r, n + 1, d, h => by
    have := lk_lt (ρ := r) (i := n) (d := d) h
    simpa using this
theorem lk_st_same : ∀ {ρ : Rho} {i : Nat} {d e : D}, lk (st ρ i d) i = some e → e = d
  | [], _, _, _, h => by simp [st, lk] at h
  | _ :: _, 0, d, e, h => by
    have h' : some d = some e := h
    exact (Option.some.inj h').symm
  | x :: r, n + 1, d, e, h => lk_st_same (ρ := r) (i := n) h
theorem lk_st_ne : ∀ {ρ : Rho} {i j : Nat} {d : D}, j ≠ i → lk (st ρ i d) j = lk ρ j
  | [], _, _, _, _ => rfl
  | _ :: _, 0, 0, _, h => absurd rfl h
  | _ :: _, 0, j + 1, _, _ => rfl
  | x :: r, n + 1, 0, d, _ => rfl
  | x :: r, n + 1, j + 1, d, h => lk_st_ne (ρ := r) (i := n) (j := j) fun e => h (by rw [e])
theorem lk_un_same : ∀ {ρ : Rho} {i : Nat}, lk (un ρ i) i = none
  | [], _ => rfl
  | _ :: _, 0 => rfl
  | x :: r, n + 1 => lk_un_same (ρ := r) (i := n)
theorem lk_un_ne : ∀ {ρ : Rho} {i j : Nat}, j ≠ i → lk (un ρ i) j = lk ρ j
  | [], _, _, _ => rfl
  | _ :: _, 0, 0, h => absurd rfl h
  | _ :: _, 0, j + 1, _ => rfl
  | x :: r, n + 1, 0, _ => rfl
  | x :: r, n + 1, j + 1, h => lk_un_ne (ρ := r) (i := n) (j := j) fun e => h (by rw [e])
/-- the slots σ hold ρ: frozen data, but at the places O lists of one's own -/
structure En (K : PySem.W.Frag) (C : Addr) (O : List Nat) (F H : Hp) (σ : L2.St) (ρ : Rho) : Prop where
  fh : Same F H
  len : σ.length = ρ.length
  pl : ∀ i d, i ∉ O → lk ρ i = some d → ∃ v, σ[i]? = some (some v) ∧ Rp K C F d v
  ow : ∀ i d, i ∈ O → lk ρ i = some d → ∃ p vs ds, σ[i]? = some (some (.ref p)) ∧ d = .lst ds ∧ H p = some (.lst vs) ∧ F p = none ∧ RpL K C F ds vs
  ap : ∀ i j d e p, i ∈ O → j ∈ O → lk ρ i = some d → lk ρ j = some e → σ[i]? = some (some (.ref p)) → σ[j]? = some (some (.ref p)) → i = j
variable {O : List Nat} {σ : L2.St} {ρ : Rho}
theorem En.step (h : En K C O F H σ ρ) (s : Stp F H F' H') : En K C O F' H' σ ρ where
  fh := s.fh
  len := h.len
  pl := fun i d hi e => by
    obtain ⟨v, h1, h2⟩ := h.pl i d hi e
    exact ⟨v, h1, Rp.mono s.ff d v h2⟩
  ow := fun i d hi e => by
    obtain ⟨p, vs, ds, h1, h2, h3, h4, h5⟩ := h.ow i d hi e
    exact ⟨p, vs, ds, h1, h2, s.hh _ _ h3, (s.old _ _ h3).trans h4, RpL.mono s.ff ds vs h5⟩
  ap := h.ap
theorem En.set {i : Nat} {d : D} {v : V} (h : En K C O F H σ ρ) (hi : i ∉ O) (hv : Rp K C F d v) : En K C O F H (σ.set i (some v)) (st ρ i d) where
  fh := h.fh
  len := by rw [List.length_set, st_len]; exact h.len
  pl := fun j e hj q => by
    by_cases hji : j = i
    · subst hji
      have e1 := lk_st_same q
      subst e1
      have hl := lk_lt q
      rw [st_len, ← h.len] at hl
      exact ⟨v, List.getElem?_set_self hl, hv⟩
    · rw [lk_st_ne hji] at q
      rw [List.getElem?_set_ne (Ne.symm hji)]
      exact h.pl j e hj q
  ow := fun j e hj q => by
    have hji : j ≠ i := fun z => hi (z ▸ hj)
    rw [lk_st_ne hji] at q
    rw [List.getElem?_set_ne (Ne.symm hji)]
    exact h.ow j e hj q
  ap := fun j k e e' p hj hk q1 q2 q3 q4 => by
    have hji : j ≠ i := fun z => hi (z ▸ hj)
    have hki : k ≠ i := fun z => hi (z ▸ hk)
    rw [lk_st_ne hji] at q1
    rw [lk_st_ne hki] at q2
    rw [List.getElem?_set_ne (Ne.symm hji)] at q3
    rw [List.getElem?_set_ne (Ne.symm hki)] at q4
    exact h.ap j k e e' p hj hk q1 q2 q3 q4
theorem En.unset {i : Nat} (h : En K C O F H σ ρ) : En K C O F H (σ.set i none) (un ρ i) where
  fh := h.fh
  len := by rw [List.length_set, un_len]; exact h.len
  pl := fun j e hj q => by
    by_cases hji : j = i
    · subst hji
      rw [lk_un_same] at q
      cases q
    · rw [lk_un_ne hji] at q
      rw [List.getElem?_set_ne (Ne.symm hji)]
      exact h.pl j e hj q
  ow := fun j e hj q => by
    have hji : j ≠ i := fun z => by
      subst z
      rw [lk_un_same] at q
      cases q
    rw [lk_un_ne hji] at q
    rw [List.getElem?_set_ne (Ne.symm hji)]
    exact h.ow j e hj q
  ap := fun j k e e' p hj hk q1 q2 q3 q4 => by
    have hji : j ≠ i := fun z => by
      subst z
      rw [lk_un_same] at q1
      cases q1
    have hki : k ≠ i := fun z => by
      subst z
      rw [lk_un_same] at q2
      cases q2
    rw [lk_un_ne hji] at q1
    rw [lk_un_ne hki] at q2
    rw [List.getElem?_set_ne (Ne.symm hji)] at q3
    rw [List.getElem?_set_ne (Ne.symm hki)] at q4
    exact h.ap j k e e' p hj hk q1 q2 q3 q4
theorem En.wipe (h : En K C O F H σ ρ) : ∀ vs : List Nat, En K C O F H (wipe σ vs) (wipeR ρ vs)
  | [] => h
  | v :: vs => by
    unfold L2.wipe wipeR
    exact (En.wipe h vs).unset
/-- a new list of one's own at the place i -/
theorem En.own {i : Nat} {p : Addr} {ds : List D} {vs : List V} (h : En K C O F H σ ρ) (hi : i ∉ O) (hH : H p = none) (hl : RpL K C F ds vs) :
    En K C (i :: O) F (upd H p (.lst vs)) (σ.set i (some (.ref p))) (st ρ i (.lst ds)) where
  fh := h.fh.trans (same_upd hH)
  len := by rw [List.length_set, st_len]; exact h.len
  pl := fun j e hj q => by
    have hji : j ≠ i := fun z => hj (by rw [z]; exact List.mem_cons_self)
    rw [lk_st_ne hji] at q
    rw [List.getElem?_set_ne (Ne.symm hji)]
    exact h.pl j e (fun z => hj (List.mem_cons_of_mem _ z)) q
  ow := fun j e hj q => by
    by_cases hji : j = i
    · subst hji
      have e1 := lk_st_same q
      subst e1
      have hl' := lk_lt q
      rw [st_len, ← h.len] at hl'
      exact ⟨p, vs, ds, List.getElem?_set_self hl', rfl, upd_same, h.fh.free hH, hl⟩
    · rw [lk_st_ne hji] at q
      rw [List.getElem?_set_ne (Ne.symm hji)]
      have hjO : j ∈ O := (List.mem_cons.mp hj).elim (fun z => absurd z hji) id
      obtain ⟨p', vs', ds', h1, h2, h3, h4, h5⟩ := h.ow j e hjO q
      exact ⟨p', vs', ds', h1, h2, by rw [upd_ne (ne_of_none h3 hH)]; exact h3, h4, h5⟩
  ap := fun j k e e' p' hj hk q1 q2 q3 q4 => by
    by_cases hji : j = i
    · by_cases hki : k = i
      · rw [hji, hki]
      · exfalso
        subst hji
        rw [lk_st_ne hki] at q2
        rw [List.getElem?_set_ne (Ne.symm hki)] at q4
        have hl' := lk_lt q1
        rw [st_len, ← h.len] at hl'
        rw [List.getElem?_set_self hl'] at q3
        cases q3
        have hkO : k ∈ O := (List.mem_cons.mp hk).elim (fun z => absurd z hki) id
        obtain ⟨p2, _, _, h1, _, h3, _, _⟩ := h.ow k e' hkO q2
        rw [h1] at q4
        cases q4
        rw [hH] at h3
        cases h3
    · by_cases hki : k = i
      · exfalso
        subst hki
        rw [lk_st_ne hji] at q1
        rw [List.getElem?_set_ne (Ne.symm hji)] at q3
        have hl' := lk_lt q2
        rw [st_len, ← h.len] at hl'
        rw [List.getElem?_set_self hl'] at q4
        cases q4
        have hjO : j ∈ O := (List.mem_cons.mp hj).elim (fun z => absurd z hji) id
        obtain ⟨p2, _, _, h1, _, h3, _, _⟩ := h.ow j e hjO q1
        rw [h1] at q3
        cases q3
        rw [hH] at h3
        cases h3
      · rw [lk_st_ne hji] at q1
        rw [lk_st_ne hki] at q2
        rw [List.getElem?_set_ne (Ne.symm hji)] at q3
        rw [List.getElem?_set_ne (Ne.symm hki)] at q4
        exact h.ap j k e e' p' ((List.mem_cons.mp hj).elim (fun z => absurd z hji) id) ((List.mem_cons.mp hk).elim (fun z => absurd z hki) id) q1 q2 q3 q4
/-- the list of one's own at i is changed -/
theorem En.mut {i : Nat} {p : Addr} {ds ds' : List D} {vs vs' : List V} (h : En K C O F H σ ρ) (hi : i ∈ O) (he : lk ρ i = some (.lst ds)) (hp : σ[i]? = some (some (.ref p))) (hH : H p = some (.lst vs)) (hF : F p = none) (hl : RpL K C F ds' vs') :
    En K C O F (upd H p (.lst vs')) σ (st ρ i (.lst ds')) where
  fh := fun b x e => by
    rw [upd_ne (ne_of_none e hF)]
    exact h.fh b x e
  len := by rw [st_len]; exact h.len
  pl := fun j e hj q => by
    have hji : j ≠ i := fun z => hj (z ▸ hi)
    rw [lk_st_ne hji] at q
    exact h.pl j e hj q
  ow := fun j e hj q => by
    by_cases hji : j = i
    · subst hji
      have e1 := lk_st_same q
      subst e1
      exact ⟨p, vs', ds', hp, rfl, upd_same, hF, hl⟩
    · rw [lk_st_ne hji] at q
      obtain ⟨p', vs2, ds2, h1, h2, h3, h4, h5⟩ := h.ow j e hj q
      have hne : p' ≠ p := fun z => by
        subst z
        exact hji (h.ap j i e _ _ hj hi q he h1 hp)
      exact ⟨p', vs2, ds2, h1, h2, by rw [upd_ne hne]; exact h3, h4, h5⟩
  ap := fun j k e e' p' hj hk q1 q2 q3 q4 => by
    have fx : ∀ {m : Nat} {x : D}, lk (st ρ i (.lst ds')) m = some x → ∃ y, lk ρ m = some y := fun {m x} q => by
      by_cases hm : m = i
      · exact ⟨_, hm ▸ he⟩
      · rw [lk_st_ne hm] at q
        exact ⟨_, q⟩
    obtain ⟨y1, z1⟩ := fx q1
    obtain ⟨y2, z2⟩ := fx q2
    exact h.ap j k y1 y2 p' hj hk z1 z2 q3 q4
/-- the list of one's own at i is frozen -/
theorem En.freeze {i : Nat} {O' : List Nat} (h : En K C O F H σ ρ) (hO : ∀ j, j ∈ O' ↔ j ∈ O ∧ j ≠ i) : ∃ F', Same F F' ∧ En K C O' F' H σ ρ ∧ (∀ a, F' a ≠ F a → i ∈ O ∧ ∃ d, lk ρ i = some d ∧ σ[i]? = some (some (.ref a))) := by
  by_cases hi : i ∈ O
  · cases e : lk ρ i with
    | none =>
      refine ⟨F, Same.refl _, ⟨h.fh, h.len, fun j d hj q => ?_, fun j d hj q => h.ow j d ((hO j).mp hj).1 q, fun j k d e p hj hk => h.ap j k d e p ((hO j).mp hj).1 ((hO k).mp hk).1⟩, fun a z => absurd rfl z⟩
      by_cases hji : j = i
      · subst hji
        rw [e] at q
        cases q
      · exact h.pl j d (fun z => hj ((hO j).mpr ⟨z, hji⟩)) q
    | some d =>
      obtain ⟨p, vs, ds, h1, rfl, h3, h4, h5⟩ := h.ow i d hi e
      have sm : Same F (upd F p (.lst vs)) := same_upd h4
      refine ⟨upd F p (.lst vs), sm, ⟨fun b x q => ?_, h.len, fun j d' hj q => ?_, fun j d' hj q => ?_, fun j k d e p hj hk => h.ap j k d e p ((hO j).mp hj).1 ((hO k).mp hk).1⟩, fun a z => ?_⟩
      · by_cases hb : b = p
        · subst hb
          rw [upd_same] at q
          rw [← q]
          exact h3
        · rw [upd_ne hb] at q
          exact h.fh b x q
      · by_cases hji : j = i
        · subst hji
          rw [e] at q
          cases q
          exact ⟨.ref p, h1, p, vs, rfl, upd_same, RpL.mono sm ds vs h5⟩
        · obtain ⟨v, q1, q2⟩ := h.pl j d' (fun z => hj ((hO j).mpr ⟨z, hji⟩)) q
          exact ⟨v, q1, Rp.mono sm d' v q2⟩
      · obtain ⟨hjO, hji⟩ := (hO j).mp hj
        obtain ⟨p', vs', ds', g1, g2, g3, g4, g5⟩ := h.ow j d' hjO q
        have hne : p' ≠ p := fun z => by
          subst z
          exact hji (h.ap j i _ _ _ hjO hi q e g1 h1)
        exact ⟨p', vs', ds', g1, g2, g3, by rw [upd_ne hne]; exact g4, RpL.mono sm ds' vs' g5⟩
      · by_cases ha : a = p
        · subst ha
          exact ⟨hi, _, rfl, h1⟩
        · rw [upd_ne ha] at z
          exact absurd rfl z
  · refine ⟨F, Same.refl _, ⟨h.fh, h.len, fun j d hj q => h.pl j d (fun z => hj ((hO j).mpr ⟨z, fun w => hi (w ▸ z)⟩)) q, fun j d hj q => h.ow j d ((hO j).mp hj).1 q, fun j k d e p hj hk => h.ap j k d e p ((hO j).mp hj).1 ((hO k).mp hk).1⟩, fun a z => absurd rfl z⟩
end
end DL
namespace DL
open PySem PySem.Spec PyProof.Rows L2
abbrev DF := Rho → Option D
abbrev DFs := Rho → Option (List D)
abbrev DB := Rho → Option Bool
/-- what a computed value leaves -/
def Got (K : PySem.W.Frag) (C : Addr) (F H : Hp) (d : D) (Q : VK) : Prop := ∀ v F' H', Stp F H F' H' → Rp K C F' d v → Q v H'
theorem Got.step {K : PySem.W.Frag} {C : Addr} {F H F' H' : Hp} {d : D} {Q : VK} (h : Got K C F H d Q) (s : Stp F H F' H') : Got K C F' H' d Q := fun v F2 H2 s2 r => h v F2 H2 (s.trans s2) r
def tD (K : PySem.W.Frag) (C : Addr) (O : List Nat) (f : DF) : TE := fun σ H Q => ∃ F ρ d, En K C O F H σ ρ ∧ f ρ = some d ∧ Got K C F H d Q
def tDA (K : PySem.W.Frag) (C : Addr) (O : List Nat) (f : DFs) : TA := fun σ H Q => ∃ F ρ ds, En K C O F H σ ρ ∧ f ρ = some ds ∧ ∀ vs F' H', Stp F H F' H' → RpL K C F' ds vs → Q vs H'
def tDT (K : PySem.W.Frag) (C : Addr) (O : List Nat) (g : DB) : TT := fun σ H Q => ∃ F ρ b, En K C O F H σ ρ ∧ g ρ = some b ∧ ∀ F' H', Stp F H F' H' → Q b H'
def rD2 (K : PySem.W.Frag) (C : Addr) (op : D → D → Option D) : R2 := fun x y H Q => ∃ F d e c, Same F H ∧ Rp K C F d x ∧ Rp K C F e y ∧ op d e = some c ∧ Got K C F H c Q
def rDL (K : PySem.W.Frag) (C : Addr) (op : List D → Option D) : List V → Hp → VK → Prop := fun xs H Q => ∃ F ds c, Same F H ∧ RpL K C F ds xs ∧ op ds = some c ∧ Got K C F H c Q
abbrev DE (X : Cx) (C : Addr) (O : List Nat) (e : Expr) (f : DF) : Prop := PE X e (tD X.K C O f)
abbrev DT (X : Cx) (C : Addr) (O : List Nat) (e : Expr) (g : DB) : Prop := PT X e (tDT X.K C O g)
abbrev DWt (X : Cx) (C : Addr) (O : List Nat) (e : Expr) (g : DB) : Prop := PW X e (tDT X.K C O g)
abbrev DA (X : Cx) (C : Addr) (O : List Nat) (es : List Expr) (f : DFs) : Prop := PA X es (tDA X.K C O f)
abbrev OpD (X : Cx) (C : Addr) (f : Value → Value → Sem Value) (op : D → D → Option D) : Prop := OpR X f (rD2 X.K C op)
abbrev CallD (X : Cx) (C : Addr) (f : Value) (op : List D → Option D) : Prop := CallR X f (rDL X.K C op)
abbrev IxD (X : Cx) (C : Addr) (op : D → D → Option D) : Prop := IxR X (rD2 X.K C op)
section
variable {X : Cx}
theorem PEw {e : Expr} {t t' : TE} (h : PE X e t) (w : ∀ σ H Q, t' σ H Q → t σ H Q) : PE X e t' := ⟨fun pins s σ H Q I q => h.run pins s σ H Q I (w σ H Q q)⟩
theorem PTw {e : Expr} {t t' : TT} (h : PT X e t) (w : ∀ σ H Q, t' σ H Q → t σ H Q) : PT X e t' := ⟨fun pins s σ H Q I q => h.run pins s σ H Q I (w σ H Q q)⟩
theorem PWw {e : Expr} {t t' : TT} (h : PW X e t) (w : ∀ σ H Q, t' σ H Q → t σ H Q) : PW X e t' := ⟨fun wh pins s σ H Q I q => h.run wh pins s σ H Q I (w σ H Q q)⟩
theorem PAw {es : List Expr} {t t' : TA} (h : PA X es t) (w : ∀ σ H Q, t' σ H Q → t σ H Q) : PA X es t' := ⟨fun pos pins s σ H Q I q => h.run pos pins s σ H Q I (w σ H Q q)⟩
theorem PSw {e : Stmt} {t t' : TS} (h : PS X e t) (w : ∀ D σ H, t' D σ H → t D σ H) : PS X e t' := ⟨fun pins s σ H D I q => h.run pins s σ H D I (w D σ H q)⟩
theorem PSsw {e : List Stmt} {t t' : TS} (h : PSs X e t) (w : ∀ D σ H, t' D σ H → t D σ H) : PSs X e t' := ⟨fun pins s σ H D I q => h.run pins s σ H D I (w D σ H q)⟩
theorem OpRw {f : Value → Value → Sem Value} {r r' : R2} (h : OpR X f r) (w : ∀ x y H Q, r' x y H Q → r x y H Q) : OpR X f r' := fun pins s σ H x y v u Q I rx ry q => h pins s σ H x y v u Q I rx ry (w x y H Q q)
theorem CallRw {f : Value} {r r' : List V → Hp → VK → Prop} (h : CallR X f r) (w : ∀ xs H Q, r' xs H Q → r xs H Q) : CallR X f r' := fun pins s σ H xs us Q I r q => h pins s σ H xs us Q I r (w xs H Q q)
end
def dv (i : Nat) : DF := fun ρ => lk ρ i
def dc (d : D) : DF := fun _ => some d
def d2 (op : D → D → Option D) (f g : DF) : DF := fun ρ => (f ρ).bind fun x => (g ρ).bind fun y => op x y
def d1 (op : D → Option D) (f : DF) : DF := fun ρ => (f ρ).bind op
def dnil : DFs := fun _ => some []
def dcons (f : DF) (g : DFs) : DFs := fun ρ => (f ρ).bind fun x => (g ρ).bind fun xs => some (x :: xs)
def dL (op : List D → Option D) (f : DFs) : DF := fun ρ => (f ρ).bind op
def asB : D → Option Bool
  | .bl b => some b
  | _ => none
theorem asB_some {d : D} {b : Bool} (h : asB d = some b) : d = .bl b := by
  cases d <;> first | (cases h; rfl) | cases h
def bV (f : DF) : DB := fun ρ => (f ρ).bind asB
def dB (g : DB) : DF := fun ρ => (g ρ).bind fun b => some (.bl b)
def bAnd (g h : DB) : DB := fun ρ => (g ρ).bind fun b => if b = true then h ρ else some false
def bOr (g h : DB) : DB := fun ρ => (g ρ).bind fun b => if b = true then some true else h ρ
def bNot (g : DB) : DB := fun ρ => (g ρ).bind fun b => some (!b)
def dIf (g : DB) (f h : DF) : DF := fun ρ => (g ρ).bind fun b => if b = true then f ρ else h ρ
def opTup (ds : List D) : Option D := if ds.length ≤ 100000 then some (.tup ds) else none
def opLst (ds : List D) : Option D := if ds.length ≤ 100000 then some (.lst ds) else none
section
variable {X : Cx} {C : Addr} {O : List Nat} {a b c e : Expr} {es : List Expr} {f g h : DF} {fs : DFs} {p q r : DB} {pos : Pos}
theorem sz100 {n : Nat} (h : n ≤ 100000) : n ≤ sizeLine := Nat.le_trans h (by decide)
theorem de_var (i : Nat) {x : Str} (hN : X.N[i]? = some x := by rfl) (hv : Vis X.env.scope x := by first | exact Or.inl rfl | exact Or.inr (Or.inl rfl) | exact Or.inr (Or.inr rfl)) (hi : i ∉ O := by decide)
    (hd : (x == ("__debug__" : Str)) = false := by decide) (hcd : (x == ("__classdict__" : Str)) = false := by decide) : DE X C O (.Name x pos) (dv i) :=
  PEw (pe_var hN hv hd hcd) fun σ H Q ⟨F, ρ, d, E, hf, k⟩ => by
    obtain ⟨v, h1, h2⟩ := E.pl i d hi hf
    exact ⟨v, h1, k v F H (Stp.refl E.fh) h2⟩
theorem de_int {i : Int} {j : Nat} : DE X C O (.Constant (.int i) j pos) (dc (.int i)) := PEw pe_int fun σ H Q ⟨F, ρ, d, E, hf, k⟩ => by
  cases hf
  exact k (.int i) F H (Stp.refl E.fh) rfl
theorem de_bl {i : Bool} {j : Nat} : DE X C O (.Constant (.bool i) j pos) (dc (.bl i)) := PEw pe_bl fun σ H Q ⟨F, ρ, d, E, hf, k⟩ => by
  cases hf
  exact k (.bl i) F H (Stp.refl E.fh) rfl
theorem de_non {j : Nat} : DE X C O (.Constant .none j pos) (dc .non) := PEw pe_non fun σ H Q ⟨F, ρ, d, E, hf, k⟩ => by
  cases hf
  exact k .non F H (Stp.refl E.fh) rfl
theorem bind_some {α β : Type} {o : Option α} {k : α → Option β} {y : β} (h : o.bind k = some y) : ∃ x, o = some x ∧ k x = some y := by
  cases o with
  | none => cases h
  | some x => exact ⟨x, rfl, h⟩
/-- two in a row -/
theorem two {K : PySem.W.Frag} {op : D → D → Option D} {σ : L2.St} {H : Hp} {Q : VK} (hw : tD K C O (d2 op f g) σ H Q) : tOp (rD2 K C op) (tD K C O f) (tD K C O g) σ H Q := by
  obtain ⟨F, ρ, d, E, hf, k⟩ := hw
  obtain ⟨x, h1, hf⟩ := bind_some hf
  obtain ⟨y, h2, hf⟩ := bind_some hf
  refine ⟨F, ρ, x, E, h1, fun v F1 H1 s1 r1 => ⟨F1, ρ, y, E.step s1, h2, fun u F2 H2 s2 r2 => ?_⟩⟩
  exact ⟨F2, x, y, d, s2.fh, Rp.mono s2.ff x v r1, r2, hf, k.step (s1.trans s2)⟩
theorem de_op {op : Operator} {o : D → D → Option D} (ho : OpD X C (binaryOp op) o) (ha : DE X C O a f) (hb : DE X C O b g) : DE X C O (.BinOp a op b pos) (d2 o f g) := PEw (pe_op ho ha hb) fun _ _ _ hw => two hw
theorem de_cmp {op : CmpOp} {o : D → D → Option D} (ho : OpD X C (compareOp op) o) (ha : DE X C O a f) (hb : DE X C O b g) (hm : behindInMarks op b = false := by first | exact nomark _ | rfl | with_unfolding_all rfl) : DE X C O (.Compare a [op] [b] pos) (d2 o f g) :=
  PEw (pe_cmpR ho ha hb hm) fun _ _ _ hw => two hw
theorem dt_cmp {op : CmpOp} {o : D → D → Option D} (ho : OpD X C (compareOp op) o) (ha : DE X C O a f) (hb : DE X C O b g) (hm : behindInMarks op b = false := by first | exact nomark _ | rfl | with_unfolding_all rfl) : DT X C O (.Compare a [op] [b] pos) (bV (d2 o f g)) :=
  PTw (pt_cmpR ho ha hb hm) fun σ H Q ⟨F, ρ, t, E, hf, k⟩ => by
    obtain ⟨d, h1, h2⟩ := bind_some hf
    refine two ⟨F, ρ, d, E, h1, fun v F' H' s' r' => ?_⟩
    obtain rfl := asB_some h2
    exact ⟨t, r', k F' H' s'⟩
def dCh (o o' : D → D → Option D) (f g h : DF) : DF := fun ρ => (f ρ).bind fun x => (g ρ).bind fun y => (o x y).bind fun z => (asB z).bind fun k => if k = true then (h ρ).bind fun w => o' y w else some (.bl false)
theorem dt_val (ha : DE X C O a f) (he : ∀ whole, isTrue a X.env whole = (do let v ← whole; standAt a.pos; holding [v] (truthy v)) := by intro _; rfl) : DT X C O a (bV f) :=
  PTw (pt_val ha he) fun σ H Q ⟨F, ρ, t, E, hf, k⟩ => by
    obtain ⟨d, h1, h2⟩ := bind_some hf
    refine ⟨F, ρ, d, E, h1, fun v F' H' s' r' => ?_⟩
    obtain rfl := asB_some h2
    exact ⟨t, r', k F' H' s'⟩
theorem and_rd {K : PySem.W.Frag} {σ : L2.St} {H : Hp} {Q : Bool → Hp → Prop} (hw : tDT K C O (bAnd p q) σ H Q) : tAnd (tDT K C O p) (tDT K C O q) σ H Q := by
  obtain ⟨F, ρ, t, E, hf, k⟩ := hw
  obtain ⟨d, h1, hf⟩ := bind_some hf
  refine ⟨F, ρ, d, E, h1, fun F1 H1 s1 => ?_⟩
  cases d with
  | true =>
    rw [if_pos rfl] at hf ⊢
    exact ⟨F1, ρ, t, E.step s1, hf, fun F2 H2 s2 => k F2 H2 (s1.trans s2)⟩
  | false =>
    rw [if_neg Bool.false_ne_true] at hf ⊢
    cases hf
    exact k F1 H1 s1
theorem or_rd {K : PySem.W.Frag} {σ : L2.St} {H : Hp} {Q : Bool → Hp → Prop} (hw : tDT K C O (bOr p q) σ H Q) : tOr (tDT K C O p) (tDT K C O q) σ H Q := by
  obtain ⟨F, ρ, t, E, hf, k⟩ := hw
  obtain ⟨d, h1, hf⟩ := bind_some hf
  refine ⟨F, ρ, d, E, h1, fun F1 H1 s1 => ?_⟩
  cases d with
  | false =>
    rw [if_neg Bool.false_ne_true] at hf ⊢
    exact ⟨F1, ρ, t, E.step s1, hf, fun F2 H2 s2 => k F2 H2 (s1.trans s2)⟩
  | true =>
    rw [if_pos rfl] at hf ⊢
    cases hf
    exact k F1 H1 s1
variable {rest : List Expr}
theorem dw_and1 (ha : DT X C O a p) : DWt X C O (.BoolOp .And [a] pos) p := pw_and1 ha
theorem dw_or1 (ha : DT X C O a p) : DWt X C O (.BoolOp .Or [a] pos) p := pw_or1 ha
theorem dw_and (ha : DT X C O a p) (hb : DWt X C O (.BoolOp .And (b :: rest) pos) q) : DWt X C O (.BoolOp .And (a :: b :: rest) pos) (bAnd p q) := PWw (pw_and ha hb) fun _ _ _ hw => and_rd hw
theorem dw_or (ha : DT X C O a p) (hb : DWt X C O (.BoolOp .Or (b :: rest) pos) q) : DWt X C O (.BoolOp .Or (a :: b :: rest) pos) (bOr p q) := PWw (pw_or ha hb) fun _ _ _ hw => or_rd hw
theorem dt_w (h : DWt X C O e p) : DT X C O e p := h.pt
/-- and, or, not as values (of bools) -/
theorem de_one {op : BoolOp} (ha : DE X C O a f) : DE X C O (.BoolOp op [a] pos) f := pe_one ha
def dAnd (f g : DF) : DF := fun ρ => (f ρ).bind fun x => (asB x).bind fun b => if b = true then g ρ else some (.bl false)
def dOr (f g : DF) : DF := fun ρ => (f ρ).bind fun x => (asB x).bind fun b => if b = true then some (.bl true) else g ρ
def dNot (f : DF) : DF := fun ρ => (f ρ).bind fun x => (asB x).bind fun b => some (.bl (!b))
theorem de_and (ha : DE X C O a f) (hb : DE X C O (.BoolOp .And (b :: rest) pos) g) : DE X C O (.BoolOp .And (a :: b :: rest) pos) (dAnd f g) := PEw (pe_and ha hb) fun σ H Q ⟨F, ρ, t, E, hf, k⟩ => by
  obtain ⟨x, h1, hf1⟩ := bind_some hf
  obtain ⟨d, h2, hf2⟩ := bind_some hf1
  obtain rfl := asB_some h2
  clear hf hf1
  have hf := hf2
  clear hf2
  refine ⟨F, ρ, _, E, h1, fun v F1 H1 s1 r1 => ⟨d, r1, ?_⟩⟩
  cases d with
  | true =>
    rw [if_pos rfl] at hf ⊢
    exact ⟨F1, ρ, t, E.step s1, hf, k.step s1⟩
  | false =>
    rw [if_neg Bool.false_ne_true] at hf ⊢
    cases hf
    exact k _ F1 H1 s1 rfl
theorem de_if (ht : DT X C O c p) (ha : DE X C O a f) (hb : DE X C O b g) : DE X C O (.IfExp c a b pos) (dIf p f g) := PEw (pe_ifExp ht ha hb) fun σ H Q ⟨F, ρ, t, E, hf, k⟩ => by
  obtain ⟨d, h1, hf⟩ := bind_some hf
  refine ⟨F, ρ, d, E, h1, fun F1 H1 s1 => ?_⟩
  cases d with
  | true =>
    rw [if_pos rfl] at hf ⊢
    exact ⟨F1, ρ, t, E.step s1, hf, k.step s1⟩
  | false =>
    rw [if_neg Bool.false_ne_true] at hf ⊢
    exact ⟨F1, ρ, t, E.step s1, hf, k.step s1⟩
theorem da_nil : DA X C O [] dnil := PAw pa_nil fun σ H Q ⟨F, ρ, t, E, hf, k⟩ => by
  cases hf
  exact k [] F H (Stp.refl E.fh) RpL.nil
theorem da_cons (ha : DE X C O a f) (hr : DA X C O es fs) (hs : starEach (a :: es) X.env = (false, eval a X.env) :: starEach es X.env := by rfl) : DA X C O (a :: es) (dcons f fs) := PAw (pa_cons ha hr hs) fun σ H Q ⟨F, ρ, t, E, hf, k⟩ => by
  obtain ⟨x, h1, hf⟩ := bind_some hf
  obtain ⟨xs, h2, hf⟩ := bind_some hf
  cases hf
  exact ⟨F, ρ, x, E, h1, fun v F1 H1 s1 r1 => ⟨F1, ρ, xs, E.step s1, h2, fun vs F2 H2 s2 r2 => k _ F2 H2 (s1.trans s2) (RpL.cons (Rp.mono s2.ff x v r1) r2)⟩⟩
theorem de_tup {j : Nat} (ha : DA X C O es fs) : DE X C O (.Tuple es j pos) (dL opTup fs) := PEw (pe_tup ha) fun σ H Q ⟨F, ρ, t, E, hf, k⟩ => by
  obtain ⟨ds, h1, hf⟩ := bind_some hf
  unfold opTup at hf
  split at hf
  · rename_i hz
    cases hf
    refine ⟨F, ρ, ds, E, h1, fun vs F1 H1 s1 r1 => ⟨by rw [← r1.len]; exact sz100 hz, fun p hp => ?_⟩⟩
    have s2 := Stp.new (o := .tup vs) s1.fh hp
    exact k _ _ _ (s1.trans s2) ⟨p, vs, rfl, upd_same, RpL.mono s2.ff _ _ r1⟩
  · cases hf
theorem de_lst (ha : DA X C O es fs) : DE X C O (.List es pos) (dL opLst fs) := PEw (pe_lst ha) fun σ H Q ⟨F, ρ, t, E, hf, k⟩ => by
  obtain ⟨ds, h1, hf⟩ := bind_some hf
  unfold opLst at hf
  split at hf
  · rename_i hz
    cases hf
    refine ⟨F, ρ, ds, E, h1, fun vs F1 H1 s1 r1 => ⟨by rw [← r1.len]; exact sz100 hz, fun p hp => ?_⟩⟩
    have s2 := Stp.new (o := .lst vs) s1.fh hp
    exact k _ _ _ (s1.trans s2) ⟨p, vs, rfl, upd_same, RpL.mono s2.ff _ _ r1⟩
  · cases hf
theorem rdl_rd {K : PySem.W.Frag} {o : List D → Option D} {σ : L2.St} {H : Hp} {Q : VK} (hw : tD K C O (dL o fs) σ H Q) : tCB (rDL K C o) (tDA K C O fs) σ H Q := by
  obtain ⟨F, ρ, t, E, hf, k⟩ := hw
  obtain ⟨ds, h1, hf⟩ := bind_some hf
  exact ⟨F, ρ, ds, E, h1, fun vs F1 H1 s1 r1 => ⟨F1, ds, t, s1.fh, r1, hf, k.step s1⟩⟩
theorem de_callB {x : Str} {id : String} {p : Pos} {o : List D → Option D} (hc : CallD X C (.builtin id) o) (hg : Gl X x) (hm : X.mg x = none) (hv : bootBuiltins x = some (.builtin id)) (ha : DA X C O (e :: es) fs)
    (hn : x ≠ "__name__" := by decide) (hd : (x == ("__debug__" : Str)) = false := by decide) (he : starEach (e :: es) X.env = (false, eval e X.env) :: starEach es X.env := by rfl) (hpl : (backTo pos (starEach es X.env)).any (·.1) = false := by rfl) :
    DE X C O (.Call (.Name x p) (e :: es) [] pos) (dL o fs) := PEw (by first | exact pe_callB hc hg hm hv ha | exact pe_callB hc hg hm hv ha hn hd he hpl) fun _ _ _ hw => rdl_rd hw
theorem de_callTy {x : Str} {T : String} {p : Pos} {o : List D → Option D} (hc : CallD X C (.type T) o) (hg : Gl X x) (hm : X.mg x = none) (hv : bootBuiltins x = some (.type T)) (ha : DA X C O (e :: es) fs)
    (hn : x ≠ "__name__" := by decide) (hd : (x == ("__debug__" : Str)) = false := by decide) (he : starEach (e :: es) X.env = (false, eval e X.env) :: starEach es X.env := by rfl) (hpl : (backTo pos (starEach es X.env)).any (·.1) = false := by rfl) :
    DE X C O (.Call (.Name x p) (e :: es) [] pos) (dL o fs) := PEw (by first | exact pe_callTy hc hg hm hv ha | exact pe_callTy hc hg hm hv ha hn hd he hpl) fun _ _ _ hw => rdl_rd hw
/-- the promise of a pure def -/
def spD (K : PySem.W.Frag) (C : Addr) (m : List D → Option D) : Sp := fun vs H Q _ => ∃ F ds d, Same F H ∧ RpL K C F ds vs ∧ m ds = some d ∧ Got K C F H d Q
/-- a pure def that may be called by its name x -/
structure Cal (P : Program) (w : World) (K : PySem.W.Frag) (mg : Str → Option Value) (base : Heap) (C : Addr) (k : Nat) (x : Str) (ps : List Str) (m : List D → Option D) : Prop where
  ex : ∃ f fd, FnOk P w K mg base CX0 k f fd ps (spD K C m) ∧ mg x = some (.ref f) ∧ PySem.W.keepIn K (.ref f) = true ∧ Binds K fd ps []
theorem de_call {x : Str} {p : Pos} {k j : Nat} {ps : List Str} {m : List D → Option D} (cl : Cal X.prog X.w X.K X.mg X.base C k x ps m) (hr : Room j X.A) (hg : Gl X x) (ha : DA X C O (e :: es) fs) (hk : k ≤ j := by decide)
    (hdb : (x == ("__debug__" : Str)) = false := by decide) (he : starEach (e :: es) X.env = (false, eval e X.env) :: starEach es X.env := by rfl) (hpl : (backTo pos (starEach es X.env)).any (·.1) = false := by rfl) :
    DE X C O (.Call (.Name x p) (e :: es) [] pos) (dL m fs) := by
  obtain ⟨f, fd, F, hm, hkp, hb⟩ := cl.ex
  refine PEw (pe_call F (hr.mono hk) hg hm hkp hb .nil pass0 ha hdb he hpl) fun σ H Q ⟨F, ρ, t, E, hf, k⟩ => ?_
  obtain ⟨ds, h1, hf⟩ := bind_some hf
  refine ⟨F, ρ, ds, E, h1, fun vs F1 H1 s1 r1 => ?_⟩
  show spD X.K C m (vs ++ []) H1 Q E0
  rw [List.append_nil]
  exact ⟨F1, ds, t, s1.fh, r1, hf, k.step s1⟩
theorem de_ix {o : D → D → Option D} (ho : IxD X C o) (ha : DE X C O a f) (hb : DE X C O b g) (hs : PlainIx b := by exact fun _ _ => rfl) : DE X C O (.Subscript a b pos) (d2 o f g) := PEw (pe_ix ho ha hb hs) fun _ _ _ hw => two hw
end
end DL
namespace DL
open PySem PySem.Spec PyProof.Rows L2
mutual
def eqD : D → D → Bool
  | .non, .non => true
  | .bl a, .bl b => a == b
  | .bl a, .int j => (if a then 1 else 0) == j
  | .int i, .bl b => i == (if b then 1 else 0)
  | .int i, .int j => i == j
  | .str x, .str y => x == y
  | .tup xs, .tup ys => eqDs xs ys
  | .lst xs, .lst ys => eqDs xs ys
  | _, _ => false
def eqDs : List D → List D → Bool
  | [], [] => true
  | x :: xs, y :: ys => eqD x y && eqDs xs ys
  | _, _ => false
end
mutual
/-- nested at most n deep, no bells, no script within -/
def okD : Nat → D → Bool
  | _, .non => true
  | _, .bl _ => true
  | _, .int _ => true
  | _, .str x => PySem.PyData.strOk x
  | 0, .tup _ => false
  | 0, .lst _ => false
  | n + 1, .tup xs => okDs n xs
  | n + 1, .lst xs => okDs n xs
  | _, .bell _ => false
  | _, .scr _ => false
def okDs : Nat → List D → Bool
  | _, [] => true
  | n, x :: xs => okD n x && okDs n xs
end
mutual
def toP : D → PyData
  | .non => .none
  | .bl b => .bool b
  | .int i => .int i
  | .str x => .str x
  | .tup xs => .tuple (toPs xs)
  | .lst xs => .list (toPs xs)
  | .bell _ => .dict []
  | .scr _ => .dict []
def toPs : List D → List PyData
  | [] => []
  | x :: xs => toP x :: toPs xs
end
mutual
theorem eqD_toP : ∀ (n : Nat) (d e : D), okD n d = true → okD n e = true → PyData.eqv (toP d) (toP e) = eqD d e
  | n, .non, e, h1, h2 => by cases e <;> simp [okD, toP, eqD, PyData.eqv] at h2 ⊢
  | n, .bl b, e, h1, h2 => by cases e <;> simp [okD, toP, eqD, PyData.eqv] at h2 ⊢
  | n, .int i, e, h1, h2 => by cases e <;> simp [okD, toP, eqD, PyData.eqv] at h2 ⊢
  | n, .str x, e, h1, h2 => by cases e <;> simp [okD, toP, eqD, PyData.eqv] at h2 ⊢
  | 0, .tup xs, e, h1, h2 => by simp [okD] at h1
  | 0, .lst xs, e, h1, h2 => by simp [okD] at h1
  | n + 1, .tup xs, e, h1, h2 => by
    cases e with
    | tup ys =>
      simp only [okD, toP, eqD, PyData.eqv] at h1 h2 ⊢
      exact eqDs_toP n xs ys h1 h2
    | _ => simp [okD, toP, eqD, PyData.eqv] at h2 ⊢
  | n + 1, .lst xs, e, h1, h2 => by
    cases e with
    | lst ys =>
      simp only [okD, toP, eqD, PyData.eqv] at h1 h2 ⊢
      exact eqDs_toP n xs ys h1 h2
    | _ => simp [okD, toP, eqD, PyData.eqv] at h2 ⊢
  | n, .bell _, e, h1, h2 => by cases n <;> simp [okD] at h1
  | n, .scr _, e, h1, h2 => by cases n <;> simp [okD] at h1
theorem eqDs_toP : ∀ (n : Nat) (xs ys : List D), okDs n xs = true → okDs n ys = true → PyData.eqvAll (toPs xs) (toPs ys) = eqDs xs ys
  | n, [], ys, h1, h2 => by cases ys <;> simp [toPs, eqDs, PyData.eqvAll]
  | n, x :: xs, [], h1, h2 => by simp [toPs, eqDs, PyData.eqvAll]
  | n, x :: xs, y :: ys, h1, h2 => by
    simp only [okDs, Bool.and_eq_true] at h1 h2
    simp only [toPs, eqDs, PyData.eqvAll]
    rw [eqD_toP n x y h1.1 h2.1, eqDs_toP n xs ys h1.2 h2.2]
end
mutual
theorem okD_lay : ∀ (n : Nat) (d : D), okD n d = true → (toP d).canLay0 = true ∧ (toP d).depth ≤ n
  | n, .non, _ => by simp [toP, PyData.canLay0, PyData.depth]
  | n, .bl b, _ => by simp [toP, PyData.canLay0, PyData.depth]
  | n, .int i, _ => by simp [toP, PyData.canLay0, PyData.depth]
  | n, .str x, h => by cases n <;> simpa [okD, toP, PyData.canLay0, PyData.depth] using h
  | 0, .tup xs, h => by simp [okD] at h
  | 0, .lst xs, h => by simp [okD] at h
  | n + 1, .tup xs, h => by
    simp only [okD] at h
    obtain ⟨h1, h2⟩ := okDs_lay n xs h
    simp only [toP, PyData.canLay0, PyData.depth]
    exact ⟨h1, by omega⟩
  | n + 1, .lst xs, h => by
    simp only [okD] at h
    obtain ⟨h1, h2⟩ := okDs_lay n xs h
    simp only [toP, PyData.canLay0, PyData.depth]
    exact ⟨h1, by omega⟩
  | n, .bell _, h => by cases n <;> simp [okD] at h
  | n, .scr _, h => by cases n <;> simp [okD] at h
theorem okDs_lay : ∀ (n : Nat) (ds : List D), okDs n ds = true → PyData.canLayAll0 (toPs ds) = true ∧ PyData.depthAll (toPs ds) ≤ n
  | n, [], _ => by simp [toPs, PyData.canLayAll0, PyData.depthAll]
  | n, x :: xs, h => by
    simp only [okDs, Bool.and_eq_true] at h
    obtain ⟨h1, h2⟩ := okD_lay n x h.1
    obtain ⟨h3, h4⟩ := okDs_lay n xs h.2
    simp only [toPs, PyData.canLayAll0, PyData.depthAll, h1, h3, Bool.and_self]
    exact ⟨trivial, by omega⟩
end
theorem shaped_ok {d : D} {n : Nat} (h : okD n d = true) (hn : n ≤ 64) : SeqAt.shaped (toP d) = true := by
  obtain ⟨h1, h2⟩ := okD_lay n d h
  unfold SeqAt.shaped
  rw [h1, decide_eq_true (Nat.le_trans h2 hn)]
  rfl
section
variable {K : PySem.W.Frag} {C : Addr} {H : Hp}
mutual
theorem Rp.dp : ∀ (n : Nat) (d : D) (v : V), okD n d = true → Rp K C H d v → Dp K H v (toP d)
  | _, .non, v, _, h => by
    have e : v = .non := h
    subst e
    exact .non
  | _, .bl b, v, _, h => by
    have e : v = .bl b := h
    subst e
    exact .bl b
  | _, .int i, v, _, h => by
    have e : v = .int i := h
    subst e
    exact .int i
  | _, .str x, v, _, h => by
    have e : v = .str x := h
    subst e
    exact .str x
  | 0, .tup xs, v, o, h => by simp [okD] at o
  | 0, .lst xs, v, o, h => by simp [okD] at o
  | n + 1, .tup ds, v, o, h => by
    simp only [Rp] at h
    simp only [okD] at o
    obtain ⟨a, xs, rfl, ha, hl⟩ := h
    simp only [toP]
    exact .tup (SqT.of ha) (RpL.dp n ds xs o hl)
  | n + 1, .lst ds, v, o, h => by
    simp only [Rp] at h
    simp only [okD] at o
    obtain ⟨a, xs, rfl, ha, hl⟩ := h
    simp only [toP]
    exact .lst (SqL.of ha) (RpL.dp n ds xs o hl)
  | n, .bell _, _, o, _ => by cases n <;> simp [okD] at o
  | n, .scr _, _, o, _ => by cases n <;> simp [okD] at o
theorem RpL.dp : ∀ (n : Nat) (ds : List D) (vs : List V), okDs n ds = true → RpL K C H ds vs → DpAll K H vs (toPs ds)
  | _, [], vs, _, h => by
    have e : vs = [] := h
    subst e
    simp only [toPs]
    exact .nil
  | n, d :: ds, vs, o, h => by
    simp only [RpL] at h
    simp only [okDs, Bool.and_eq_true] at o
    obtain ⟨x, r, rfl, h1, h2⟩ := h
    simp only [toPs]
    exact .cons (Rp.dp n d x o.1 h1) (RpL.dp n ds r o.2 h2)
end
end
theorem szl_ok {n : Nat} (h : n ≤ 16777216) : n ≤ sizeLine := by rw [sizeLine_eq]; exact h
def opAdd : D → D → Option D
  | .int a, .int b => some (.int (a + b))
  | .tup a, .tup b => if a.length + b.length ≤ 16777216 then some (.tup (a ++ b)) else none
  | .lst a, .lst b => if a.length + b.length ≤ 16777216 then some (.lst (a ++ b)) else none
  | .str a, .str b => if a.length + b.length ≤ 16777216 then some (.str (a ++ b)) else none
  | _, _ => none
def opSub : D → D → Option D
  | .int a, .int b => some (.int (a - b))
  | _, _ => none
/-- one factor below 2 ^ 64 -/
def mulOk (a b : Int) : Bool := (decide (-18446744073709551616 < a) && decide (a < 18446744073709551616)) || (decide (-18446744073709551616 < b) && decide (b < 18446744073709551616))
def opMul : D → D → Option D
  | .int a, .int b => if mulOk a b = true then some (.int (a * b)) else none
  | .lst a, .int k => if k ≤ 16777216 ∧ -16777216 ≤ k ∧ a.length * k.toNat ≤ 16777216 then some (.lst (List.replicate k.toNat a).flatten) else none
  | .tup a, .int k => if 2 ≤ k ∧ k ≤ 1000 ∧ a.length ≤ 1000 ∧ a.isEmpty = false then some (.tup (List.replicate k.toNat a).flatten) else none
  | _, _ => none
def opFdiv : D → D → Option D
  | .int a, .int b => if 0 < b ∧ b < 18446744073709551616 then some (.int (a / b)) else none
  | _, _ => none
def opMod : D → D → Option D
  | .int a, .int b => if 0 < b then some (.int (a % b)) else none
  | _, _ => none
def opPow : D → D → Option D
  | .int a, .int b => if 0 ≤ b ∧ b ≤ 1000 ∧ 0 ≤ a ∧ a ≤ 1000000 then some (.int (a ^ b.toNat)) else none
  | _, _ => none
def opEq (d e : D) : Option D := if okD 60 d = true ∧ okD 60 e = true then some (.bl (eqD d e)) else none
def opNe (d e : D) : Option D := if okD 60 d = true ∧ okD 60 e = true then some (.bl (!eqD d e)) else none
def asInts : List D → Option (List Int)
  | [] => some []
  | .int i :: r => (asInts r).map (i :: ·)
  | _ :: _ => none
def lexI : List Int → List Int → Bool
  | _, [] => false
  | [], _ :: _ => true
  | x :: xs, y :: ys => if x = y then lexI xs ys else decide (x < y)
def opLt : D → D → Option D
  | .int a, .int b => some (.bl (decide (a < b)))
  | .tup a, .tup b => (asInts a).bind fun x => (asInts b).bind fun y => some (.bl (lexI x y))
  | _, _ => none
def opLe : D → D → Option D
  | .int a, .int b => some (.bl (decide (a ≤ b)))
  | _, _ => none
def opGt : D → D → Option D
  | .int a, .int b => some (.bl (decide (b < a)))
  | .tup a, .tup b => (asInts a).bind fun x => (asInts b).bind fun y => some (.bl (lexI y x))
  | _, _ => none
def opGe : D → D → Option D
  | .int a, .int b => some (.bl (decide (b ≤ a)))
  | _, _ => none
def inD (d : D) (ds : List D) : Bool := ds.any fun z => eqD z d
def opIn : D → D → Option D
  | d, .lst ds => if okD 60 d = true ∧ okDs 60 ds = true then some (.bl (inD d ds)) else none
  | d, .tup ds => if okD 60 d = true ∧ okDs 60 ds = true then some (.bl (inD d ds)) else none
  | _, _ => none
def isNone : D → Bool
  | .non => true
  | _ => false
def opIs : D → D → Option D
  | .bl a, .bl b => some (.bl (decide (a = b)))
  | d, .non => some (.bl (isNone d))
  | _, _ => none
def opIsNot : D → D → Option D
  | .bl a, .bl b => some (.bl (!decide (a = b)))
  | d, .non => some (.bl (!isNone d))
  | _, _ => none
def ixNat (n : Nat) (i : Int) : Option Nat := if 0 ≤ i then (if i < n then some i.toNat else none) else if -(n : Int) ≤ i then some (i + n).toNat else none
def opIx : D → D → Option D
  | .tup xs, .int i => (ixNat xs.length i).bind fun j => xs[j]?
  | .lst xs, .int i => (ixNat xs.length i).bind fun j => xs[j]?
  | .scr xs, .int i => (ixNat xs.length i).bind fun j => xs[j]?.map D.int
  | _, _ => none
section
variable {X : Cx} {C : Addr}
theorem got0 {K : PySem.W.Frag} {F H : Hp} {d : D} {Q : VK} {v : V} (g : Got K C F H d Q) (fh : Same F H) (r : Rp K C F d v) : Q v H := g v F H (Stp.refl fh) r
theorem gotN {K : PySem.W.Frag} {F H : Hp} {d : D} {Q : VK} {p : Addr} {o : HO} (g : Got K C F H d Q) (fh : Same F H) (hp : H p = none) (r : Rp K C (upd F p o) d (.ref p)) : Q (.ref p) (upd H p o) := g _ _ _ (Stp.new fh hp) r
theorem intsRp {K : PySem.W.Frag} {F : Hp} : ∀ {ds : List D} {ns : List Int} {vs : List V}, asInts ds = some ns → RpL K C F ds vs → vs = ns.map V.int
  | [], ns, vs, e, h => by
    cases e
    exact h
  | .int i :: ds, ns, vs, e, h => by
    simp only [asInts, Option.map_eq_some_iff] at e
    obtain ⟨ns', e1, rfl⟩ := e
    obtain ⟨x, r, rfl, h1, h2⟩ := h
    have h1' : x = .int i := h1
    rw [h1', intsRp e1 h2]
    rfl
  | .non :: _, _, _, e, _ => by simp [asInts] at e
  | .bl _ :: _, _, _, e, _ => by simp [asInts] at e
  | .str _ :: _, _, _, e, _ => by simp [asInts] at e
  | .tup _ :: _, _, _, e, _ => by simp [asInts] at e
  | .lst _ :: _, _, _, e, _ => by simp [asInts] at e
  | .bell _ :: _, _, _, e, _ => by simp [asInts] at e
  | .scr _ :: _, _, _, e, _ => by simp [asInts] at e
theorem RpL.nil_of {K : PySem.W.Frag} {F : Hp} {ds : List D} (h : RpL K C F ds []) : ds = [] := List.eq_nil_of_length_eq_zero h.len
theorem od_add : OpD X C (binaryOp .Add) opAdd := OpRw (op_add.or (op_catA.or (op_cat.or op_add_str))) fun x y H Q ⟨F, d, e, c, fh, r1, r2, ho, g⟩ => by
  cases d <;> cases e <;> first | (cases ho; done) | skip
  · cases ho
    exact .inl ⟨_, _, r1, r2, got0 g fh rfl⟩
  · simp only [opAdd] at ho
    split at ho
    · rename_i hz
      cases ho
      exact .inr (.inr (.inr ⟨_, _, r1, r2, szl_ok hz, got0 g fh rfl⟩))
    · cases ho
  · simp only [opAdd] at ho
    split at ho
    · rename_i hz
      cases ho
      obtain ⟨a, xs, rfl, ha, hl⟩ := r1
      obtain ⟨b, ys, rfl, hb, hm⟩ := r2
      have l1 := hl.len
      have l2 := hm.len
      refine .inr (.inl ⟨a, b, xs, ys, rfl, rfl, SqT.of (fh _ _ ha), SqT.of (fh _ _ hb), szl_ok (by omega), fun e0 => ?_, fun e0 e1 => ?_, fun e0 e1 p hp => ?_⟩)
      · subst e0
        obtain rfl := RpL.nil_of hl
        exact got0 g fh ⟨b, ys, rfl, hb, hm⟩
      · subst e1
        obtain rfl := RpL.nil_of hm
        rw [List.append_nil] at g
        exact got0 g fh ⟨a, xs, rfl, ha, hl⟩
      · have sm := same_upd (o := .tup (xs ++ ys)) (none_of_same fh hp)
        exact gotN g fh hp ⟨p, _, rfl, upd_same, RpL.append (RpL.mono sm _ _ hl) (RpL.mono sm _ _ hm)⟩
    · cases ho
  · simp only [opAdd] at ho
    split at ho
    · rename_i hz
      cases ho
      obtain ⟨a, xs, rfl, ha, hl⟩ := r1
      obtain ⟨b, ys, rfl, hb, hm⟩ := r2
      have l1 := hl.len
      have l2 := hm.len
      refine .inr (.inr (.inl ⟨a, b, xs, ys, rfl, rfl, fh _ _ ha, fh _ _ hb, szl_ok (by omega), fun p hp => ?_⟩))
      have sm := same_upd (o := .lst (xs ++ ys)) (none_of_same fh hp)
      exact gotN g fh hp ⟨p, _, rfl, upd_same, RpL.append (RpL.mono sm _ _ hl) (RpL.mono sm _ _ hm)⟩
    · cases ho
theorem od_sub : OpD X C (binaryOp .Sub) opSub := OpRw op_sub fun x y H Q ⟨F, d, e, c, fh, r1, r2, ho, g⟩ => by
  cases d <;> cases e <;> first | (cases ho; done) | skip
  cases ho
  exact ⟨_, _, r1, r2, got0 g fh rfl⟩
theorem mulOk_CMul {a b : Int} (h : mulOk a b = true) : CMul a b := by
  unfold mulOk at h
  simp only [Bool.or_eq_true, Bool.and_eq_true, decide_eq_true_eq] at h
  unfold CMul
  have e : (2 : Int) ^ 64 = 18446744073709551616 := by decide
  rw [e]
  exact h
theorem od_mul : OpD X C (binaryOp .Mult) opMul := OpRw (op_mul.or (op_rep.or op_repT)) fun x y H Q ⟨F, d, e, c, fh, r1, r2, ho, g⟩ => by
  cases d <;> cases e <;> first | (cases ho; done) | skip
  · simp only [opMul] at ho
    split at ho
    · rename_i hz
      cases ho
      exact .inl ⟨_, _, r1, r2, mulOk_CMul hz, got0 g fh rfl⟩
    · cases ho
  · simp only [opMul] at ho
    split at ho
    · rename_i hz
      cases ho
      obtain ⟨a, xs, rfl, ha, hl⟩ := r1
      have l1 := hl.len
      refine .inr (.inr ⟨a, _, xs, rfl, r2, SqT.of (fh _ _ ha), fun e0 => ?_, hz.1, hz.2.1, by omega, fun p hp => ?_⟩)
      · subst e0
        obtain rfl := RpL.nil_of hl
        exact absurd hz.2.2.2 (by simp)
      · exact gotN g fh hp ⟨p, _, rfl, upd_same, RpL.rep (RpL.mono (same_upd (none_of_same fh hp)) _ _ hl) _⟩
    · cases ho
  · simp only [opMul] at ho
    split at ho
    · rename_i hz
      cases ho
      obtain ⟨a, xs, rfl, ha, hl⟩ := r1
      have l1 := hl.len
      have e63 : (2 : Int) ^ 63 = 9223372036854775808 := by decide
      refine .inr (.inl ⟨a, _, xs, rfl, r2, fh _ _ ha, by rw [e63]; omega, by rw [e63]; omega, szl_ok (by rw [← l1]; exact hz.2.2), fun p hp => ?_⟩)
      exact gotN g fh hp ⟨p, _, rfl, upd_same, RpL.rep (RpL.mono (same_upd (none_of_same fh hp)) _ _ hl) _⟩
    · cases ho
theorem od_fdiv : OpD X C (binaryOp .FloorDiv) opFdiv := OpRw op_fdivW fun x y H Q ⟨F, d, e, c, fh, r1, r2, ho, g⟩ => by
  cases d <;> cases e <;> first | (cases ho; done) | skip
  simp only [opFdiv] at ho
  split at ho
  · rename_i hz
    cases ho
    exact ⟨_, _, r1, r2, wide_div (b := 64) hz.1 (by omega) (by decide) (by decide), got0 g fh rfl⟩
  · cases ho
theorem od_mod : OpD X C (binaryOp .Mod) opMod := OpRw op_mod fun x y H Q ⟨F, d, e, c, fh, r1, r2, ho, g⟩ => by
  cases d <;> cases e <;> first | (cases ho; done) | skip
  simp only [opMod] at ho
  split at ho
  · rename_i hz
    cases ho
    exact ⟨_, _, r1, r2, hz, got0 g fh rfl⟩
  · cases ho
theorem od_pow : OpD X C (binaryOp .Pow) opPow := OpRw op_pow fun x y H Q ⟨F, d, e, c, fh, r1, r2, ho, g⟩ => by
  cases d <;> cases e <;> first | (cases ho; done) | skip
  simp only [opPow] at ho
  split at ho
  · rename_i hz
    cases ho
    exact ⟨_, _, r1, r2, ⟨hz.1, by omega, by omega⟩, got0 g fh rfl⟩
  · cases ho
theorem od_eq (hu : X.A.units + 64 < cLine) : OpD X C (compareOp .Eq) opEq := OpRw (op_eqD hu) fun x y H Q ⟨F, d, e, c, fh, r1, r2, ho, g⟩ => by
  unfold opEq at ho
  split at ho
  · rename_i hz
    cases ho
    refine ⟨_, _, Rp.dp 60 d x hz.1 (Rp.mono fh _ _ r1), Rp.dp 60 e y hz.2 (Rp.mono fh _ _ r2), shaped_ok hz.1 (by decide), shaped_ok hz.2 (by decide), ?_⟩
    rw [eqD_toP 60 d e hz.1 hz.2]
    exact got0 g fh rfl
  · cases ho
theorem od_ne (hu : X.A.units + 64 < cLine) : OpD X C (compareOp .NotEq) opNe := OpRw (op_neD hu) fun x y H Q ⟨F, d, e, c, fh, r1, r2, ho, g⟩ => by
  unfold opNe at ho
  split at ho
  · rename_i hz
    cases ho
    refine ⟨_, _, Rp.dp 60 d x hz.1 (Rp.mono fh _ _ r1), Rp.dp 60 e y hz.2 (Rp.mono fh _ _ r2), shaped_ok hz.1 (by decide), shaped_ok hz.2 (by decide), ?_⟩
    rw [eqD_toP 60 d e hz.1 hz.2]
    exact got0 g fh rfl
  · cases ho
theorem lexI_eq : ∀ xs ys : List Int, HT.lexLt xs ys = lexI xs ys
  | [], [] => rfl
  | [], _ :: _ => rfl
  | _ :: _, [] => rfl
  | x :: xs, y :: ys => by
    rw [HT.lexLt_cons]
    show _ = if x = y then lexI xs ys else decide (x < y)
    rw [lexI_eq xs ys]
theorem op_gtT {X : Cx} (hu : X.A.units < cLine) : OpR X (compareOp .Gt) (fun x y H Q => ∃ (a b : Addr) (ns ms : List Int), x = .ref a ∧ y = .ref b ∧ SqT X.K H a (ns.map V.int) ∧ SqT X.K H b (ms.map V.int) ∧
  Q (.bl (Ob.lexAt (fun j => decide (ns.getD j 0 = ms.getD j 0)) (fun j => decide (ms.getD j 0 < ns.getD j 0)) (decide (ns.length > ms.length)) 0 (min ns.length ms.length))) H) := by
  intro pins s σ H x y v u Q I rx ry h
  obtain ⟨a, b, ns, ms, rfl, rfl, ha, hb, q⟩ := h
  cases rx
  cases ry
  obtain ⟨its, r1, p1, _⟩ := I.tuple ha
  obtain ⟨its2, r2, p2, _⟩ := I.tuple hb
  have i1 : IntsAre its ns := Vals.ints r1
  have i2 : IntsAre its2 ms := Vals.ints r2
  have e1 : its.toArray.size = ns.length := by rw [List.size_toArray]; exact i1.length
  have e2 : its2.toArray.size = ms.length := by rw [List.size_toArray]; exact i2.length
  have at1 : ∀ j (h1 : j < its.toArray.size), ∃ t, its.toArray[j] = .int (ns.getD j 0) t := fun j h1 => PyProof.Rows.IntsAre.int_at i1 _ _ (by simp at h1; simp [h1])
  have at2 : ∀ j (h1 : j < its2.toArray.size), ∃ t, its2.toArray[j] = .int (ms.getD j 0) t := fun j h1 => PyProof.Rows.IntsAre.int_at i2 _ _ (by simp at h1; simp [h1])
  have R := Ob.RcOp.tuples_gt (A := X.A) (s := s) (e := fun j => decide (ns.getD j 0 = ms.getD j 0)) (r := fun j => decide (ms.getD j 0 < ns.getD j 0)) p1 p2 hu (fun j h1 h2 => by
    obtain ⟨t, et⟩ := at1 j h1
    obtain ⟨t', et'⟩ := at2 j h2
    rw [et, et']
    have z : (ns.getD j 0 == ms.getD j 0) = decide (ns.getD j 0 = ms.getD j 0) := by
      by_cases q : ns.getD j 0 = ms.getD j 0
      · rw [decide_eq_true q]; exact beq_iff_eq.mpr q
      · rw [decide_eq_false q]; exact beq_eq_false_iff_ne.mpr q
    rw [← z]
    exact SeqAt.EqAt.int_int _ _ _ _) (fun j h1 h2 _ => by
    obtain ⟨t, et⟩ := at1 j h1
    obtain ⟨t', et'⟩ := at2 j h2
    rw [et, et']
    exact Ob.RcOp.gt_int _ _ _ _)
  rw [e1, e2] at R
  have z : wpAny (model X.prog X.w) X.A (compareOp .Gt (.ref a) (.ref b)) (EP X pins σ Q) X.xe s := R X.prog X.w X.xe (EP X pins σ Q) ⟨.bl _, H, I, rfl, q⟩
  exact z
theorem lexAt_shift (e r : Nat → Bool) (z : Bool) : ∀ (k i : Nat), Ob.lexAt e r z (i + 1) k = Ob.lexAt (fun j => e (j + 1)) (fun j => r (j + 1)) z i k
  | 0, i => rfl
  | k + 1, i => by
    rw [Ob.lexAt_succ, Ob.lexAt_succ, lexAt_shift e r z k (i + 1)]
theorem lexAt_gt : ∀ (ns ms : List Int), Ob.lexAt (fun j => decide (ns.getD j 0 = ms.getD j 0)) (fun j => decide (ms.getD j 0 < ns.getD j 0)) (decide (ns.length > ms.length)) 0 (min ns.length ms.length) = lexI ms ns
  | [], [] => rfl
  | [], _ :: _ => rfl
  | _ :: _, [] => by simp [Ob.lexAt_zero, lexI]
  | x :: xs, y :: ys => by
    have e : min (x :: xs).length (y :: ys).length = min xs.length ys.length + 1 := by simp only [List.length_cons]; omega
    rw [e, Ob.lexAt_succ, lexAt_shift]
    have e2 : decide ((x :: xs).length > (y :: ys).length) = decide (xs.length > ys.length) := by
      rw [List.length_cons, List.length_cons]
      exact decide_eq_decide.mpr (by omega)
    rw [e2]
    show (if decide (x = y) = true then Ob.lexAt (fun j => decide (xs.getD j 0 = ys.getD j 0)) (fun j => decide (ys.getD j 0 < xs.getD j 0)) (decide (xs.length > ys.length)) 0 (min xs.length ys.length) else decide (y < x)) = if y = x then lexI ys xs else decide (y < x)
    rw [lexAt_gt xs ys]
    by_cases h : x = y
    · rw [decide_eq_true h, if_pos rfl, if_pos h.symm]
    · rw [decide_eq_false h, if_neg Bool.false_ne_true, if_neg (fun z => h z.symm)]
theorem od_lt (hu : X.A.units < cLine) : OpD X C (compareOp .Lt) opLt := OpRw (op_lt.or (op_ltT hu)) fun x y H Q ⟨F, d, e, c, fh, r1, r2, ho, g⟩ => by
  cases d <;> cases e <;> first | (cases ho; done) | skip
  · cases ho
    exact .inl ⟨_, _, r1, r2, got0 g fh rfl⟩
  · obtain ⟨ns, e1, ho1⟩ := bind_some ho
    obtain ⟨ms, e2, ho2⟩ := bind_some ho1
    cases ho2
    obtain ⟨a, xs, rfl, ha, hl⟩ := r1
    obtain ⟨b, ys, rfl, hb, hm⟩ := r2
    rw [intsRp e1 hl] at ha
    rw [intsRp e2 hm] at hb
    refine .inr ⟨a, b, ns, ms, rfl, rfl, SqT.of (fh _ _ ha), SqT.of (fh _ _ hb), ?_⟩
    rw [lexI_eq]
    exact got0 g fh rfl
theorem od_gt (hu : X.A.units < cLine) : OpD X C (compareOp .Gt) opGt := OpRw (op_gt.or (op_gtT hu)) fun x y H Q ⟨F, d, e, c, fh, r1, r2, ho, g⟩ => by
  cases d <;> cases e <;> first | (cases ho; done) | skip
  · cases ho
    exact .inl ⟨_, _, r1, r2, got0 g fh rfl⟩
  · obtain ⟨ns, e1, ho1⟩ := bind_some ho
    obtain ⟨ms, e2, ho2⟩ := bind_some ho1
    cases ho2
    obtain ⟨a, xs, rfl, ha, hl⟩ := r1
    obtain ⟨b, ys, rfl, hb, hm⟩ := r2
    rw [intsRp e1 hl] at ha
    rw [intsRp e2 hm] at hb
    refine .inr ⟨a, b, ns, ms, rfl, rfl, SqT.of (fh _ _ ha), SqT.of (fh _ _ hb), ?_⟩
    rw [lexAt_gt]
    exact got0 g fh rfl
theorem od_ge : OpD X C (compareOp .GtE) opGe := OpRw op_ge fun x y H Q ⟨F, d, e, c, fh, r1, r2, ho, g⟩ => by
  cases d <;> cases e <;> first | (cases ho; done) | skip
  cases ho
  exact ⟨_, _, r1, r2, got0 g fh rfl⟩
def rInT (K : PySem.W.Frag) : R2 := fun x y H Q => ∃ d ds, Dp K H x d ∧ Dp K H y (.tuple ds) ∧ SeqAt.shaped d = true ∧ SeqAt.shaped (.tuple ds) = true ∧ Q (.bl (ds.any fun z => PyData.eqv z d)) H
theorem op_inT (hu : X.A.units + 65 < cLine) : OpR X (compareOp .In) (rInT X.K) := by
  intro pins s σ H x y v u Q I rx ry h
  obtain ⟨d, ds, hd, he, sd, se, q⟩ := h
  obtain ⟨as, r1⟩ := Dp.reads I d x v hd rx
  obtain ⟨bs, r2⟩ := Dp.reads I (.tuple ds) y u he ry
  exact SeqAt.in_tuple_reads r2 r1 (SeqAt.canLay_of_shaped se) (SeqAt.canLay_of_shaped sd) (room_in_shaped sd hu) ⟨.bl _, H, I, rfl, q⟩
theorem any_toP {d : D} (hd : okD 60 d = true) : ∀ {ds : List D}, okDs 60 ds = true → ((toPs ds).any fun z => PyData.eqv z (toP d)) = inD d ds
  | [], _ => by simp [toPs, inD]
  | x :: xs, h => by
    simp only [okDs, Bool.and_eq_true] at h
    simp only [toPs, inD, List.any_cons]
    rw [eqD_toP 60 x d h.1 hd, any_toP hd h.2]
    rfl
theorem okDs_tup {ds : List D} (h : okDs 60 ds = true) : okD 61 (.tup ds) = true := by simpa [okD] using h
theorem okDs_lst {ds : List D} (h : okDs 60 ds = true) : okD 61 (.lst ds) = true := by simpa [okD] using h
theorem od_in (hu : X.A.units + 65 < cLine) : OpD X C (compareOp .In) opIn := OpRw ((op_inD hu).or (op_inT hu)) fun x y H Q ⟨F, d, e, c, fh, r1, r2, ho, g⟩ => by
  cases e with
  | lst ds =>
    simp only [opIn] at ho
    split at ho
    · rename_i hz
      cases ho
      refine .inl ⟨toP d, toPs ds, Rp.dp 60 d x hz.1 (Rp.mono fh _ _ r1), ?_, shaped_ok hz.1 (by decide), ?_, ?_⟩
      · have := Rp.dp 61 (.lst ds) y (okDs_lst hz.2) (Rp.mono fh _ _ r2)
        simpa [toP] using this
      · have := shaped_ok (okDs_lst hz.2) (by decide)
        simpa [toP] using this
      · rw [any_toP hz.1 hz.2]
        exact got0 g fh rfl
    · cases ho
  | tup ds =>
    simp only [opIn] at ho
    split at ho
    · rename_i hz
      cases ho
      refine .inr ⟨toP d, toPs ds, Rp.dp 60 d x hz.1 (Rp.mono fh _ _ r1), ?_, shaped_ok hz.1 (by decide), ?_, ?_⟩
      · have := Rp.dp 61 (.tup ds) y (okDs_tup hz.2) (Rp.mono fh _ _ r2)
        simpa [toP] using this
      · have := shaped_ok (okDs_tup hz.2) (by decide)
        simpa [toP] using this
      · rw [any_toP hz.1 hz.2]
        exact got0 g fh rfl
    · cases ho
  | _ => cases ho
theorem non_iff {K : PySem.W.Frag} {F : Hp} {d : D} {x : V} (r : Rp K C F d x) : decide (x = .non) = isNone d := by
  cases d with
  | non =>
    have e : x = .non := r
    subst e
    rfl
  | bl _ =>
    have e : x = .bl _ := r
    subst e
    rfl
  | int _ =>
    have e : x = .int _ := r
    subst e
    rfl
  | str _ =>
    have e : x = .str _ := r
    subst e
    rfl
  | tup _ => obtain ⟨a, xs, rfl, _⟩ := r; rfl
  | lst _ => obtain ⟨a, xs, rfl, _⟩ := r; rfl
  | bell _ => obtain ⟨a, dx, t, rfl, _⟩ := r; rfl
  | scr _ => obtain ⟨a, rfl, _⟩ := r; rfl
theorem od_isnot : OpD X C (compareOp .IsNot) opIsNot := OpRw (op_notN.or op_isnot_bl) fun x y H Q ⟨F, d, e, c, fh, r1, r2, ho, g⟩ => by
  have nn : ∀ {d' : D}, Rp X.K C F d' x → opIsNot d' .non = some c → y = .non → y = .non ∧ Q (.bl (!decide (x = .non))) H := fun {d'} rr hh e0 => by
    refine ⟨e0, ?_⟩
    rw [non_iff rr]
    cases d' <;> (cases hh; exact got0 g fh rfl)
  cases e with
  | non => exact .inl (nn r1 ho r2)
  | bl b =>
    cases d with
    | bl a =>
      cases ho
      exact .inr ⟨_, _, r1, r2, got0 g fh rfl⟩
    | _ => cases ho
  | _ => cases d <;> cases ho
theorem ixNat_eq (n : Nat) (i : Int) : ixNat n i = ixN n i := rfl
theorem ix_d : IxD X C opIx := by
  intro vl sl pins s σ H x y v u Q I rx ry q
  refine (ix_tup.or ix_list) vl sl pins s σ H x y v u Q I rx ry ?_
  obtain ⟨F, d, e, c, fh, r1, r2, ho, g⟩ := q
  cases d <;> cases e <;> first | (cases ho; done) | skip
  · obtain ⟨j, e1, e2⟩ := bind_some ho
    obtain ⟨a, xs, rfl, ha, hl⟩ := r1
    obtain ⟨w, h1, h2⟩ := RpL.get hl e2
    refine .inl ⟨a, xs, _, w, rfl, r2, SqT.of (fh _ _ ha), ?_, got0 g fh h2⟩
    unfold atI
    rw [← hl.len, ← ixNat_eq, e1]
    exact h1
  · obtain ⟨j, e1, e2⟩ := bind_some ho
    obtain ⟨a, xs, rfl, ha, hl⟩ := r1
    obtain ⟨w, h1, h2⟩ := RpL.get hl e2
    refine .inr ⟨a, xs, _, w, rfl, r2, SqL.of (fh _ _ ha), ?_, got0 g fh h2⟩
    unfold atI
    rw [← hl.len, ← ixNat_eq, e1]
    exact h1
  · obtain ⟨j, e1, e2⟩ := bind_some ho
    obtain ⟨a, rfl, ha⟩ := r1
    obtain ⟨i', e3, rfl⟩ := Option.map_eq_some_iff.mp e2
    refine .inr ⟨a, _, _, .int i', rfl, r2, fh.seq ha, ?_, got0 g fh rfl⟩
    unfold atI
    rw [List.length_map, ← ixNat_eq, e1]
    show (List.map V.int _)[j]? = _
    rw [List.getElem?_map, e3]
    rfl
end
end DL
namespace DL
open PySem PySem.Spec PyProof.Rows L2
def opLen : List D → Option D
  | [.tup xs] => some (.int xs.length)
  | [.lst xs] => some (.int xs.length)
  | [.scr xs] => some (.int xs.length)
  | [.str x] => if x.length ≤ 16777216 then some (.int x.length) else none
  | _ => none
def opTuple : List D → Option D
  | [.tup xs] => some (.tup xs)
  | [.lst xs] => some (.tup xs)
  | _ => none
/-- sorted -/
def ins (a : Int) : List Int → List Int
  | [] => [a]
  | b :: r => if a ≤ b then a :: b :: r else b :: ins a r
def asBls : List D → Option (List Bool)
  | [] => some []
  | .bl i :: r => (asBls r).map (i :: ·)
  | _ :: _ => none
def opAll : List D → Option D
  | [.lst xs] => (asBls xs).bind fun bs => some (.bl (bs.all id))
  | _ => none
def minI : List Int → Option Int
  | [] => none
  | a :: r => some (r.foldl (fun x y => if y < x then y else x) a)
def opMin : List D → Option D
  | [.lst xs] => (asInts xs).bind fun ns => (minI ns).bind fun m => some (.int m)
  | [.int i, .int j] => some (.int (if j < i then j else i))
  | _ => none
theorem minI_spec : ∀ {ns : List Int} {m : Int}, minI ns = some m → m ∈ ns ∧ ∀ y, y ∈ ns → m ≤ y
  | [], m, h => by cases h
  | a :: r, m, h => by
    have e : r.foldl (fun x y => if y < x then y else x) a = m := Option.some.inj h
    clear h
    revert a
    induction r with
    | nil =>
      intro a e
      have e' : a = m := e
      subst e'
      exact ⟨List.mem_cons_self, fun y hy => by
        rw [List.mem_singleton.mp hy]
        exact Int.le_refl _⟩
    | cons b r ih =>
      intro a e
      obtain ⟨h1, h2⟩ := ih (if b < a then b else a) e
      have hx := h2 _ List.mem_cons_self
      refine ⟨?_, fun y hy => ?_⟩
      · rcases List.mem_cons.mp h1 with e1 | h1
        · split at e1
          · rw [e1]
            exact List.mem_cons_of_mem _ List.mem_cons_self
          · rw [e1]
            exact List.mem_cons_self
        · exact List.mem_cons_of_mem _ (List.mem_cons_of_mem _ h1)
      · rcases List.mem_cons.mp hy with rfl | hy
        · split at hx <;> omega
        · rcases List.mem_cons.mp hy with rfl | hy
          · split at hx <;> omega
          · exact h2 y (List.mem_cons_of_mem _ hy)
section
variable {X : Cx} {C : Addr}
theorem RpL.one_inv {K : PySem.W.Frag} {F : Hp} {d : D} {vs : List V} (h : RpL K C F [d] vs) : ∃ v, vs = [v] ∧ Rp K C F d v := by
  obtain ⟨x, r, e, h1, h2⟩ := h
  have e2 : r = [] := h2
  subst e2
  exact ⟨x, e, h1⟩
theorem RpL.two_inv {K : PySem.W.Frag} {F : Hp} {d e : D} {vs : List V} (h : RpL K C F [d, e] vs) : ∃ v w, vs = [v, w] ∧ Rp K C F d v ∧ Rp K C F e w := by
  obtain ⟨x, r, e1, h1, h2⟩ := h
  obtain ⟨w, rfl, h3⟩ := RpL.one_inv h2
  exact ⟨x, w, e1, h1, h3⟩
theorem cd_len : CallD X C (.builtin "len") opLen := CallRw (call_len_seq.or call_len_str) fun xs H Q ⟨F, ds, c, fh, r, ho, g⟩ => by
  match ds, ho, r with
  | [.tup es], ho, r =>
    cases ho
    obtain ⟨v, rfl, a, xs, rfl, ha, hl⟩ := RpL.one_inv r
    refine .inl ⟨a, xs, rfl, .inr (SqT.of (fh _ _ ha)), ?_⟩
    rw [← hl.len]
    exact got0 g fh rfl
  | [.lst es], ho, r =>
    cases ho
    obtain ⟨v, rfl, a, xs, rfl, ha, hl⟩ := RpL.one_inv r
    refine .inl ⟨a, xs, rfl, .inl (SqL.of (fh _ _ ha)), ?_⟩
    rw [← hl.len]
    exact got0 g fh rfl
  | [.scr es], ho, r =>
    cases ho
    obtain ⟨v, rfl, a, rfl, ha⟩ := RpL.one_inv r
    refine .inl ⟨a, _, rfl, .inl (fh.seq ha), ?_⟩
    rw [List.length_map]
    exact got0 g fh rfl
  | [.str z], ho, r =>
    simp only [opLen] at ho
    split at ho
    · rename_i hz
      cases ho
      obtain ⟨v, rfl, h⟩ := RpL.one_inv r
      have e : v = .str z := h
      subst e
      exact .inr ⟨z, rfl, szl_ok hz, got0 g fh rfl⟩
    · cases ho
theorem cd_tuple : CallD X C (.type "tuple") opTuple := CallRw call_tuple_of fun xs H Q ⟨F, ds, c, fh, r, ho, g⟩ => by
  match ds, ho, r with
  | [.tup es], ho, r =>
    cases ho
    obtain ⟨v, rfl, a, xs, rfl, ha, hl⟩ := RpL.one_inv r
    exact ⟨a, xs, rfl, .inr ⟨SqT.of (fh _ _ ha), got0 g fh ⟨a, xs, rfl, ha, hl⟩⟩⟩
  | [.lst es], ho, r =>
    cases ho
    obtain ⟨v, rfl, a, xs, rfl, ha, hl⟩ := RpL.one_inv r
    exact ⟨a, xs, rfl, .inl ⟨SqL.of (fh _ _ ha), fun l hn => gotN g fh hn ⟨l, xs, rfl, upd_same, RpL.mono (same_upd (none_of_same fh hn)) _ _ hl⟩⟩⟩
theorem blsRp {K : PySem.W.Frag} {F : Hp} : ∀ {ds : List D} {ns : List Bool} {vs : List V}, asBls ds = some ns → RpL K C F ds vs → vs = ns.map V.bl
  | [], ns, vs, e, h => by
    cases e
    exact h
  | .bl i :: ds, ns, vs, e, h => by
    simp only [asBls, Option.map_eq_some_iff] at e
    obtain ⟨ns', e1, rfl⟩ := e
    obtain ⟨x, r, rfl, h1, h2⟩ := h
    have h1' : x = .bl i := h1
    rw [h1', blsRp e1 h2]
    rfl
  | .non :: _, _, _, e, _ => by simp [asBls] at e
  | .int _ :: _, _, _, e, _ => by simp [asBls] at e
  | .str _ :: _, _, _, e, _ => by simp [asBls] at e
  | .tup _ :: _, _, _, e, _ => by simp [asBls] at e
  | .lst _ :: _, _, _, e, _ => by simp [asBls] at e
  | .bell _ :: _, _, _, e, _ => by simp [asBls] at e
  | .scr _ :: _, _, _, e, _ => by simp [asBls] at e
theorem cd_all (hc : X.calm = true) : CallD X C (.builtin "all") opAll := CallRw (cr_all hc) fun xs H Q ⟨F, ds, c, fh, r, ho, g⟩ => by
  match ds, ho, r with
  | [.lst es], ho, r =>
    obtain ⟨ns, e1, ho1⟩ := bind_some ho
    cases ho1
    obtain ⟨v, rfl, a, xs, rfl, ha, hl⟩ := RpL.one_inv r
    rw [blsRp e1 hl] at ha
    exact ⟨a, ns, rfl, SqL.of (fh _ _ ha), got0 g fh rfl⟩
theorem le_uniq_min {ns : List Int} {m m' : Int} (h1 : m ∈ ns) (h2 : ∀ y, y ∈ ns → m ≤ y) (h3 : m' ∈ ns) (h4 : ∀ y, y ∈ ns → m' ≤ y) : m = m' := Int.le_antisymm (h2 m' h3) (h4 m h1)
theorem cd_min (hc : X.calm = true) : CallD X C (.builtin "min") opMin := CallRw ((cr_min hc).or (call_min2 hc)) fun xs H Q ⟨F, ds, c, fh, r, ho, g⟩ => by
  match ds, ho, r with
  | [.lst es], ho, r =>
    obtain ⟨ns, e1, ho1⟩ := bind_some ho
    obtain ⟨m, e2, ho2⟩ := bind_some ho1
    cases ho2
    obtain ⟨v, rfl, a, xs, rfl, ha, hl⟩ := RpL.one_inv r
    rw [intsRp e1 hl] at ha
    obtain ⟨s1, s2⟩ := minI_spec e2
    refine .inl ⟨a, ns, rfl, SqL.of (fh _ _ ha), List.length_pos_of_mem s1, fun m' h1 h2 => ?_⟩
    rw [le_uniq_min h1 h2 s1 s2]
    exact got0 g fh rfl
  | [.int i, .int j], ho, r =>
    cases ho
    obtain ⟨v, w, rfl, h1, h2⟩ := RpL.two_inv r
    rw [Rp.int h1, Rp.int h2]
    exact .inr ⟨i, j, rfl, got0 g fh rfl⟩
variable {O : List Nat} {e : Expr} {f : DF} {pos p p' : Pos}
end
def cutL (xs : List D) (lo hi : Option Int) : List D := (xs.drop (HT.sIx xs.length 0 lo)).take (HT.sIx xs.length xs.length hi - HT.sIx xs.length 0 lo)
def opSl (lo hi : Option Int) : D → Option D
  | .tup xs => some (.tup (cutL xs lo hi))
  | .lst xs => some (.lst (cutL xs lo hi))
  | _ => none
def asIx : D → Option Int
  | .int i => some i
  | _ => none
abbrev DOx := Rho → Option (Option Int)
def oNo : DOx := fun _ => some none
def oIx (f : DF) : DOx := fun ρ => (f ρ).bind fun d => (asIx d).bind fun i => some (some i)
def dSl (f : DF) (l u : DOx) : DF := fun ρ => (f ρ).bind fun x => (l ρ).bind fun lo => (u ρ).bind fun hi => opSl lo hi x
def tDO (K : PySem.W.Frag) (C : Addr) (O : List Nat) (f : DOx) : TO := fun σ H Q => ∃ F ρ o, En K C O F H σ ρ ∧ f ρ = some o ∧ ∀ F' H', Stp F H F' H' → Q o H'
section
variable {X : Cx} {C : Addr} {O : List Nat} {e : Expr} {f : DF} {l u : DOx} {pos p2 : Pos} {lo hi : Option Expr}
theorem POw {e : Option Expr} {t t' : TO} (h : PO X e t) (w : ∀ σ H Q, t' σ H Q → t σ H Q) : PO X e t' := ⟨fun pins s σ H Q I q => h.run pins s σ H Q I (w σ H Q q)⟩
theorem do_no : PO X none (tDO X.K C O oNo) := POw po_none fun σ H Q ⟨F, ρ, o, E, hf, k⟩ => by
  cases hf
  exact k F H (Stp.refl E.fh)
theorem do_ix (h : DE X C O e f) : PO X (some e) (tDO X.K C O (oIx f)) := POw (po_some h) fun σ H Q ⟨F, ρ, o, E, hf, k⟩ => by
  obtain ⟨d, h1, hf1⟩ := bind_some hf
  obtain ⟨i, h2, hf2⟩ := bind_some hf1
  cases hf2
  refine ⟨F, ρ, d, E, h1, fun v F1 H1 s1 r1 => ?_⟩
  cases d <;> first | (cases h2; done) | skip
  cases h2
  exact ⟨i, r1, k F1 H1 s1⟩
theorem RpL.cut {K : PySem.W.Frag} {F : Hp} {ds : List D} {vs : List V} (h : RpL K C F ds vs) (lo hi : Option Int) : RpL K C F (cutL ds lo hi) (cutV vs lo hi) := by
  unfold cutL cutV
  rw [h.len]
  exact RpL.take _ (RpL.drop _ h)
theorem whole_cut {ds : List D} {lo hi : Option Int} (h : HT.sIx ds.length 0 lo = 0 ∧ HT.sIx ds.length ds.length hi = ds.length) : cutL ds lo hi = ds := by
  unfold cutL
  rw [h.1, h.2, List.drop_zero, Nat.sub_zero, List.take_length]
theorem SlRw {r r' : V → Option Int → Option Int → Hp → VK → Prop} (h : SlR X r) (w : ∀ x lo hi H Q, r' x lo hi H Q → r x lo hi H Q) : SlR X r' := fun pins s σ H x v vl vu lo hi sl Q I rx hs pl pu q => h pins s σ H x v vl vu lo hi sl Q I rx hs pl pu (w x lo hi H Q q)
theorem sl_d : SlR X (fun x lo hi H Q => ∃ F d c, Same F H ∧ Rp X.K C F d x ∧ opSl lo hi d = some c ∧ Got X.K C F H c Q) := SlRw (sl_list.or sl_tupA) fun x lo hi H Q ⟨F, d, c, fh, r, ho, g⟩ => by
  cases d <;> first | (cases ho; done) | skip
  · cases ho
    obtain ⟨a, xs, rfl, ha, hl⟩ := r
    refine .inr ⟨a, xs, rfl, SqT.of (fh _ _ ha), fun hw => ?_, fun hw p hp => gotN g fh hp ⟨p, _, rfl, upd_same, (RpL.mono (same_upd (none_of_same fh hp)) _ _ (RpL.cut hl lo hi))⟩⟩
    rw [← hl.len] at hw
    rw [whole_cut hw] at g
    exact got0 g fh ⟨a, xs, rfl, ha, hl⟩
  · cases ho
    obtain ⟨a, xs, rfl, ha, hl⟩ := r
    exact .inl ⟨a, xs, rfl, SqL.of (fh _ _ ha), fun p hp => gotN g fh hp ⟨p, _, rfl, upd_same, (RpL.mono (same_upd (none_of_same fh hp)) _ _ (RpL.cut hl lo hi))⟩⟩
theorem de_slice (he : DE X C O e f) (hl : PO X lo (tDO X.K C O l)) (hu : PO X hi (tDO X.K C O u)) : DE X C O (.Subscript e (.Slice lo hi none p2) pos) (dSl f l u) := PEw (pe_slice sl_d he hl hu) fun σ H Q ⟨F, ρ, t, E, hf, k⟩ => by
  obtain ⟨x, h1, hf1⟩ := bind_some hf
  obtain ⟨lo', h2, hf2⟩ := bind_some hf1
  obtain ⟨hi', h3, hf3⟩ := bind_some hf2
  exact ⟨F, ρ, x, E, h1, fun v F1 H1 s1 r1 => ⟨F1, ρ, lo', E.step s1, h2, fun F2 H2 s2 => ⟨F2, ρ, hi', E.step (s1.trans s2), h3, fun F3 H3 s3 => ⟨F3, x, t, s3.fh, Rp.mono (s2.ff.trans s3.ff) x v r1, hf3, k.step (s1.trans (s2.trans s3))⟩⟩⟩⟩
end
end DL
namespace DL
open PySem PySem.Spec PyProof.Rows L2
theorem meets_enum1 {v : Value} {o : Obj} {H : Heap → Prop} (B : Begins v o H) :
    Meets (Builtin.«enumerate.__new__» ⟨[.type "enumerate", v], []⟩) (fun _ R s => H s.heap ∧
      R (.ok (.ret (.ref (s.heap.push o).objs.size))) { s with heap := (s.heap.push o).push { cls := .type "enumerate", data := .fields #[.none, .bool false, .ref s.heap.objs.size, rawInt 0, .none, .none] } }) :=
  .of_wp fun prog w A R s h => by
    obtain ⟨hp, g, d, tk, os⟩ := s; obtain ⟨h1, h⟩ := h
    have hsub := sub_enumerate
    have q1 : ∀ {A' : Around} {E : Value → Shared → Prop} {Q : Value → Shared → Prop}, Q (.ref hp.objs.size) ⟨hp.push o, g, d, tk, os⟩ → wpAny (model prog w) A' (pyIter v) Q E ⟨hp, g, d, tk, os⟩ :=
      fun q => B.iter prog w _ _ ⟨hp, g, d, tk, os⟩ _ h1 q
    wp_walk using q1
    refine wpAny_stack_any fun st => wpAny_pure ?_
    split
    · rename_i c _ _ _ _ _
      cases (c == Value.type "enumerate")
      · wp_walk using q1
        exact ⟨_, rfl, h⟩
      · wp_walk using q1
        exact ⟨_, rfl, h⟩
    · wp_walk using q1
      exact ⟨_, rfl, h⟩
theorem call_enum_begins {prog : Program} {w : World} {A : Around} {E : Value → Shared → Prop} {s : Shared} {v : Value} {o : Obj} {H : Heap → Prop} {Q : Value → Shared → Prop} (B : Begins v o H) (h1 : H s.heap)
    (h : ∀ h', IsEnum h' (s.heap.objs.size + 1) s.heap.objs.size 0 .none → h'.get? s.heap.objs.size = some o → h'.objs.size = s.heap.objs.size + 2 →
      (∀ b o, s.heap.get? b = some o → h'.get? b = some o) → Q (.ref (s.heap.objs.size + 1)) { s with heap := h' }) :
    wpAny (model prog w) A (call (.type "enumerate") [v]) Q E s := by
  refine callType_new F.called_enumerate (by decide) (F.typeCall_enumerate_1 _) (F.newCall_enumerate_1 _) (fun obj => F.args_object_init_2 obj _) F.entry_enumerate_new
    (meets_enum1 B) ⟨h1, ?_⟩
  have hz : (s.heap.push o).objs.size = s.heap.objs.size + 1 := Heap.size_push ..
  show _ ∧ _
  rw [hz]
  have he : IsEnum ((s.heap.push o).push { cls := .type "enumerate", data := .fields #[.none, .bool false, .ref s.heap.objs.size, rawInt 0, .none, .none] }) (s.heap.objs.size + 1) s.heap.objs.size 0 .none := by
    have := Heap.get?_push_size (s.heap.push o) (o := { cls := .type "enumerate", data := .fields #[.none, .bool false, .ref s.heap.objs.size, rawInt 0, .none, .none] }) rfl
    rw [hz] at this; exact this
  refine ⟨⟨_, he, rfl⟩, h _ he (Heap.get?_push_of_some _ (Heap.get?_push_size _ B.free)) (by rw [Heap.size_push, hz]) fun b o x => Heap.get?_push_of_some _ (Heap.get?_push_of_some _ x)⟩
def IteT (K : PySem.W.Frag) (a : Addr) : It :=
  ⟨fun i H => ∃ (xs : List V) (x : V), SqT K H a xs ∧ xs[i]? = some x, fun i H v H' => ∃ T x, v = .ref T ∧ H T = none ∧ H' = upd H T (.tup [.int (i : Nat), x]) ∧ ∀ xs, SqT K H a xs → xs[i]? = some x, fun i H => ∃ xs : List V, SqT K H a xs ∧ xs.length = i⟩
theorem turn_enumT {P : Program} {w : World} {K : PySem.W.Frag} {elts : List Expr} {kk : Nat} {tpos : Pos} (a e it : Addr) (hai : a ≠ it) (hae : a ≠ e) :
    Turn P w K (.Tuple elts kk tpos) (IteT K a) [e, it] e (fun i h => (∃ old, IsEnum h e it ((i : Nat) : Int) old) ∧ h.IsTupleIter it a i ∧ e ≠ it) where
  mem := by simp
  obj := fun i h st b hb => by
    obtain ⟨⟨old, he⟩, ⟨o, ho, hc, hd⟩, _⟩ := st
    have e' : b = e ∨ b = it := by simpa using hb
    rcases e' with z | z
    · rw [z]; exact ⟨_, he, fun v q => nomatch q⟩
    · rw [z]; exact ⟨o, ho, fun v q => by rw [hd] at q; cases q⟩
  keep := fun i h h' st k => let ⟨⟨old, he⟩, hi, hne⟩ := st; ⟨⟨old, k e (by simp) _ he⟩, hi.at fun o q => k it (by simp) o q, hne⟩
  item := by
    intro X hP hw hK hc i pins s σ H E I hf st hg
    subst hP hw hK
    obtain ⟨⟨old, he⟩, hit, hne⟩ := st
    obtain ⟨xs, x, hq, hx⟩ := hg
    obtain ⟨its, rv, p, hz⟩ := I.tuple hq
    obtain ⟨u, hu, ru⟩ := rv.get hx
    have hel : e < s.heap.objs.size := Heap.lt_size he
    have hil : it < s.heap.objs.size := by obtain ⟨_, q, _⟩ := hit; exact Heap.lt_size q
    have hi : i < its.toArray.size := by
      have := (List.getElem?_eq_some_iff.mp hu).1
      simpa using this
    refine wpAny_pyNext_enum_itemC (Draws.tuple (A := X.A.in1) (I.ok.hd hc) it a hai its.toArray) he ⟨hit, p⟩ hi hne (by
      intro z
      rcases List.mem_cons.mp z with z | z
      · exact hne z
      · exact hae (List.mem_singleton.mp z).symm) fun x' h' tk hx' ho hst' hT hsz hk => ?_
    have ex : x' = u := by
      have h1 : its.toArray[i]? = some u := by simpa using hu
      rw [h1] at hx'
      exact (Option.some.inj hx').symm
    subst ex
    refine ⟨_, rfl, wpAny_letOwnedTupleGo_enum (s := { s with heap := h', toks := tk + 1 }) ho fun h'' he' sb => ?_⟩
    have hT2 : h''.get? s.heap.objs.size = some { cls := .type "tuple", data := .seq #[.int i tk, x'] } := (sb.2 _ (Nat.ne_of_gt hel)).trans hT
    have new : ObjOk X.prog X.w (upd H s.heap.objs.size (.tup [.int (i : Nat), x])) h'' s.heap.objs.size (.tup [.int (i : Nat), x]) :=
      ⟨by show 2 ≤ sizeLine; decide, [.int i tk, x'], .cons ⟨_, rfl⟩ (.cons ru .nil), ⟨_, hT2, rfl, _, rfl⟩⟩
    have I1 : Inv X pins σ (upd H s.heap.objs.size (.tup [.int (i : Nat), x])) { s with heap := h'', toks := tk + 1 } :=
      I.turnedNew (ch := [e, it]) (fun b ob hb q => (sb.2 b (fun z => hb (by simp [z]))).trans (hk b ob (fun z => hb (by simp [z])) (fun z => hb (by simp [z])) q)) hf (Nat.le_refl _) new
    refine ⟨.ref s.heap.objs.size, _, I1, rfl, ⟨_, x, rfl, I.hok.fresh (Nat.le_refl _), rfl, fun ys hy => by rw [I.tuple_inj hy hq]; exact hx⟩, ⟨⟨x', ?_⟩, hst'.1.at fun o q => (sb.2 it (Ne.symm hne)).trans q, hne⟩, fun b hb => ?_⟩
    · have e1 : ((i + 1 : Nat) : Int) = (i : Int) + 1 := by omega
      rw [e1]; exact he'
    · have hb' : b < s.heap.objs.size := by
        have e' : b = e ∨ b = it := by simpa using hb
        rcases e' with z | z
        · rw [z]; exact hel
        · rw [z]; exact hil
      rw [upd_ne (Nat.ne_of_lt hb')]
      exact (hf b hb).1
  done := by
    intro X hP hw hK hc i pins s σ H E I hf st hg
    subst hP hw hK
    obtain ⟨⟨old, he⟩, hit, hne⟩ := st
    obtain ⟨xs, hq, hx⟩ := hg
    obtain ⟨its, rv, p, hz⟩ := I.tuple hq
    obtain ⟨f0, f1, f2, f3, f4, f5⟩ := hf it (by simp)
    have hl := rv.length
    have ei : i = its.toArray.size := by
      rw [List.size_toArray, ← hl]
      exact hx.symm
    subst ei
    refine wpAny_pyNext_enum_endD (Draws.tuple (A := X.A.in1) (I.ok.hd hc) it a hai its.toArray) he ⟨hit, p⟩ fun h' eb => ⟨rfl, I.turned (t' := s.toks) (fun b o hb q => eb b o hb q) f0 f1 f3 f4 f5⟩
  self := fun A i s Q E st h => let ⟨⟨_, he⟩, _⟩ := st; wpAny_pyIter_enum he h
def iEnumT (K : PySem.W.Frag) (ta : TA) : TI := fun σ H R => ta σ H fun vs H1 => ∃ a xs, vs = [.ref a] ∧ H1 a = some (.tup xs) ∧ R (IteT K a) H1
theorem pi_enumT {X : Cx} {e : Expr} {ta : TA} {p pos tpos : Pos} {elts : List Expr} {kk : Nat} (hg : Gl X "enumerate") (hm : X.mg "enumerate" = none) (ha : PA X [e] ta) (hs : starEach [e] X.env = [(false, eval e X.env)] := by rfl) :
    PI X (.Tuple elts kk tpos) (.Call (.Name "enumerate" p) [e] [] pos) (iEnumT X.K ta) := by
  refine ⟨fun pins s σ H R I h => ?_⟩
  refine Call_ (ld_blt I hg hm boot_enumerate (PyProof.Rows.callWith_type1 (thn (ha.run pos pins s σ H _ I h) fun us s1 ⟨vs, H1, I1, r1, q1⟩ => ?_) hs rfl))
  obtain ⟨a, xs, ex, hq, q⟩ := q1
  subst ex
  cases r1 with
  | cons r rr =>
    cases rr
    cases r
    obtain ⟨its, rv, p', hz⟩ := I1.tuple (SqT.of hq)
    have hal : a < s1.heap.objs.size := p'.lt
    refine call_enum_begins (begins_tuple a its.toArray) p' fun h' he hit hsz hk => wpAny_pyIter_enum he ?_
    have I2 : Inv X pins σ H1 { s1 with heap := h' } := I1.kept (t' := s1.toks) hk
    refine ⟨s1.heap.objs.size + 1, [s1.heap.objs.size + 1, s1.heap.objs.size], _, _, H1, rfl, I2, turn_enumT a (s1.heap.objs.size + 1) s1.heap.objs.size (Nat.ne_of_lt hal) (Nat.ne_of_lt (Nat.lt_succ_of_lt hal)), ⟨⟨.none, he⟩, ⟨_, hit, rfl, rfl⟩, Nat.succ_ne_self _⟩, fun b hb => ?_, q⟩
    have e' : b = s1.heap.objs.size + 1 ∨ b = s1.heap.objs.size := by simpa using hb
    have hle : s1.heap.objs.size ≤ b := by
      rcases e' with z | z
      · rw [z]; exact Nat.le_add_right _ _
      · rw [z]; exact Nat.le_refl _
    exact I1.fpOk hle (I1.hok.fresh hle)
theorem PIor {X : Cx} {tg e : Expr} {w w' : TI} (h : PI X tg e w) (h' : PI X tg e w') : PI X tg e (fun σ H R => w σ H R ∨ w' σ H R) :=
  ⟨fun pins s σ H R I q => q.elim (h.run pins s σ H R I) (h'.run pins s σ H R I)⟩
theorem PIw {X : Cx} {tg e : Expr} {w w' : TI} (h : PI X tg e w) (k : ∀ σ H R, w' σ H R → w σ H R) : PI X tg e w' := ⟨fun pins s σ H R I q => h.run pins s σ H R I (k σ H R q)⟩
/-- J yields ds, whatever is made meanwhile -/
def JD (K : PySem.W.Frag) (C : Addr) (J : It) (F : Hp) (ds : List D) : Prop := ∀ i F1 H1, Same F F1 → Same F1 H1 → (i = ds.length → J.stop i H1) ∧
  ∀ d, ds[i]? = some d → J.go i H1 ∧ ∀ x H2, J.yld i H1 x H2 → ∃ F2, Stp F1 H1 F2 H2 ∧ Rp K C F2 d x
def tDI (K : PySem.W.Frag) (C : Addr) (O : List Nat) (f : DFs) : TI := fun σ H R => ∃ F ρ ds, En K C O F H σ ρ ∧ f ρ = some ds ∧ ∀ J F' H', Stp F H F' H' → JD K C J F' ds → R J H'
abbrev DI (X : Cx) (C : Addr) (O : List Nat) (tg e : Expr) (f : DFs) : Prop := PI X tg e (tDI X.K C O f)
def asSeq : D → Option (List D)
  | .tup xs => some xs
  | .lst xs => some xs
  | _ => none
def iSeq (f : DF) : DFs := fun ρ => (f ρ).bind asSeq
def rngD (a : Int) (n : Nat) : List D := (List.range n).map fun (i : Nat) => D.int (a + (i : Int))
def opRng1 : List D → Option (List D)
  | [.int n] => if -4611686018427387904 ≤ n ∧ n < 4611686018427387904 then some (rngD 0 n.toNat) else none
  | _ => none
def opRng2 : List D → Option (List D)
  | [.int a, .int b] => if -4611686018427387904 ≤ a ∧ a < 4611686018427387904 ∧ -4611686018427387904 ≤ b ∧ b < 4611686018427387904 then some (rngD a (b - a).toNat) else none
  | _ => none
def iRng1 (f : DFs) : DFs := fun ρ => (f ρ).bind opRng1
def iRng2 (f : DFs) : DFs := fun ρ => (f ρ).bind opRng2
def enumD (xs : List D) : List D := (List.range xs.length).zipWith (fun i d => D.tup [.int (i : Nat), d]) xs
def iEn (f : DFs) : DFs := fun ρ => (f ρ).bind fun ds => match ds with
  | [.tup xs] => some (enumD xs)
  | [.lst xs] => some (enumD xs)
  | _ => none
section
variable {K : PySem.W.Frag} {C : Addr} {F H : Hp} {a b : Addr} {xs ys : List V} {ds es : List D}
theorem SqL.uniq (h : H a = some (.lst xs)) (h' : SqL K H a ys) (hk : K.lookup a = none) : ys = xs := by
  rcases h' with (h' | ⟨o, h'⟩) | ⟨o, _, _, h', _⟩
  · rw [h] at h'
    cases h'
    rfl
  · rw [h] at h'
    cases h'
  · rw [hk] at h'
    cases h'
theorem jd_list (h : F a = some (.lst xs)) (hl : RpL K C F ds xs) : JD K C (Itl K a) F ds := fun i F1 H1 s1 s2 => by
  have ha : SqL K H1 a xs := SqL.of (s2 _ _ (s1 _ _ h))
  refine ⟨fun hi => ⟨xs, ha, by rw [hi, hl.len]; exact Nat.le_refl _⟩, fun d hd => ?_⟩
  obtain ⟨v, hv, r⟩ := RpL.get hl hd
  refine ⟨⟨xs, v, ha, hv⟩, fun x H2 y => ?_⟩
  obtain ⟨rfl, y⟩ := y
  have e := y xs ha
  rw [hv] at e
  cases e
  exact ⟨F1, Stp.refl s2, Rp.mono s1 d _ r⟩
theorem jd_tup (h : F a = some (.tup xs)) (hl : RpL K C F ds xs) : JD K C (Itt K a) F ds := fun i F1 H1 s1 s2 => by
  have ha : SqT K H1 a xs := SqT.of (s2 _ _ (s1 _ _ h))
  refine ⟨fun hi => ⟨xs, ha, by rw [hi, hl.len]; exact Nat.le_refl _⟩, fun d hd => ?_⟩
  obtain ⟨v, hv, r⟩ := RpL.get hl hd
  refine ⟨⟨xs, v, ha, hv⟩, fun x H2 y => ?_⟩
  obtain ⟨rfl, y⟩ := y
  have e := y xs ha
  rw [hv] at e
  cases e
  exact ⟨F1, Stp.refl s2, Rp.mono s1 d _ r⟩
theorem rngD_len (a : Int) (n : Nat) : (rngD a n).length = n := by
  unfold rngD
  rw [List.length_map, List.length_range]
theorem rngD_get {a : Int} {n i : Nat} {d : D} (h : (rngD a n)[i]? = some d) : i < n ∧ d = .int (a + (i : Int)) := by
  unfold rngD at h
  rw [List.getElem?_map] at h
  obtain ⟨j, h1, h2⟩ := Option.map_eq_some_iff.mp h
  obtain ⟨h3, h4⟩ := List.getElem?_eq_some_iff.mp h1
  rw [List.getElem_range] at h4
  rw [List.length_range] at h3
  subst h4
  exact ⟨h3, h2.symm⟩
theorem jd_rng {lo : Int} {n : Nat} : JD K C (Itr lo n) F (rngD lo n) := fun i F1 H1 s1 s2 => by
  refine ⟨fun hi => by
    rw [hi, rngD_len]
    exact Nat.le_refl _, fun d hd => ?_⟩
  obtain ⟨h1, rfl⟩ := rngD_get hd
  refine ⟨h1, fun x H2 y => ?_⟩
  obtain ⟨rfl, rfl⟩ := y
  exact ⟨F1, Stp.refl s2, rfl⟩
theorem enumD_len (xs : List D) : (enumD xs).length = xs.length := by
  unfold enumD
  rw [List.length_zipWith, List.length_range, Nat.min_self]
theorem enumD_get {xs : List D} {i : Nat} {d : D} (h : (enumD xs)[i]? = some d) : ∃ c, xs[i]? = some c ∧ d = .tup [.int (i : Nat), c] := by
  unfold enumD at h
  rw [List.getElem?_zipWith] at h
  cases e1 : (List.range xs.length)[i]? with
  | none =>
    rw [e1] at h
    cases h
  | some j =>
    cases e2 : xs[i]? with
    | none =>
      rw [e1, e2] at h
      cases h
    | some c =>
      rw [e1, e2] at h
      obtain ⟨h3, h4⟩ := List.getElem?_eq_some_iff.mp e1
      rw [List.getElem_range] at h4
      subst h4
      exact ⟨c, rfl, (Option.some.inj h).symm⟩
theorem pair_new {F1 H1 : Hp} (s2 : Same F1 H1) {T : Addr} {x y : V} {c d : D} (hT : H1 T = none) (r1 : Rp K C F1 c x) (r2 : Rp K C F1 d y) :
    ∃ F2, Stp F1 H1 F2 (upd H1 T (.tup [x, y])) ∧ Rp K C F2 (.tup [c, d]) (.ref T) := by
  have st := Stp.new (o := .tup [x, y]) s2 hT
  exact ⟨_, st, T, [x, y], rfl, upd_same, RpL.cons (Rp.mono st.ff c x r1) (RpL.cons (Rp.mono st.ff d y r2) RpL.nil)⟩
theorem jd_enumL (h : F a = some (.lst xs)) (hl : RpL K C F ds xs) : JD K C (Ite K a) F (enumD ds) := fun i F1 H1 s1 s2 => by
  have ha : SqL K H1 a xs := SqL.of (s2 _ _ (s1 _ _ h))
  refine ⟨fun hi => ⟨xs, ha, by rw [hi, enumD_len, hl.len]; exact Nat.le_refl _⟩, fun d hd => ?_⟩
  obtain ⟨c, hc, rfl⟩ := enumD_get hd
  obtain ⟨v, hv, r⟩ := RpL.get hl hc
  refine ⟨⟨xs, v, ha, hv⟩, fun x H2 y => ?_⟩
  obtain ⟨T, x', rfl, hT, rfl, y⟩ := y
  have e := y xs ha
  rw [hv] at e
  cases e
  exact pair_new s2 hT rfl (Rp.mono s1 c _ r)
theorem jd_enumT (h : F a = some (.tup xs)) (hl : RpL K C F ds xs) : JD K C (IteT K a) F (enumD ds) := fun i F1 H1 s1 s2 => by
  have ha : SqT K H1 a xs := SqT.of (s2 _ _ (s1 _ _ h))
  refine ⟨fun hi => ⟨xs, ha, by rw [hi, enumD_len, hl.len]⟩, fun d hd => ?_⟩
  obtain ⟨c, hc, rfl⟩ := enumD_get hd
  obtain ⟨v, hv, r⟩ := RpL.get hl hc
  refine ⟨⟨xs, v, ha, hv⟩, fun x H2 y => ?_⟩
  obtain ⟨T, x', rfl, hT, rfl, y⟩ := y
  have e := y xs ha
  rw [hv] at e
  cases e
  exact pair_new s2 hT rfl (Rp.mono s1 c _ r)
end
section
variable {X : Cx} {C : Addr} {O : List Nat} {tg e e2 : Expr} {es : List Expr} {f : DF} {fs : DFs} {p pos tpos : Pos}
theorem di_seq (he : DE X C O e f) : DI X C O tg e (iSeq f) := PIw (PIor (pi_list he) (pi_tup he)) fun σ H R ⟨F, ρ, ds, E, hf, k⟩ => by
  obtain ⟨d, h1, hf1⟩ := bind_some hf
  cases d <;> first | (cases hf1; done) | skip
  · cases hf1
    refine .inr ⟨F, ρ, _, E, h1, fun v F1 H1 s1 r1 => ?_⟩
    obtain ⟨a, xs, rfl, ha, hl⟩ := r1
    exact ⟨a, rfl, ⟨xs, SqT.of (s1.fh _ _ ha)⟩, k _ F1 H1 s1 (jd_tup ha hl)⟩
  · cases hf1
    refine .inl ⟨F, ρ, _, E, h1, fun v F1 H1 s1 r1 => ?_⟩
    obtain ⟨a, xs, rfl, ha, hl⟩ := r1
    exact ⟨a, rfl, ⟨xs, SqL.of (s1.fh _ _ ha)⟩, k _ F1 H1 s1 (jd_list ha hl)⟩
theorem e62 : (2 : Int) ^ 62 = 4611686018427387904 := by decide
theorem di_rng1 (hg : Gl X "range") (hm : X.mg "range" = none) (ha : DA X C O [e] fs) (hs : starEach [e] X.env = [(false, eval e X.env)] := by rfl) : DI X C O tg (.Call (.Name "range" p) [e] [] pos) (iRng1 fs) :=
  PIw (pi_range1 hg hm ha hs) fun σ H R ⟨F, ρ, ds, E, hf, k⟩ => by
    obtain ⟨d, h1, hf1⟩ := bind_some hf
    refine ⟨F, ρ, d, E, h1, fun vs F1 H1 s1 r1 => ?_⟩
    match d, hf1, r1 with
    | [.int n], hf1, r1 =>
      simp only [opRng1] at hf1
      split at hf1
      · rename_i hz
        cases hf1
        obtain ⟨v, rfl, h⟩ := RpL.one_inv r1
        rw [Rp.int h]
        exact ⟨n, rfl, by rw [e62]; omega, by rw [e62]; omega, k _ F1 H1 s1 jd_rng⟩
      · cases hf1
variable {elts : List Expr} {kk : Nat}
theorem di_enum (hg : Gl X "enumerate") (hm : X.mg "enumerate" = none) (ha : DA X C O [e] fs) (hs : starEach [e] X.env = [(false, eval e X.env)] := by rfl) : DI X C O (.Tuple elts kk tpos) (.Call (.Name "enumerate" p) [e] [] pos) (iEn fs) :=
  PIw (PIor (pi_enum hg hm ha hs) (pi_enumT hg hm ha hs)) fun σ H R ⟨F, ρ, ds, E, hf, k⟩ => by
    obtain ⟨d, h1, hf1⟩ := bind_some hf
    match d, hf1, h1 with
    | [.tup xs], hf1, h1 =>
      cases hf1
      refine .inr ⟨F, ρ, _, E, h1, fun vs F1 H1 s1 r1 => ?_⟩
      obtain ⟨v, rfl, a, us, rfl, ha, hl⟩ := RpL.one_inv r1
      exact ⟨a, us, rfl, s1.fh _ _ ha, k _ F1 H1 s1 (jd_enumT ha hl)⟩
    | [.lst xs], hf1, h1 =>
      cases hf1
      refine .inl ⟨F, ρ, _, E, h1, fun vs F1 H1 s1 r1 => ?_⟩
      obtain ⟨v, rfl, a, us, rfl, ha, hl⟩ := RpL.one_inv r1
      exact ⟨a, us, rfl, SqL.of (s1.fh _ _ ha), k _ F1 H1 s1 (jd_enumL ha hl)⟩
end
end DL
namespace DL
open PySem PySem.Spec PyProof.Rows L2
/-- a target: what the slots hold behind it -/
abbrev DG := D → Rho → Option Rho
def gN (i : Nat) : DG := fun d ρ => some (st ρ i d)
abbrev DGs := List D → Rho → Option Rho
def gsNil : DGs := fun ds ρ => match ds with
  | [] => some ρ
  | _ => none
def gsCons (g : DG) (h : DGs) : DGs := fun ds ρ => match ds with
  | d :: r => (g d ρ).bind (h r)
  | [] => none
def gT (h : DGs) : DG := fun d ρ => (asSeq d).bind fun ds => match d with
  | .tup _ => h ds ρ
  | _ => none
/-- but at the places ws the slots are as they were -/
def Bar (ws : List Nat) (σ σ' : L2.St) : Prop := σ'.length = σ.length ∧ ∀ j, j ∉ ws → σ'[j]? = σ[j]?
/-- the lists of one's own are as they were -/
def Kp (O : List Nat) (σ σ' : L2.St) (ρ ρ' : Rho) : Prop := ∀ i ∈ O, σ'[i]? = σ[i]? ∧ lk ρ' i = lk ρ i
theorem Kp.refl {O : List Nat} {σ : L2.St} {ρ : Rho} : Kp O σ σ ρ ρ := fun _ _ => ⟨rfl, rfl⟩
theorem Kp.trans {O : List Nat} {σ σ1 σ2 : L2.St} {ρ ρ1 ρ2 : Rho} (a : Kp O σ σ1 ρ ρ1) (b : Kp O σ1 σ2 ρ1 ρ2) : Kp O σ σ2 ρ ρ2 := fun i hi => ⟨(b i hi).1.trans (a i hi).1, (b i hi).2.trans (a i hi).2⟩
def tDG (K : PySem.W.Frag) (C : Addr) (O ws : List Nat) (g : DG) : TG := fun v σ H Q => ∃ F ρ d ρ', En K C O F H σ ρ ∧ Rp K C F d v ∧ g d ρ = some ρ' ∧ ∀ σ' , En K C O F H σ' ρ' → Bar ws σ σ' → Kp O σ σ' ρ ρ' → Q σ' H
def tDGs (K : PySem.W.Frag) (C : Addr) (O ws : List Nat) (g : DGs) : TGs := fun vs σ H Q => ∃ F ρ ds ρ', En K C O F H σ ρ ∧ RpL K C F ds vs ∧ g ds ρ = some ρ' ∧ ∀ σ', En K C O F H σ' ρ' → Bar ws σ σ' → Kp O σ σ' ρ ρ' → Q σ' H
abbrev DTg (X : Cx) (C : Addr) (O ws : List Nat) (e : Expr) (g : DG) : Prop := PG X e (tDG X.K C O ws g)
abbrev DTgs (X : Cx) (C : Addr) (O ws : List Nat) (es : List Expr) (g : DGs) : Prop := PGs X es (tDGs X.K C O ws g)
theorem Bar.trans {ws vs : List Nat} {a b c : L2.St} (h : Bar ws a b) (h' : Bar vs b c) : Bar (ws ++ vs) a c :=
  ⟨h'.1.trans h.1, fun j hj => (h'.2 j fun z => hj (List.mem_append_right _ z)).trans (h.2 j fun z => hj (List.mem_append_left _ z))⟩
theorem Bar.refl {ws : List Nat} {a : L2.St} : Bar ws a a := ⟨rfl, fun _ _ => rfl⟩
theorem wipe_get (σ : L2.St) : ∀ (vs : List Nat) (j : Nat), (wipe σ vs)[j]? = if j ∈ vs ∧ j < σ.length then some none else σ[j]?
  | [], j => by
    rw [if_neg (fun z => by cases z.1)]
    rfl
  | v :: vs, j => by
    show ((wipe σ vs).set v none)[j]? = _
    by_cases hv : v = j
    · subst hv
      by_cases hl : v < σ.length
      · rw [if_pos ⟨List.mem_cons_self, hl⟩, List.getElem?_set_self (by rw [wipe_length]; exact hl)]
      · rw [if_neg (fun z => hl z.2), List.getElem?_eq_none (by rw [List.length_set, wipe_length]; omega), List.getElem?_eq_none (by omega)]
    · rw [List.getElem?_set_ne hv, wipe_get σ vs j]
      have e : (j ∈ v :: vs ∧ j < σ.length) ↔ (j ∈ vs ∧ j < σ.length) := by
        constructor
        · rintro ⟨h1, h2⟩
          exact ⟨(List.mem_cons.mp h1).elim (fun z => absurd z.symm hv) id, h2⟩
        · rintro ⟨h1, h2⟩
          exact ⟨List.mem_cons_of_mem _ h1, h2⟩
      by_cases h : j ∈ vs ∧ j < σ.length
      · rw [if_pos h, if_pos (e.mpr h)]
      · rw [if_neg h, if_neg (fun z => h (e.mp z))]
theorem wipe_bar {ws vs : List Nat} {σ σ' : L2.St} (h : Bar ws (wipe σ vs) σ') (hs : ∀ i ∈ ws, i ∈ vs) : wipe σ' vs = wipe σ vs := by
  apply List.ext_getElem?
  intro j
  have hl : σ'.length = σ.length := by rw [h.1, wipe_length]
  rw [wipe_get, wipe_get, hl]
  split
  · rfl
  · rename_i hn
    by_cases hj : j ∈ vs
    · have hjl : ¬ j < σ.length := fun z => hn ⟨hj, z⟩
      rw [List.getElem?_eq_none (by omega), List.getElem?_eq_none (by omega)]
    · rw [h.2 j fun z => hj (hs j z), wipe_get, if_neg (fun z => hj z.1)]
section
variable {X : Cx} {C : Addr} {O : List Nat} {e : Expr} {es : List Expr} {g : DG} {h : DGs} {ws vs' : List Nat} {pos : Pos}
theorem PGw {e : Expr} {t t' : TG} (h : PG X e t) (w : ∀ v σ H Q, t' v σ H Q → t v σ H Q) : PG X e t' := ⟨fun pins s σ H v u Q I r q => h.run pins s σ H v u Q I r (w v σ H Q q)⟩
theorem PGsw {e : List Expr} {t t' : TGs} (h : PGs X e t) (w : ∀ v σ H Q, t' v σ H Q → t v σ H Q) : PGs X e t' := ⟨fun pins s σ H v u Q I r q => h.run pins s σ H v u Q I r (w v σ H Q q)⟩
theorem dg_name (i : Nat) {x : Str} (hN : X.N.Nodup) (hi : X.N[i]? = some x := by rfl) (hx : Loc X.env.scope x := by first | exact Or.inl rfl | exact Or.inr rfl) (hO : i ∉ O := by decide)
    (hf : X.fn x = true ∨ X.env.scope.names.lookup x = some .local := by first | exact .inl rfl | exact .inr rfl) : DTg X C O [i] (.Name x pos) (gN i) := PGw (pg_name hN hi hx hf) fun v σ H Q ⟨F, ρ, d, ρ', E, r, hg, k⟩ => by
  cases hg
  exact k _ (E.set hO r) ⟨by rw [List.length_set], fun j hj => List.getElem?_set_ne fun z => hj (by rw [z]; exact List.mem_cons_self)⟩ fun j hj => ⟨List.getElem?_set_ne fun (z : i = j) => hO (by rw [z]; exact hj), lk_st_ne fun (z : j = i) => hO (by rw [← z]; exact hj)⟩
theorem dg_nil : DTgs X C O [] [] gsNil := PGsw pgs_nil fun vs σ H Q ⟨F, ρ, ds, ρ', E, r, hg, k⟩ => by
  cases ds with
  | nil =>
    cases hg
    exact ⟨r, k σ E Bar.refl Kp.refl⟩
  | cons _ _ => cases hg
theorem dg_cons (h1 : DTg X C O ws e g) (h2 : DTgs X C O vs' es h) (hs : (assignEach (e :: es) X.env).map (·.2) = assign e X.env :: (assignEach es X.env).map (·.2) := by rfl) : DTgs X C O (ws ++ vs') (e :: es) (gsCons g h) := PGsw (pgs_cons h1 h2 hs) fun vs σ H Q ⟨F, ρ, ds, ρ', E, r, hg, k⟩ => by
  cases ds with
  | nil => cases hg
  | cons d ds =>
    obtain ⟨ρ1, g1, g2⟩ := bind_some hg
    obtain ⟨v, vr, rfl, r1, r2⟩ := r
    exact ⟨v, vr, rfl, F, ρ, d, ρ1, E, r1, g1, fun σ1 E1 b1 k1 => ⟨F, ρ1, ds, ρ', E1, r2, g2, fun σ2 E2 b2 k2 => k σ2 E2 (b1.trans b2) (k1.trans k2)⟩⟩
theorem dg_tup {n k : Nat} (hc : X.calm = true) (h1 : DTgs X C O ws es h) (hl : ∀ ds ρ ρ', h ds ρ = some ρ' → ds.length = n) (hn : (assignEach es X.env).length = n := by rfl) (hst : (assignEach es X.env).findIdx? (·.1) = none := by rfl) :
    DTg X C O ws (.Tuple es k pos) (gT h) := PGw (pg_tup hc h1 hn hst) fun v σ H Q ⟨F, ρ, d, ρ', E, r, hg, kk⟩ => by
  obtain ⟨ds, g1, g2⟩ := bind_some hg
  cases d with
  | tup es' =>
    cases g1
    obtain ⟨a, xs, rfl, ha, hr⟩ := r
    exact ⟨a, xs, rfl, SqT.of (E.fh _ _ ha), by rw [← hr.len]; exact hl _ _ _ g2, F, ρ, _, ρ', E, hr, g2, kk⟩
  | _ => cases g2
theorem gl0 : ∀ ds ρ ρ', gsNil ds ρ = some ρ' → ds.length = 0 := fun ds ρ ρ' h => by
  cases ds with
  | nil => rfl
  | cons _ _ => cases h
theorem gl1 {n : Nat} {g : DG} {h : DGs} (hh : ∀ ds ρ ρ', h ds ρ = some ρ' → ds.length = n) : ∀ ds ρ ρ', gsCons g h ds ρ = some ρ' → ds.length = n + 1 := fun ds ρ ρ' q => by
  cases ds with
  | nil => cases q
  | cons d r =>
    obtain ⟨ρ1, _, g2⟩ := bind_some q
    rw [List.length_cons, hh _ _ _ g2]
end
def compL (g : DG) (t : DB) (e : DF) (ρ : Rho) : List D → Option (List D)
  | [] => some []
  | d :: ds => (g d ρ).bind fun ρ1 => (t ρ1).bind fun b => if b = true then (e ρ1).bind fun x => (compL g t e ρ ds).bind fun r => some (x :: r) else compL g t e ρ ds
def lstOk (ds : List D) : Option D := if ds.length ≤ 16777216 then some (.lst ds) else none
def dComp (it : DFs) (g : DG) (t : DB) (e : DF) (vs : List Nat) : DF := fun ρ => (it ρ).bind fun ds => (compL g t e (wipeR ρ vs) ds).bind lstOk
def bYes : DB := fun _ => some true
abbrev DTs (X : Cx) (C : Addr) (O : List Nat) (ifs : List Expr) (t : DB) : Prop := PTs X ifs (tDT X.K C O t)
section
variable {X : Cx} {C : Addr} {O : List Nat}
theorem PTsw {ifs : List Expr} {t t' : TT} (h : PTs X ifs t) (w : ∀ σ H Q, t' σ H Q → t σ H Q) : PTs X ifs t' := ⟨fun pins s σ H Q I q => h.run pins s σ H Q I (w σ H Q q)⟩
theorem dts_nil : DTs X C O [] bYes := PTsw pts_nil fun σ H Q ⟨F, ρ, b, E, hf, k⟩ => by
  cases hf
  exact k F H (Stp.refl E.fh)
theorem dts_one {c : Expr} {t : DB} (h : DT X C O c t) : DTs X C O [c] t := pts_one h
/-- the comprehension's loop: acc, what is made so far; rest: what is to come -/
def CW (K : PySem.W.Frag) (C : Addr) (F0 H0 : Hp) (g : DG) (t : DB) (e : DF) (ρ : Rho) (ds rs : List D) (Dl : Addr) (i m : Nat) (H : Hp) : Prop :=
  m = ds.length - i ∧ i ≤ ds.length ∧ ∃ F acc racc rest, Stp F0 H0 F H ∧ H Dl = some (.lst acc) ∧ F Dl = none ∧ RpL K C F racc acc ∧ compL g t e ρ (ds.drop i) = some rest ∧ rs = racc ++ rest
theorem comp_rd {K : PySem.W.Frag} {it : DFs} {g : DG} {t : DB} {e : DF} {ws vs : List Nat} {σ : L2.St} {H : Hp} {Q : VK} (hs : ∀ i ∈ ws, i ∈ vs) (hw : tD K C O (dComp it g t e vs) σ H Q) :
    tLc (tDI K C O it) (tDG K C O ws g) (tDT K C O t) (tD K C O e) vs σ H Q := by
  obtain ⟨F, ρ, d, E, hf, k⟩ := hw
  obtain ⟨ds, h1, hf1⟩ := bind_some hf
  obtain ⟨rs, h2, hf2⟩ := bind_some hf1
  clear hf hf1
  unfold lstOk at hf2
  split at hf2
  · rename_i hz
    cases hf2
    refine ⟨F, ρ, ds, E, h1, fun J F1 H1 s1 jd Dl hD => ?_⟩
    have E1 : En K C O F1 H1 (wipe σ vs) (wipeR ρ vs) := (E.step s1).wipe vs
    refine ⟨CW K C F1 H1 g t e (wipeR ρ vs) ds rs Dl, ⟨ds.length, rfl, Nat.zero_le _, F1, [], [], rs, Stp.own s1.fh hD, upd_same, none_of_same s1.fh hD, RpL.nil, h2, rfl⟩, fun i m H2 hW => ?_⟩
    obtain ⟨rfl, hi, F2, acc, racc, rest, s2, hH, hF, hR, hc, he⟩ := hW
    by_cases hlt : i < ds.length
    · right
      obtain ⟨_, jg⟩ := jd i F2 H2 s2.ff s2.fh
      obtain ⟨go, yl⟩ := jg ds[i] (List.getElem?_eq_getElem hlt)
      rw [List.drop_eq_getElem_cons hlt] at hc
      unfold compL at hc
      obtain ⟨ρ1, c1, hc1⟩ := bind_some hc
      obtain ⟨b, c2, hc2⟩ := bind_some hc1
      clear hc hc1
      refine ⟨go, fun H' => CW K C F1 H1 g t e (wipeR ρ vs) ds rs Dl (i + 1) (ds.length - (i + 1)) H', fun H' hN => ⟨_, by omega, hN⟩, fun x H3 y => ?_⟩
      obtain ⟨F3, s3, r3⟩ := yl x H3 y
      have s13 := s2.trans s3
      refine ⟨F3, wipeR ρ vs, ds[i], ρ1, E1.step s13, r3, c1, fun σ4 E4 bar _ => ⟨wipe_bar bar hs, F3, ρ1, b, E4, c2, fun F5 H5 s5 => ?_⟩⟩
      have s15 := s13.trans s5
      have sD := s3.trans s5
      cases b with
      | true =>
        dsimp only
        rw [if_pos rfl] at hc2 ⊢
        obtain ⟨z, c3, hc3⟩ := bind_some hc2
        obtain ⟨rest', c4, hc4⟩ := bind_some hc3
        cases hc4
        refine ⟨F5, ρ1, z, E4.step s5, c3, fun v F6 H6 s6 r6 => ?_⟩
        have s16 := s15.trans s6
        have sE := sD.trans s6
        have hlen := hR.len
        have hl2 : acc.length < 16777216 := by
          rw [he, List.length_append, List.length_cons] at hz
          omega
        refine ⟨acc, sE.hh _ _ hH, Nat.lt_of_lt_of_le hl2 (szl_ok (Nat.le_refl _)), rfl, hlt, F6, acc ++ [v], racc ++ [z], rest', ?_, upd_same, (sE.old _ _ hH).trans hF, RpL.append (RpL.mono sE.ff _ _ hR) (RpL.one r6), c4, by rw [he, List.append_assoc]; rfl⟩
        have hFn : F6 Dl = none := (sE.old _ _ hH).trans hF
        refine ⟨s16.ff, fun a o q => ?_, fun a o q => ?_, s16.old⟩
        · rw [upd_ne (ne_of_none q hD)]
          exact s16.hh a o q
        · rw [upd_ne (ne_of_none q hFn)]
          exact s16.fh a o q
      | false =>
        dsimp only
        rw [if_neg Bool.false_ne_true] at hc2 ⊢
        exact ⟨rfl, hlt, F5, acc, racc, rest, s15, sD.hh _ _ hH, (sD.old _ _ hH).trans hF, RpL.mono sD.ff _ _ hR, hc2, he⟩
    · left
      have ei : i = ds.length := by omega
      subst ei
      obtain ⟨js, _⟩ := jd ds.length F2 H2 s2.ff s2.fh
      refine ⟨js rfl, ?_⟩
      rw [List.drop_length] at hc
      cases hc
      rw [List.append_nil] at he
      subst he
      have sF : Same F2 (upd F2 Dl (.lst acc)) := same_upd hF
      refine k _ (upd F2 Dl (.lst acc)) H2 (s1.trans ⟨s2.ff.trans sF, s2.hh, fun a o q => ?_, fun a o q => ?_⟩) ⟨Dl, acc, rfl, upd_same, RpL.mono sF _ _ hR⟩
      · by_cases ha : a = Dl
        · subst ha
          rw [upd_same] at q
          rw [← q]
          exact hH
        · rw [upd_ne ha] at q
          exact s2.fh a o q
      · rw [upd_ne (ne_of_none q hD)]
        exact s2.old a o q
  · cases hf2
variable {elt tg iter : Expr} {ifs : List Expr} {scope : Scope} {pos : Pos} {it : DFs} {g : DG} {t : DB} {e : DF} {ws : List Nat}
theorem de_comp {own : List (Str × Nat)} (hc : X.calm = true) (hN : X.N.Nodup) (hi : DI X C O tg iter it) (ok : BlkOk X.N X.env.scope scope own)
    (hg : ∀ (s : Shared) (H : Hp) (D : Addr) (cl : List (Str × Addr)) (fp : List Addr), DTg (X.blk s H scope (compEnvC scope cl D X.env) fp) C O ws tg g) (ht : ∀ (s : Shared) (H : Hp) (D : Addr) (cl : List (Str × Addr)) (fp : List Addr), DTs (X.blk s H scope (compEnvC scope cl D X.env) fp) C O ifs t)
    (he : ∀ (s : Shared) (H : Hp) (D : Addr) (cl : List (Str × Addr)) (fp : List Addr), DE (X.blk s H scope (compEnvC scope cl D X.env) fp) C O elt e) (hv : ∀ i ∈ ws, i ∈ own.map (·.2) := by decide) (hs : ∀ x, foldedSetIterable iter X.env x = pure x := by intro _; rfl) :
    DE X C O (.ListComp elt [⟨tg, iter, ifs, 0⟩] scope pos) (dComp it g t e (own.map (·.2))) := PEw (pe_lc hc hN hi ok hg ht he hs) fun _ _ _ hw => comp_rd hv hw
end
end DL
namespace DL
open PySem PySem.Spec PyProof.Rows L2
inductive R where
  | nx (ρ : Rho) | rt (d : D)
abbrev DS := Rho → Option R
/-- the slots at a statement; F0, H0: as the def was entered -/
structure Sn (K : PySem.W.Frag) (C : Addr) (O : List Nat) (F0 H0 F H : Hp) (σ : L2.St) (ρ : Rho) : Prop where
  en : En K C O F H σ ρ
  sp : Stp F0 H0 F H
  nw : ∀ i d p, i ∈ O → lk ρ i = some d → σ[i]? = some (some (.ref p)) → H0 p = none
def endR (K : PySem.W.Frag) (C : Addr) (O' : List Nat) (F0 H0 F : Hp) (Z : Ends) : R → Prop
  | .nx ρ' => ∀ σ' F' H', Sn K C O' F0 H0 F' H' σ' ρ' → Same F F' → Z.nx σ' H'
  | .rt d => ∀ v F' H', Stp F0 H0 F' H' → Rp K C F' d v → Z.rt v H'
def tDS (K : PySem.W.Frag) (C : Addr) (O O' : List Nat) (f : DS) : TS := fun Z σ H => ∃ F0 H0 F ρ r, Sn K C O F0 H0 F H σ ρ ∧ f ρ = some r ∧ endR K C O' F0 H0 F Z r
abbrev DSt (X : Cx) (C : Addr) (O O' : List Nat) (s : Stmt) (f : DS) : Prop := PS X s (tDS X.K C O O' f)
abbrev DSs (X : Cx) (C : Addr) (O O' : List Nat) (s : List Stmt) (f : DS) : Prop := PSs X s (tDS X.K C O O' f)
section
variable {K : PySem.W.Frag} {C : Addr} {O O' : List Nat} {F0 H0 F H F' H' : Hp} {σ : L2.St} {ρ : Rho} {Z : Ends}
theorem endR.mono {r : R} (h : endR K C O' F0 H0 F Z r) (s : Same F F') : endR K C O' F0 H0 F' Z r := by
  cases r with
  | nx ρ' => exact fun σ' F2 H2 S sm => h σ' F2 H2 S (s.trans sm)
  | rt d => exact h
theorem Sn.step (h : Sn K C O F0 H0 F H σ ρ) (s : Stp F H F' H') : Sn K C O F0 H0 F' H' σ ρ := ⟨h.en.step s, h.sp.trans s, h.nw⟩
theorem Sn.set {i : Nat} {d : D} {v : V} (h : Sn K C O F0 H0 F H σ ρ) (hi : i ∉ O) (hv : Rp K C F d v) : Sn K C O F0 H0 F H (σ.set i (some v)) (st ρ i d) := by
  refine ⟨h.en.set hi hv, h.sp, fun j e p hj q1 q2 => ?_⟩
  have hji : j ≠ i := fun z => hi (z ▸ hj)
  rw [lk_st_ne hji] at q1
  rw [List.getElem?_set_ne (Ne.symm hji)] at q2
  exact h.nw j e p hj q1 q2
/-- the slots are another, the lists of one's own the same -/
theorem Sn.keep {σ' : L2.St} {ρ' : Rho} (h : Sn K C O F0 H0 F H σ ρ) (E : En K C O F H σ' ρ') (kp : Kp O σ σ' ρ ρ') : Sn K C O F0 H0 F H σ' ρ' := by
  refine ⟨E, h.sp, fun j e p hj q1 q2 => ?_⟩
  rw [(kp j hj).2] at q1
  rw [(kp j hj).1] at q2
  exact h.nw j e p hj q1 q2
/-- a list that nobody knows becomes one's own -/
theorem Sn.adopt {i : Nat} {p : Addr} {ds : List D} {vs : List V} (h : Sn K C O F0 H0 F H σ ρ) (hi : i ∉ O) (hH : H p = some (.lst vs)) (hF : F p = none) (h0 : H0 p = none)
    (hn : ∀ j d, j ∈ O → lk ρ j = some d → σ[j]? ≠ some (some (.ref p))) (hl : RpL K C F ds vs) : Sn K C (i :: O) F0 H0 F H (σ.set i (some (.ref p))) (st ρ i (.lst ds)) := by
  have hE := h.en
  have nlt : ∀ {d : D}, lk (st ρ i (.lst ds)) i = some d → i < σ.length := fun {d} q => by
    have := lk_lt q
    rw [st_len, ← hE.len] at this
    exact this
  refine ⟨⟨hE.fh, by rw [List.length_set, st_len]; exact hE.len, fun j e hj q => ?_, fun j e hj q => ?_, fun j k e e' p' hj hk q1 q2 q3 q4 => ?_⟩, h.sp, fun j e p' hj q1 q2 => ?_⟩
  · have hji : j ≠ i := fun z => hj (by rw [z]; exact List.mem_cons_self)
    rw [lk_st_ne hji] at q
    rw [List.getElem?_set_ne (Ne.symm hji)]
    exact hE.pl j e (fun z => hj (List.mem_cons_of_mem _ z)) q
  · by_cases hji : j = i
    · subst hji
      have e1 := lk_st_same q
      subst e1
      exact ⟨p, vs, ds, List.getElem?_set_self (nlt q), rfl, hH, hF, hl⟩
    · rw [lk_st_ne hji] at q
      rw [List.getElem?_set_ne (Ne.symm hji)]
      exact hE.ow j e ((List.mem_cons.mp hj).elim (fun z => absurd z hji) id) q
  · by_cases hji : j = i
    · by_cases hki : k = i
      · rw [hji, hki]
      · exfalso
        subst hji
        rw [lk_st_ne hki] at q2
        rw [List.getElem?_set_ne (Ne.symm hki)] at q4
        rw [List.getElem?_set_self (nlt q1)] at q3
        cases q3
        exact hn k e' ((List.mem_cons.mp hk).elim (fun z => absurd z hki) id) q2 q4
    · by_cases hki : k = i
      · exfalso
        subst hki
        rw [lk_st_ne hji] at q1
        rw [List.getElem?_set_ne (Ne.symm hji)] at q3
        rw [List.getElem?_set_self (nlt q2)] at q4
        cases q4
        exact hn j e ((List.mem_cons.mp hj).elim (fun z => absurd z hji) id) q1 q3
      · rw [lk_st_ne hji] at q1
        rw [lk_st_ne hki] at q2
        rw [List.getElem?_set_ne (Ne.symm hji)] at q3
        rw [List.getElem?_set_ne (Ne.symm hki)] at q4
        exact hE.ap j k e e' p' ((List.mem_cons.mp hj).elim (fun z => absurd z hji) id) ((List.mem_cons.mp hk).elim (fun z => absurd z hki) id) q1 q2 q3 q4
  · by_cases hji : j = i
    · subst hji
      rw [List.getElem?_set_self (nlt q1)] at q2
      cases q2
      exact h0
    · rw [lk_st_ne hji] at q1
      rw [List.getElem?_set_ne (Ne.symm hji)] at q2
      exact h.nw j e p' ((List.mem_cons.mp hj).elim (fun z => absurd z hji) id) q1 q2
/-- a list just made, known to nobody, becomes one's own -/
theorem Sn.own {i : Nat} {p : Addr} {ds : List D} {vs : List V} (h : Sn K C O F0 H0 F H σ ρ) (hi : i ∉ O) (hH : H p = none) (hl : RpL K C F ds vs) :
    Sn K C (i :: O) F0 H0 F (upd H p (.lst vs)) (σ.set i (some (.ref p))) (st ρ i (.lst ds)) := by
  refine (h.step (Stp.own h.en.fh hH)).adopt hi upd_same (none_of_same h.en.fh hH) (h.sp.hh.free hH) (fun j d hj q1 q2 => ?_) hl
  obtain ⟨p', _, _, g1, _, g3, _, _⟩ := h.en.ow j d hj q1
  rw [g1] at q2
  cases q2
  rw [hH] at g3
  cases g3
theorem Sn.mut {i : Nat} {ds ds' : List D} {vs' : List V} {p : Addr} (h : Sn K C O F0 H0 F H σ ρ) (hi : i ∈ O) (he : lk ρ i = some (.lst ds)) (hp : σ[i]? = some (some (.ref p))) (hl : RpL K C F ds' vs') :
    Sn K C O F0 H0 F (upd H p (.lst vs')) σ (st ρ i (.lst ds')) := by
  obtain ⟨p', vs, ds2, g1, g2, g3, g4, g5⟩ := h.en.ow i _ hi he
  rw [g1] at hp
  cases hp
  have h0 : H0 p = none := h.nw i _ p hi he g1
  refine ⟨h.en.mut hi he g1 g3 g4 hl, ⟨h.sp.ff, fun a o q => ?_, fun a o q => ?_, h.sp.old⟩, fun j e p' hj q1 q2 => ?_⟩
  · rw [upd_ne (ne_of_none q h0)]
    exact h.sp.hh a o q
  · rw [upd_ne (ne_of_none q g4)]
    exact h.en.fh a o q
  · by_cases hji : j = i
    · subst hji
      rw [g1] at q2
      cases q2
      exact h0
    · rw [lk_st_ne hji] at q1
      exact h.nw j e p' hj q1 q2
theorem Sn.freeze {i : Nat} (h : Sn K C O F0 H0 F H σ ρ) (hO : ∀ j, j ∈ O' ↔ j ∈ O ∧ j ≠ i) : ∃ F', Same F F' ∧ Sn K C O' F0 H0 F' H σ ρ := by
  obtain ⟨F', sm, E, ch⟩ := h.en.freeze hO
  refine ⟨F', sm, E, ⟨h.sp.ff.trans sm, h.sp.hh, E.fh, fun a o q => ?_⟩, fun j d p hj q1 q2 => h.nw j d p ((hO j).mp hj).1 q1 q2⟩
  by_cases hne : F' a = F a
  · rw [hne]
    exact h.sp.old a o q
  · obtain ⟨hi, d, e1, e2⟩ := ch a hne
    rw [h.nw i d a hi e1 e2] at q
    cases q
end
def dSeq (f g : DS) : DS := fun ρ => (f ρ).bind fun r => match r with
  | .nx ρ' => g ρ'
  | .rt d => some (.rt d)
def dNx : DS := fun ρ => some (.nx ρ)
def dRet (f : DF) : DS := fun ρ => (f ρ).bind fun d => some (.rt d)
def dSet (i : Nat) (f : DF) : DS := fun ρ => (f ρ).bind fun d => some (.nx (st ρ i d))
def dIfS (t : DB) (f g : DS) : DS := fun ρ => (t ρ).bind fun b => if b = true then f ρ else g ρ
def dAsg (g : DG) (f : DF) : DS := fun ρ => (f ρ).bind fun d => (g d ρ).bind fun ρ' => some (.nx ρ')
def forL (g : DG) (b : DS) : List D → Rho → Option R
  | [], ρ => some (.nx ρ)
  | d :: ds, ρ => (g d ρ).bind fun ρ1 => (b ρ1).bind fun r => match r with
    | .nx ρ2 => forL g b ds ρ2
    | .rt x => some (.rt x)
def dFor (it : DFs) (g : DG) (b : DS) : DS := fun ρ => (it ρ).bind fun ds => forL g b ds ρ
def whileN (t : DB) (b : DS) : Nat → Rho → Option R
  | 0, _ => none
  | n + 1, ρ => (t ρ).bind fun c => if c = true then (b ρ).bind fun r => match r with
    | .nx ρ' => whileN t b n ρ'
    | .rt d => some (.rt d) else some (.nx ρ)
def FUEL : Nat := 1000000000000000000000000000000
def dWhile (t : DB) (b : DS) : DS := fun ρ => whileN t b FUEL ρ
def dPar (i j : Nat) (f g : DF) : DS := fun ρ => (f ρ).bind fun x => (g ρ).bind fun y => some (.nx (st (st ρ i x) j y))
def asI : D → Option Int
  | .int i => some i
  | _ => none
def dAug (i : Nat) (f : DF) : DS := fun ρ => (lk ρ i).bind fun x => (asI x).bind fun a => (f ρ).bind fun y => (asI y).bind fun b => some (.nx (st ρ i (.int (a + b))))
def asL : D → Option (List D)
  | .lst xs => some xs
  | _ => none
def dApp (i : Nat) (f : DF) : DS := fun ρ => (f ρ).bind fun d => (lk ρ i).bind fun x => (asL x).bind fun ds => if ds.length < 16777216 then some (.nx (st ρ i (.lst (ds ++ [d])))) else none
def dSetIx (i : Nat) (k f : DF) : DS := fun ρ => (f ρ).bind fun d => (k ρ).bind fun j => (asI j).bind fun n => (lk ρ i).bind fun x => (asL x).bind fun ds => (ixNat ds.length n).bind fun m => some (.nx (st ρ i (.lst (ds.set m d))))
theorem asI_some {d : D} {b : Int} (h : asI d = some b) : d = .int b := by
  cases d <;> first | (cases h; rfl) | cases h
theorem asL_some {d : D} {b : List D} (h : asL d = some b) : d = .lst b := by
  cases d <;> first | (cases h; rfl) | cases h
section
variable {X : Cx} {C : Addr} {O O' O1 : List Nat} {s : Stmt} {ss : List Stmt} {f g : DS} {e a b c : Expr} {fe ge : DF} {t : DB} {pos : Pos}
theorem dss_nil : DSs X C O O [] dNx := PSsw pss_nil fun D σ H ⟨F0, H0, F, ρ, r, S, hf, k⟩ => by
  cases hf
  exact k σ F H S (Same.refl _)
theorem dss_cons (h1 : DSt X C O O1 s f) (h2 : DSs X C O1 O' ss g) : DSs X C O O' (s :: ss) (dSeq f g) := PSsw (pss_cons h1 h2) fun D σ H ⟨F0, H0, F, ρ, r, S, hf, k⟩ => by
  obtain ⟨r1, e1, e2⟩ := bind_some hf
  refine ⟨F0, H0, F, ρ, r1, S, e1, ?_⟩
  cases r1 with
  | nx ρ1 => exact fun σ1 F1 H1 S1 sm => ⟨F0, H0, F1, ρ1, r, S1, e2, k.mono sm⟩
  | rt d =>
    cases e2
    exact k
theorem dss_one (h1 : DSt X C O O' s f) : DSs X C O O' [s] f := pss_one h1
/-- ghosts: a list of one's own is frozen ahead of a statement, of a block -/
theorem ds_frz (i : Nat) (h : DSt X C O1 O' s f) (hO : ∀ j, j ∈ O1 ↔ j ∈ O ∧ j ≠ i := by intro j; simp only [List.mem_cons, List.not_mem_nil, or_false]; constructor <;> (intro h; first | omega | exact h.elim)) : DSt X C O O' s f := PSw h fun D σ H ⟨F0, H0, F, ρ, r, S, hf, k⟩ => by
  obtain ⟨F', sm, S'⟩ := S.freeze hO
  exact ⟨F0, H0, F', ρ, r, S', hf, k.mono sm⟩
theorem ds_ret (h : DE X C O e fe) : DSt X C O O (.Return (some e) pos) (dRet fe) := PSw (ps_ret h) fun D σ H ⟨F0, H0, F, ρ, r, S, hf, k⟩ => by
  obtain ⟨d, e1, e2⟩ := bind_some hf
  cases e2
  exact ⟨F, ρ, d, S.en, e1, fun v F1 H1 s1 r1 => k v F1 H1 (S.sp.trans s1) r1⟩
theorem ds_if (hc : DT X C O c t) (ha : DSs X C O O' ss f) {us : List Stmt} (hb : DSs X C O O' us g) : DSt X C O O' (.If c ss us pos) (dIfS t f g) := PSw (ps_if hc ha hb) fun D σ H ⟨F0, H0, F, ρ, r, S, hf, k⟩ => by
  obtain ⟨d, e1, e2⟩ := bind_some hf
  refine ⟨F, ρ, d, S.en, e1, fun F1 H1 s1 => ?_⟩
  cases d with
  | true =>
    rw [if_pos rfl] at e2 ⊢
    exact ⟨F0, H0, F1, ρ, r, S.step s1, e2, k.mono s1.ff⟩
  | false =>
    rw [if_neg Bool.false_ne_true] at e2 ⊢
    exact ⟨F0, H0, F1, ρ, r, S.step s1, e2, k.mono s1.ff⟩
theorem set_rd {K : PySem.W.Frag} {i : Nat} {Z : Ends} {σ : L2.St} {H : Hp} (hi : i ∉ O) (hw : tDS K C O O (dSet i fe) Z σ H) : tAsg (tD K C O fe) (gName i) Z σ H := by
  obtain ⟨F0, H0, F, ρ, r, S, hf, k⟩ := hw
  obtain ⟨d, e1, e2⟩ := bind_some hf
  cases e2
  exact ⟨F, ρ, d, S.en, e1, fun v F1 H1 s1 r1 => k _ F1 H1 ((S.step s1).set hi r1) s1.ff⟩
theorem ds_set (i : Nat) {x : Str} {pos' : Pos} (hN : X.N.Nodup) (he : DE X C O e fe) (hi : X.N[i]? = some x := by rfl) (hx : Loc X.env.scope x := by first | exact Or.inl rfl | exact Or.inr rfl) (hO : i ∉ O := by decide)
    (hs : swapsWith e (some (.Name x pos')) pos.line X.env = pure false := by rfl) (hf : X.fn x = true ∨ X.env.scope.names.lookup x = some .local := by first | exact .inl rfl | exact .inr rfl) :
    DSt X C O O (.Assign [.Name x pos'] e pos) (dSet i fe) := PSw (ps_set hN hi hx he hs hf) fun D σ H hw => set_rd hO hw
/-- any target -/
theorem ds_asg {tg : Expr} {ws : List Nat} {gg : DG} (he : DE X C O e fe) (hg : DTg X C O ws tg gg) (hs : swapsWithSole [tg] e pos.line X.env = pure false := by rfl) (hw : swappedStores [tg] e X.env = pure none := by rfl)
    (h1 : (assignEach [tg] X.env).map (·.2) = [assign tg X.env] := by rfl) : DSt X C O O (.Assign [tg] e pos) (dAsg gg fe) := PSw (ps_asg he hg hs hw h1) fun D σ H ⟨F0, H0, F, ρ, r, S, hf, k⟩ => by
  obtain ⟨d, e1, e2⟩ := bind_some hf
  obtain ⟨ρ', e3, e4⟩ := bind_some e2
  cases e4
  refine ⟨F, ρ, d, S.en, e1, fun v F1 H1 s1 r1 => ⟨F1, ρ, d, ρ', S.en.step s1, r1, e3, fun σ' E' bar kp => k σ' F1 H1 ((S.step s1).keep E' kp) s1.ff⟩⟩
theorem ds_par (i j : Nat) {x y : Str} {px py pt : Pos} {kt k2 : Nat} {pt2 : Pos} (hc : X.calm = true) (hN : X.N.Nodup) (ha : DE X C O a fe) (hb : DE X C O b ge) (hi : X.N[i]? = some x := by rfl) (hj : X.N[j]? = some y := by rfl) (hij : i ≠ j := by decide)
    (hx : X.env.scope.names.lookup x = some .local := by rfl) (hy : X.env.scope.names.lookup y = some .local := by rfl) (hO : i ∉ O := by decide) (hO2 : j ∉ O := by decide)
    (hw : swappedStores [.Tuple [.Name x px, .Name y py] kt pt] (.Tuple [a, b] k2 pt2) X.env = pure (some [x, y]) := by rfl)
    (hs : swapsWithSole [.Tuple [.Name x px, .Name y py] kt pt] (.Tuple [a, b] k2 pt2) pos.line X.env = pure false := by rfl)
    (h1 : starEach [a, b] X.env = (false, eval a X.env) :: starEach [b] X.env := by rfl) (h2 : starEach [b] X.env = (false, eval b X.env) :: starEach [] X.env := by rfl) :
    DSt X C O O (.Assign [.Tuple [.Name x px, .Name y py] kt pt] (.Tuple [a, b] k2 pt2) pos) (dPar i j fe ge) := PSw (ps_par hc hN hi hj hij hx hy (pa_cons ha (pa_cons hb pa_nil h2) h1) hw hs) fun D σ H ⟨F0, H0, F, ρ, r, S, hf, k⟩ => by
  obtain ⟨d, e1, e2⟩ := bind_some hf
  obtain ⟨d', e3, e4⟩ := bind_some e2
  cases e4
  exact ⟨F, ρ, d, S.en, e1, fun v F1 H1 s1 r1 => ⟨F1, ρ, d', S.en.step s1, e3, fun v2 F2 H2 s2 r2 => ⟨v, v2, rfl, k _ F2 H2 (((S.step (s1.trans s2)).set hO (Rp.mono s2.ff _ _ r1)).set hO2 r2) (s1.ff.trans s2.ff)⟩⟩⟩
theorem ds_while {body : List Stmt} (hp : PassesOwn (model X.prog X.w) X.A X.env X.xe) (hc : DT X C O c t) (hb : DSs X C O O body f) : DSt X C O O (.While c body [] pos) (dWhile t f) := PSw (ps_while hp hc hb) fun D σ H ⟨F0, H0, F, ρ, r, S, hf, k⟩ => by
  refine ⟨fun m σ H => ∃ F1 ρ, Sn X.K C O F0 H0 F1 H σ ρ ∧ Same F F1 ∧ whileN t f m ρ = some r, ⟨FUEL, F, ρ, S, Same.refl _, hf⟩, fun m σ1 H1 ⟨F1, ρ1, S1, sm, hw⟩ => ?_⟩
  cases m with
  | zero => cases hw
  | succ m =>
    obtain ⟨c', e1, e2⟩ := bind_some hw
    refine ⟨F1, ρ1, c', S1.en, e1, fun F2 H2 s2 => ?_⟩
    cases c' with
    | true =>
      dsimp only
      rw [if_pos rfl] at e2 ⊢
      obtain ⟨r1, e3, e4⟩ := bind_some e2
      refine ⟨fun σ H => ∃ F1 ρ, Sn X.K C O F0 H0 F1 H σ ρ ∧ Same F F1 ∧ whileN t f m ρ = some r, fun σ' H' q => ⟨m, Nat.lt_succ_self _, q⟩, F0, H0, F2, ρ1, r1, S1.step s2, e3, ?_⟩
      cases r1 with
      | nx ρ2 => exact fun σ' F' H' S' sm' => ⟨F', ρ2, S', sm.trans (s2.ff.trans sm'), e4⟩
      | rt d =>
        cases e4
        exact k
    | false =>
      dsimp only
      rw [if_neg Bool.false_ne_true] at e2 ⊢
      cases e2
      exact k σ1 F2 H2 (S1.step s2) (sm.trans s2.ff)
theorem ds_for {tg iter : Expr} {body : List Stmt} {it : DFs} {ws : List Nat} {gg : DG} (hp : PassesOwn (model X.prog X.w) X.A X.env X.xe) (hc : X.calm = true) (hi : DI X C O tg iter it) (hg : DTg X C O ws tg gg) (hb : DSs X C O O body f)
    (hs : ∀ x, foldedSetIterable iter X.env x = pure x := by intro _; rfl) : DSt X C O O (.For tg iter body [] pos) (dFor it gg f) := PSw (ps_for hp hc hi hg hb hs) fun D σ H ⟨F0, H0, F, ρ, r, S, hf, k⟩ => by
  obtain ⟨ds, e1, e2⟩ := bind_some hf
  refine ⟨F, ρ, ds, S.en, e1, fun J F1 H1 s1 jd => ?_⟩
  refine ⟨fun i m σ H => m = ds.length - i ∧ i ≤ ds.length ∧ ∃ F2 ρ, Sn X.K C O F0 H0 F2 H σ ρ ∧ Same F1 F2 ∧ forL gg f (ds.drop i) ρ = some r, ⟨ds.length, rfl, Nat.zero_le _, F1, ρ, S.step s1, Same.refl _, e2⟩, fun i m σ2 H2 ⟨em, hi, F2, ρ2, S2, sm, hw⟩ => ?_⟩
  subst em
  by_cases hlt : i < ds.length
  · right
    obtain ⟨_, jg⟩ := jd i F2 H2 sm S2.en.fh
    obtain ⟨go, yl⟩ := jg ds[i] (List.getElem?_eq_getElem hlt)
    rw [List.drop_eq_getElem_cons hlt] at hw
    unfold forL at hw
    obtain ⟨ρ3, c1, c2⟩ := bind_some hw
    obtain ⟨r3, c3, c4⟩ := bind_some c2
    refine ⟨go, fun σ H => (ds.length - (i + 1)) = ds.length - (i + 1) ∧ i + 1 ≤ ds.length ∧ ∃ F2 ρ, Sn X.K C O F0 H0 F2 H σ ρ ∧ Same F1 F2 ∧ forL gg f (ds.drop (i + 1)) ρ = some r, fun σ' H' q => ⟨_, by omega, q⟩, fun x H3 y => ?_⟩
    obtain ⟨F3, s3, r3'⟩ := yl x H3 y
    refine ⟨F3, ρ2, ds[i], ρ3, S2.en.step s3, r3', c1, fun σ4 E4 bar kp => ⟨F0, H0, F3, ρ3, r3, (S2.step s3).keep E4 kp, c3, ?_⟩⟩
    cases r3 with
    | nx ρ4 => exact fun σ' F' H' S' sm' => ⟨rfl, hlt, F', ρ4, S', sm.trans (s3.ff.trans sm'), c4⟩
    | rt d =>
      cases c4
      exact k
  · left
    have ei : i = ds.length := by omega
    subst ei
    obtain ⟨js, _⟩ := jd ds.length F2 H2 sm S2.en.fh
    rw [List.drop_length] at hw
    cases hw
    exact ⟨js rfl, k σ2 F2 H2 S2 (s1.ff.trans sm)⟩
end
end DL
namespace DL
open PySem PySem.Spec PyProof.Rows L2
/-- a new list that nobody knows yet -/
def tDN (K : PySem.W.Frag) (C : Addr) (O : List Nat) (f : DFs) : TE := fun σ H Q => ∃ F ρ ds, En K C O F H σ ρ ∧ f ρ = some ds ∧ ∀ p vs F' H1, Stp F H F' H1 → H1 p = none → RpL K C F' ds vs → Q (.ref p) (upd H1 p (.lst vs))
abbrev DN (X : Cx) (C : Addr) (O : List Nat) (e : Expr) (f : DFs) : Prop := PE X e (tDN X.K C O f)
def nLst (f : DFs) : DFs := fun ρ => (f ρ).bind fun ds => if ds.length ≤ 100000 then some ds else none
def nRep (f g : DF) : DFs := fun ρ => (f ρ).bind fun x => (asL x).bind fun ds => (g ρ).bind fun y => (asI y).bind fun k => if k ≤ 16777216 ∧ -16777216 ≤ k ∧ ds.length * k.toNat ≤ 16777216 then some (List.replicate k.toNat ds).flatten else none
def nOf (f : DF) : DFs := fun ρ => (f ρ).bind asSeq
def dSetN (i : Nat) (f : DFs) : DS := fun ρ => (f ρ).bind fun ds => some (.nx (st ρ i (.lst ds)))
def dParN1 (i j : Nat) (f : DFs) (g : DF) : DS := fun ρ => (f ρ).bind fun ds => (g ρ).bind fun y => some (.nx (st (st ρ i (.lst ds)) j y))
def dParNN (i j : Nat) (f g : DFs) : DS := fun ρ => (f ρ).bind fun ds => (g ρ).bind fun es => some (.nx (st (st ρ i (.lst ds)) j (.lst es)))
section
variable {X : Cx} {C : Addr} {O O' O1 : List Nat} {s : Stmt} {ss : List Stmt} {f g : DS} {e a b c : Expr} {es : List Expr} {fe ge : DF} {fs gs : DFs} {t : DB} {pos : Pos}
theorem dn_lst (ha : DA X C O es fs) : DN X C O (.List es pos) (nLst fs) := PEw (pe_lst ha) fun σ H Q ⟨F, ρ, t, E, hf, k⟩ => by
  obtain ⟨ds, h1, hf1⟩ := bind_some hf
  split at hf1
  · rename_i hz
    cases hf1
    exact ⟨F, ρ, _, E, h1, fun vs F1 H1 s1 r1 => ⟨by rw [← r1.len]; exact sz100 hz, fun p hp => k p vs F1 H1 s1 hp r1⟩⟩
  · cases hf1
theorem dn_of {p : Pos} (hg : Gl X "list") (hm : X.mg "list" = none) (ha : DE X C O e fe) (hs : starEach [e] X.env = (false, eval e X.env) :: starEach [] X.env := by rfl) (hpl : (backTo pos (starEach [] X.env)).any (·.1) = false := by rfl) :
    DN X C O (.Call (.Name "list" p) [e] [] pos) (nOf fe) := PEw (pe_callTy call_list_of hg hm PyProof.Rows.boot_list (pa_cons ha pa_nil hs) (by decide) (by decide) hs hpl) fun σ H Q ⟨F, ρ, t, E, hf, k⟩ => by
  obtain ⟨x, h1, hf1⟩ := bind_some hf
  refine ⟨F, ρ, x, E, h1, fun v F1 H1 s1 r1 => ?_⟩
  cases x <;> first | (cases hf1; done) | skip
  · cases hf1
    obtain ⟨p, vs, rfl, hp, hl⟩ := r1
    exact ⟨p, vs, rfl, .inr (SqT.of (s1.fh _ _ hp)), fun q hq => k q vs F1 H1 s1 hq hl⟩
  · cases hf1
    obtain ⟨p, vs, rfl, hp, hl⟩ := r1
    exact ⟨p, vs, rfl, .inl (SqL.of (s1.fh _ _ hp)), fun q hq => k q vs F1 H1 s1 hq hl⟩
theorem ds_setN (i : Nat) {x : Str} {pos' : Pos} (hN : X.N.Nodup) (he : DN X C O e fs) (hi : X.N[i]? = some x := by rfl) (hx : Loc X.env.scope x := by first | exact Or.inl rfl | exact Or.inr rfl) (hO : i ∉ O := by decide)
    (hs : swapsWith e (some (.Name x pos')) pos.line X.env = pure false := by rfl) (hf : X.fn x = true ∨ X.env.scope.names.lookup x = some .local := by first | exact .inl rfl | exact .inr rfl) :
    DSt X C O (i :: O) (.Assign [.Name x pos'] e pos) (dSetN i fs) := PSw (ps_set hN hi hx he hs hf) fun Z σ H ⟨F0, H0, F, ρ, r, S, hf, k⟩ => by
  obtain ⟨ds, e1, e2⟩ := bind_some hf
  cases e2
  exact ⟨F, ρ, ds, S.en, e1, fun p vs F1 H1 s1 hp r1 => k _ F1 _ ((S.step s1).own hO hp r1) s1.ff⟩
/-- x.append(e) -/
theorem ds_app (i : Nat) {x : Str} {p1 p2 p3 : Pos} (he : DE X C O e fe) (hi : X.N[i]? = some x := by rfl) (hv : Vis X.env.scope x := by first | exact Or.inl rfl | exact Or.inr (Or.inl rfl) | exact Or.inr (Or.inr rfl)) (hO : i ∈ O := by decide)
    (hd : (x == ("__debug__" : Str)) = false := by decide) (hcd : (x == ("__classdict__" : Str)) = false := by decide)
    (hbase : attributeBase (.Name x p1) "append" X.env (eval (.Name x p1) X.env) = eval (.Name x p1) X.env := by rfl)
    (hfew : ((backTo p3 (starEach [e] X.env)).all (fun x => !x.1) && (backToKw p3 (keywordEach [] X.env)).all (fun x => x.1.isSome)
      && decide ([e].length + ([] : List Keyword).length + (if ([] : List Keyword).isEmpty then 0 else 1) < 30)) = true := by rfl)
    (hline : (p2.endLine == p3.line) = true := by rfl) (hs : starEach [e] X.env = (false, eval e X.env) :: starEach [] X.env := by rfl) (hplain : (backTo p3 (starEach [] X.env)).any (·.1) = false := by rfl)
    (hsw : swapsWith (.Call (.Attribute (.Name x p1) "append" p2) [e] [] p3) none pos.line X.env = pure false := by rfl) :
    DSt X C O O (.Expr (.Call (.Attribute (.Name x p1) "append" p2) [e] [] p3) pos) (dApp i fe) :=
  PSw (ps_expr (pe_bm PySem.F.plainAttrs_list PySem.F.slot_list_append PySem.F.type_list_append mt_append (pe_var hi hv hd hcd) (pa_cons he pa_nil hs) hbase hfew hline hs hplain) hsw) fun Z σ H ⟨F0, H0, F, ρ, r, S, hf, k⟩ => by
    obtain ⟨d, e1, e2⟩ := bind_some hf
    obtain ⟨y, e3, e4⟩ := bind_some e2
    obtain ⟨ds, e5, e6⟩ := bind_some e4
    obtain rfl := asL_some e5
    split at e6
    · rename_i hz
      cases e6
      obtain ⟨p, vs, ds2, g1, g2, g3, g4, g5⟩ := S.en.ow i _ hO e3
      cases g2
      refine ⟨.ref p, g1, .inl ⟨rfl, vs, SqL.of g3⟩, F, ρ, d, S.en, e1, fun v F1 H1 s1 r1 => ?_⟩
      have S1 := S.step s1
      have hl : RpL X.K C F1 (ds ++ [d]) (vs ++ [v]) := RpL.append (RpL.mono s1.ff _ _ g5) (RpL.one r1)
      exact ⟨p, vs, v, rfl, rfl, s1.hh _ _ g3, Nat.lt_of_lt_of_le (by rw [← g5.len]; exact hz) (szl_ok (Nat.le_refl _)), k σ F1 _ (S1.mut hO e3 g1 hl) s1.ff⟩
    · cases e6
/-- a, b = e1, e2: lists of one's own on the right -/
theorem par_rd1 {K : PySem.W.Frag} {F0 H0 F H F1 H1 F2 H2 : Hp} {σ : L2.St} {ρ : Rho} {i j : Nat} {p : Addr} {ds : List D} {vs : List V} {d : D} {v : V} (S : Sn K C O F0 H0 F H σ ρ) (s1 : Stp F H F1 H1) (hp : H1 p = none) (r1 : RpL K C F1 ds vs) (s2 : Stp F1 (upd H1 p (.lst vs)) F2 H2)
    (r2 : Rp K C F2 d v) (hi : i ∉ O) (hj : j ∉ O) (hij : i ≠ j) : Sn K C (i :: O) F0 H0 F2 H2 ((σ.set i (some (.ref p))).set j (some v)) (st (st ρ i (.lst ds)) j d) := by
  have S1 := (S.step s1).own (i := i) hi hp r1
  refine (S1.step s2).set (fun z => ?_) r2
  rcases List.mem_cons.mp z with z | z
  · exact hij z.symm
  · exact hj z
theorem ds_parN1 (i j : Nat) {x y : Str} {px py pt : Pos} {kt k2 : Nat} {pt2 : Pos} (hc : X.calm = true) (hN : X.N.Nodup) (ha : DN X C O a fs) (hb : DE X C O b ge) (hi : X.N[i]? = some x := by rfl) (hj : X.N[j]? = some y := by rfl) (hij : i ≠ j := by decide)
    (hx : X.env.scope.names.lookup x = some .local := by rfl) (hy : X.env.scope.names.lookup y = some .local := by rfl) (hO : i ∉ O := by decide) (hO2 : j ∉ O := by decide)
    (hw : swappedStores [.Tuple [.Name x px, .Name y py] kt pt] (.Tuple [a, b] k2 pt2) X.env = pure (some [x, y]) := by rfl)
    (hs : swapsWithSole [.Tuple [.Name x px, .Name y py] kt pt] (.Tuple [a, b] k2 pt2) pos.line X.env = pure false := by rfl)
    (h1 : starEach [a, b] X.env = (false, eval a X.env) :: starEach [b] X.env := by rfl) (h2 : starEach [b] X.env = (false, eval b X.env) :: starEach [] X.env := by rfl) :
    DSt X C O (i :: O) (.Assign [.Tuple [.Name x px, .Name y py] kt pt] (.Tuple [a, b] k2 pt2) pos) (dParN1 i j fs ge) := PSw (ps_par hc hN hi hj hij hx hy (pa_cons ha (pa_cons hb pa_nil h2) h1) hw hs) fun Z σ H ⟨F0, H0, F, ρ, r, S, hf, k⟩ => by
  obtain ⟨ds, e1, e2⟩ := bind_some hf
  obtain ⟨d', e3, e4⟩ := bind_some e2
  cases e4
  exact ⟨F, ρ, ds, S.en, e1, fun p vs F1 H1 s1 hp r1 => ⟨F1, ρ, d', S.en.step (s1.trans (Stp.own s1.fh hp)), e3, fun v2 F2 H2 s2 r2 => ⟨.ref p, v2, rfl, k _ F2 H2 (par_rd1 S s1 hp r1 s2 r2 hO hO2 hij) (s1.ff.trans s2.ff)⟩⟩⟩
/-- y = [..] on one line -/
theorem ds_setLc (i : Nat) {y : Str} {py : Pos} {elt tg iter : Expr} {ifs : List Expr} {scope : Scope} {own : List (Str × Nat)} {pos spos : Pos} {it : DFs} {gg : DG} {tt : DB} {ee : DF} {ws : List Nat} (hc : X.calm = true) (hN : X.N.Nodup)
    (hi : DI X C O tg iter it) (ok : BlkOk X.N X.env.scope scope own)
    (hg : ∀ (s : Shared) (H : Hp) (D : Addr) (cl : List (Str × Addr)) (fp : List Addr), DTg (X.blk s H scope (compEnvC scope cl D X.env) fp) C O ws tg gg) (ht : ∀ (s : Shared) (H : Hp) (D : Addr) (cl : List (Str × Addr)) (fp : List Addr), DTs (X.blk s H scope (compEnvC scope cl D X.env) fp) C O ifs tt)
    (he : ∀ (s : Shared) (H : Hp) (D : Addr) (cl : List (Str × Addr)) (fp : List Addr), DE (X.blk s H scope (compEnvC scope cl D X.env) fp) C O elt ee)
    (hy : X.N[i]? = some y := by rfl) (hyl : X.env.scope.names.lookup y = some .local := by rfl)
    (hsw : swapsWith (.ListComp elt [⟨tg, iter, ifs, 0⟩] scope pos) (some (.Name y py)) spos.line X.env = pure true := by exact sw_true rfl rfl rfl (by decide +kernel)) (hO : i ∉ O := by decide)
    (hv : ∀ i ∈ ws, i ∈ own.map (·.2) := by decide) (hs : ∀ x, foldedSetIterable iter X.env x = pure x := by intro _; rfl) :
    DSt X C O O (.Assign [.Name y py] (.ListComp elt [⟨tg, iter, ifs, 0⟩] scope pos) spos) (dSet i (dComp it gg tt ee (own.map (·.2)))) := PSw (ps_setLc hc hN hy hyl hsw hi ok hg ht he hs) fun Z σ H hw => by
  obtain ⟨F0, H0, F, ρ, r, S, hf, k⟩ := hw
  obtain ⟨d, e1, e2⟩ := bind_some hf
  cases e2
  exact comp_rd hv ⟨F, ρ, d, S.en, e1, fun v F1 H1 s1 r1 => k _ F1 H1 ((S.step s1).set hO r1) s1.ff⟩
end
def runD (n a : Nat) (f : DS) : List D → Option D := fun ds => if ds.length = a then (f (ds.map some ++ List.replicate (n - a) none)).bind fun r => match r with
  | .rt d => some d
  | .nx _ => some .non else none
theorem lk_app : ∀ {ds : List D} {r : Nat} {i : Nat} {d : D}, lk (ds.map some ++ List.replicate r none) i = some d → ds[i]? = some d
  | [], r, i, d, h => by
    exfalso
    have z : ∀ (r i : Nat), lk (List.replicate r none) i = none := by
      intro r
      induction r with
      | zero => intro i; rfl
      | succ r ih =>
        intro i
        cases i with
        | zero => rfl
        | succ i => exact ih i
    have h' : lk (List.replicate r none) i = some d := h
    rw [z] at h'
    cases h'
  | x :: ds, r, 0, d, h => h
  | x :: ds, r, i + 1, d, h => by
    rw [List.getElem?_cons_succ]
    exact lk_app (ds := ds) h
theorem start_get : ∀ {vs : List V} {r : List (Option V)} {i : Nat} {v : V}, vs[i]? = some v → (vs.map some ++ r)[i]? = some (some v)
  | [], r, i, v, h => by simp at h
  | x :: vs, r, 0, v, h => by
    have e : x = v := by simpa using h
    subst e
    rfl
  | x :: vs, r, i + 1, v, h => by
    rw [List.getElem?_cons_succ] at h
    show ((some x :: (vs.map some ++ r)))[i + 1]? = _
    rw [List.getElem?_cons_succ]
    exact start_get h
section
variable {P : Program} {w : World} {K : PySem.W.Frag} {mg : Str → Option Value} {base : Heap} {C : Addr}
/-- THE RULE for a pure def -/
theorem fnD {x qual : Str} {st : Stmt} {f : Addr} {fd : FuncData} {N ps : List Str} {k : Nat} {O' : List Nat} {body : DS} (F : Fun K x qual st f fd) (S : FnScope N ps (defScope st)) (hl : ps.length ≤ N.length)
    (h : ∀ (cdv : Value) (A : Around) (outer : List Env) (s : Shared) (H : Hp) (E : XK), Room k (A.deeper (envOfC qual (defScope st) s.heap.objs.size f cdv)) → DSs ((cxOf CX0 P w K mg base N qual (defScope st) f cdv A outer s H E).nox) C [] O' (defBody st) body) :
    FnOk P w K mg base CX0 (k + 1) f fd ps (spD K C (runD N.length ps.length body)) := by
  have ln : ∀ vs H Q E, spD K C (runD N.length ps.length body) vs H Q E → vs.length = ps.length := fun vs H Q E ⟨F, ds, d, fh, r, hm, _⟩ => by
    unfold runD at hm
    split at hm
    · rename_i hz
      rw [← r.len]
      exact hz
    · cases hm
  refine F.ok S ln fun cdv A outer s H vs Q E hr hsp => ⟨_, h cdv A outer s H E hr, ?_⟩
  have lv := ln vs H Q E hsp
  obtain ⟨F1, ds, d, fh, r, hm, g⟩ := hsp
  unfold runD at hm
  split at hm
  · rename_i hz
    obtain ⟨r1, e1, e2⟩ := bind_some hm
    refine ⟨F1, H, F1, _, r1, ⟨⟨fh, ?_, fun i d hi q => ?_, fun i d hi _ => absurd hi (List.not_mem_nil), fun i j d e p hi _ _ _ _ _ => absurd hi (List.not_mem_nil)⟩, Stp.refl fh, fun i d p hi _ _ => absurd hi (List.not_mem_nil)⟩, e1, ?_⟩
    · unfold L2.start
      rw [List.length_append, List.length_append, List.length_map, List.length_map, List.length_replicate, List.length_replicate, lv, hz]
    · have q1 := lk_app q
      obtain ⟨v, h1, h2⟩ := RpL.get r q1
      exact ⟨v, start_get h1, h2⟩
    · cases r1 with
      | nx ρ' =>
        cases e2
        exact fun σ' F' H' S' _ => g .non F' H' S'.sp rfl
      | rt d' =>
        cases e2
        exact fun v F' H' s' r' => g v F' H' s' r'
  · cases hm
end
end DL
namespace DL
open PySem PySem.Spec PyProof.Rows L2
theorem hu65 {k : Nat} {A : Around} (hr : Room k A) : A.units + 65 < cLine := by have := hr.un; omega
theorem bt_len : bootBuiltins "len" = some (.builtin "len") := by decide +kernel
theorem bt_all : bootBuiltins "all" = some (.builtin "all") := by decide +kernel
theorem bt_min : bootBuiltins "min" = some (.builtin "min") := by decide +kernel
theorem bt_tuple : bootBuiltins "tuple" = some (.type "tuple") := by decide +kernel
section
variable {X : Cx} {C : Addr}
variable {elt tg iter tg1 iter1 : Expr} {ifs1 : List Expr} {scope : Scope} {pos : Pos} {it it2 : DFs} {g g2 : DG} {t : DB} {e : DF} {ws ws1 : List Nat}
def RetOnly (f : DS) : Prop := ∀ ρ ρ', f ρ ≠ some (.nx ρ')
theorem ro_ret {f : DF} : RetOnly (dRet f) := fun ρ ρ' h => by
  obtain ⟨d, _, e⟩ := bind_some h
  cases e
theorem ro_seq {f h : DS} (r : RetOnly h) : RetOnly (dSeq f h) := fun ρ ρ' q => by
  obtain ⟨x, _, e⟩ := bind_some q
  cases x with
  | nx ρ1 => exact r ρ1 ρ' e
  | rt d => cases e
end
end DL
namespace DL
open PySem PySem.Spec PyProof.Rows L2
def isSc : D → Bool
  | .non => true
  | .bl _ => true
  | .int _ => true
  | .str _ => true
  | _ => false
theorem Rp.sc {K : PySem.W.Frag} {C : Addr} {F F' : Hp} {d : D} {v : V} (h : Rp K C F d v) (s : isSc d = true) : Rp K C F' d v := by
  cases d <;> first | exact h | cases s
theorem RpL.ofGet {K : PySem.W.Frag} {C : Addr} {F : Hp} : ∀ {ds : List D} {vs : List V}, ds.length = vs.length → (∀ (j : Nat) (d : D) (v : V), ds[j]? = some d → vs[j]? = some v → Rp K C F d v) → RpL K C F ds vs
  | [], vs, hl, _ => List.eq_nil_of_length_eq_zero hl.symm
  | d :: ds, vs, hl, h => by
    cases vs with
    | nil => cases hl
    | cons v vs => exact RpL.cons (h 0 d v rfl rfl) (RpL.ofGet (by simpa using hl) fun j d' v' h1 h2 => h (j + 1) d' v' (by simpa using h1) (by simpa using h2))
structure Nst (K : PySem.W.Frag) (C : Addr) (H0 F H : Hp) (p : Addr) (qs : List Addr) (dss : List (List D)) : Prop where
  hp : H p = some (.lst (qs.map V.ref))
  fp : F p = none
  h0 : H0 p = none
  ln : qs.length = dss.length
  at_ : ∀ (j : Nat) (q : Addr) (ds : List D), qs[j]? = some q → dss[j]? = some ds → ∃ vs, H q = some (.lst vs) ∧ F q = none ∧ H0 q = none ∧ RpL K C F ds vs
  nd : ∀ (j k : Nat) (q : Addr), qs[j]? = some q → qs[k]? = some q → j = k
  np : p ∉ qs
structure Sn2 (K : PySem.W.Frag) (C : Addr) (i : Nat) (F0 H0 F H : Hp) (σ : L2.St) (ρ : Rho) : Prop where
  en : En K C [] F H σ (un ρ i)
  sp : Stp F0 H0 F H
  ns : ∃ p qs dss, lk ρ i = some (.lst (dss.map D.lst)) ∧ σ[i]? = some (some (.ref p)) ∧ Nst K C H0 F H p qs dss
section
variable {K : PySem.W.Frag} {C : Addr} {i : Nat} {F0 H0 F H F' H' : Hp} {σ : L2.St} {ρ : Rho}
/-- all is frozen -/
theorem Sn2.freeze (S : Sn2 K C i F0 H0 F H σ ρ) : ∃ F', Same F F' ∧ Sn K C [] F0 H0 F' H σ ρ := by
  obtain ⟨p, qs, dss, e1, e2, N⟩ := S.ns
  have memq : ∀ {q : Addr}, q ∈ qs → ∃ vs ds j, qs[j]? = some q ∧ dss[j]? = some ds ∧ H q = some (.lst vs) ∧ F q = none ∧ H0 q = none ∧ RpL K C F ds vs := fun {q} hq => by
    obtain ⟨j, hj, rfl⟩ := List.getElem_of_mem hq
    have hj2 : j < dss.length := by rw [← N.ln]; exact hj
    obtain ⟨vs, h1, h2, h3, h4⟩ := N.at_ j qs[j] dss[j] (List.getElem?_eq_getElem hj) (List.getElem?_eq_getElem hj2)
    exact ⟨vs, dss[j], j, List.getElem?_eq_getElem hj, List.getElem?_eq_getElem hj2, h1, h2, h3, h4⟩
  let G : Hp := fun a => if a = p ∨ a ∈ qs then H a else F a
  have gin : ∀ {a}, (a = p ∨ a ∈ qs) → G a = H a := fun {a} h => if_pos h
  have gout : ∀ {a}, ¬ (a = p ∨ a ∈ qs) → G a = F a := fun {a} h => if_neg h
  have fin : ∀ {a}, (a = p ∨ a ∈ qs) → F a = none := fun {a} h => by
    rcases h with rfl | h
    · exact N.fp
    · obtain ⟨_, _, _, _, _, _, hf, _⟩ := memq h
      exact hf
  have hin : ∀ {a}, (a = p ∨ a ∈ qs) → H0 a = none := fun {a} h => by
    rcases h with rfl | h
    · exact N.h0
    · obtain ⟨_, _, _, _, _, _, _, hf, _⟩ := memq h
      exact hf
  have sm : Same F G := fun a o e => by
    have hn : ¬ (a = p ∨ a ∈ qs) := fun h => by rw [fin h] at e; cases e
    rw [gout hn]
    exact e
  have gh : Same G H := fun a o e => by
    by_cases h : a = p ∨ a ∈ qs
    · rw [gin h] at e
      exact e
    · rw [gout h] at e
      exact S.en.fh a o e
  refine ⟨G, sm, ⟨gh, ?_, fun j d hj q => ?_, fun j d hj => absurd hj List.not_mem_nil, fun j k d e p hj => absurd hj List.not_mem_nil⟩, ⟨S.sp.ff.trans sm, S.sp.hh, gh, fun a o e => ?_⟩, fun j d p hj => absurd hj List.not_mem_nil⟩
  · rw [S.en.len, un_len]
  · by_cases hji : j = i
    · subst hji
      rw [e1] at q
      cases q
      refine ⟨.ref p, e2, p, _, rfl, (gin (.inl rfl)).trans N.hp, RpL.ofGet (by rw [List.length_map, List.length_map, N.ln]) fun j d v h1 h2 => ?_⟩
      rw [List.getElem?_map] at h1 h2
      obtain ⟨ds, g1, rfl⟩ := Option.map_eq_some_iff.mp h1
      obtain ⟨q, g2, rfl⟩ := Option.map_eq_some_iff.mp h2
      obtain ⟨vs, g3, g4, g5, g6⟩ := N.at_ j q ds g2 g1
      exact ⟨q, vs, rfl, (gin (.inr (List.mem_of_getElem? g2))).trans g3, RpL.mono sm _ _ g6⟩
    · have q' : lk (un ρ i) j = some d := by rw [lk_un_ne hji]; exact q
      obtain ⟨v, h1, h2⟩ := S.en.pl j d List.not_mem_nil q'
      exact ⟨v, h1, Rp.mono sm _ _ h2⟩
  · have hn : ¬ (a = p ∨ a ∈ qs) := fun h => by rw [hin h] at e; cases e
    rw [gout hn]
    exact S.sp.old a o e
/-- what was evaluated meanwhile leaves it as it is -/
theorem Sn2.step (S : Sn2 K C i F0 H0 F H σ ρ) (hh : Same H H') : Sn2 K C i F0 H0 F H' σ ρ := by
  obtain ⟨p, qs, dss, e1, e2, N⟩ := S.ns
  have st : Stp F H F H' := ⟨Same.refl _, hh, S.en.fh.trans hh, fun _ _ _ => rfl⟩
  refine ⟨S.en.step st, S.sp.trans st, p, qs, dss, e1, e2, ⟨hh _ _ N.hp, N.fp, N.h0, N.ln, fun j q ds h1 h2 => ?_, N.nd, N.np⟩⟩
  obtain ⟨vs, g1, g2⟩ := N.at_ j q ds h1 h2
  exact ⟨vs, hh _ _ g1, g2⟩
theorem un_st_ne : ∀ {ρ : Rho} {i j : Nat} {d : D}, j ≠ i → un (st ρ j d) i = st (un ρ i) j d
  | [], _, _, _, _ => rfl
  | _ :: _, 0, 0, _, h => absurd rfl h
  | _ :: _, 0, j + 1, _, _ => rfl
  | _ :: _, i + 1, 0, _, _ => rfl
  | x :: r, i + 1, j + 1, d, h => by
    show x :: un (st r j d) i = x :: st (un r i) j d
    rw [un_st_ne fun z => h (by rw [z])]
theorem un_st_same : ∀ {ρ : Rho} {i : Nat} {d : D}, un (st ρ i d) i = un ρ i
  | [], _, _ => rfl
  | _ :: _, 0, _ => rfl
  | x :: r, i + 1, d => by
    show x :: un (st r i d) i = x :: un r i
    rw [un_st_same]
theorem lk_st_eq : ∀ {ρ : Rho} {i : Nat} {d : D}, i < ρ.length → lk (st ρ i d) i = some d
  | [], _, _, h => by cases h
  | _ :: _, 0, _, _ => rfl
  | x :: r, i + 1, d, h => lk_st_eq (ρ := r) (i := i) (by simpa using h)
/-- a scalar is stored -/
theorem Sn2.set {j : Nat} {d : D} {v : V} (S : Sn2 K C i F0 H0 F H σ ρ) (hj : j ≠ i) (r : Rp K C F d v) : Sn2 K C i F0 H0 F H (σ.set j (some v)) (st ρ j d) := by
  obtain ⟨p, qs, dss, e1, e2, N⟩ := S.ns
  refine ⟨?_, S.sp, p, qs, dss, ?_, ?_, N⟩
  · rw [un_st_ne hj]
    exact S.en.set List.not_mem_nil r
  · rw [lk_st_ne (Ne.symm hj)]
    exact e1
  · rw [List.getElem?_set_ne hj]
    exact e2
/-- a scalar is stored within -/
theorem Sn2.put {d : D} {v : V} {p : Addr} {qs : List Addr} {dss : List (List D)} {m1 m2 : Nat} {q : Addr} {ys : List D} {vs : List V} (S : Sn2 K C i F0 H0 F H σ ρ) (e1 : lk ρ i = some (.lst (dss.map D.lst))) (e2 : σ[i]? = some (some (.ref p))) (N : Nst K C H0 F H p qs dss) (r : Rp K C F d v)
    (h1 : qs[m1]? = some q) (h2 : dss[m1]? = some ys) (hq : H q = some (.lst vs)) : Sn2 K C i F0 H0 F (upd H q (.lst (vs.set m2 v))) σ (st ρ i (.lst ((dss.set m1 (ys.set m2 d)).map D.lst))) := by
  obtain ⟨vs', g1, g2, g3, g4⟩ := N.at_ m1 q ys h1 h2
  rw [hq] at g1
  cases g1
  have qp : p ≠ q := fun z => N.np (z ▸ List.mem_of_getElem? h1)
  have hi := lk_lt e1
  refine ⟨?_, ⟨S.sp.ff, fun a o e => ?_, fun a o e => ?_, S.sp.old⟩, p, qs, dss.set m1 (ys.set m2 d), lk_st_eq hi, e2, ⟨?_, N.fp, N.h0, by rw [List.length_set, N.ln], fun j q' ds k1 k2 => ?_, N.nd, N.np⟩⟩
  · rw [un_st_same]
    refine ⟨fun b o e => ?_, S.en.len, S.en.pl, fun j d hj => absurd hj List.not_mem_nil, fun j k d e p hj => absurd hj List.not_mem_nil⟩
    rw [upd_ne (ne_of_none e g2)]
    exact S.en.fh b o e
  · rw [upd_ne (ne_of_none e g3)]
    exact S.sp.hh a o e
  · rw [upd_ne (ne_of_none e g2)]
    exact S.en.fh a o e
  · rw [upd_ne qp]
    exact N.hp
  · by_cases hj : j = m1
    · subst hj
      rw [h1] at k1
      cases k1
      have hlt : j < dss.length := (List.getElem?_eq_some_iff.mp h2).1
      rw [List.getElem?_set_self hlt] at k2
      cases k2
      exact ⟨_, upd_same, g2, g3, RpL.set m2 g4 r⟩
    · rw [List.getElem?_set_ne (Ne.symm hj)] at k2
      obtain ⟨us, f1, f2, f3, f4⟩ := N.at_ j q' ds k1 k2
      have hne : q' ≠ q := fun z => hj (N.nd j m1 q (z ▸ k1) h1)
      exact ⟨us, by rw [upd_ne hne]; exact f1, f2, f3, f4⟩
end
def endR2 (K : PySem.W.Frag) (C : Addr) (i : Nat) (F0 H0 F : Hp) (Z : Ends) : R → Prop
  | .nx ρ' => ∀ σ' F' H', Sn2 K C i F0 H0 F' H' σ' ρ' → Same F F' → Z.nx σ' H'
  | .rt d => ∀ v F' H', Stp F0 H0 F' H' → Rp K C F' d v → Z.rt v H'
def tDS2 (K : PySem.W.Frag) (C : Addr) (i : Nat) (f : DS) : TS := fun Z σ H => ∃ F0 H0 F ρ r, Sn2 K C i F0 H0 F H σ ρ ∧ f ρ = some r ∧ endR2 K C i F0 H0 F Z r
abbrev DSt2 (X : Cx) (C : Addr) (i : Nat) (s : Stmt) (f : DS) : Prop := PS X s (tDS2 X.K C i f)
abbrev DSs2 (X : Cx) (C : Addr) (i : Nat) (s : List Stmt) (f : DS) : Prop := PSs X s (tDS2 X.K C i f)
theorem endR2.mono {K : PySem.W.Frag} {C : Addr} {i : Nat} {F0 H0 F F' : Hp} {Z : Ends} {r : R} (h : endR2 K C i F0 H0 F Z r) (s : Same F F') : endR2 K C i F0 H0 F' Z r := by
  cases r with
  | nx ρ' => exact fun σ' F2 H2 S sm => h σ' F2 H2 S (s.trans sm)
  | rt d => exact h
def scD (f : DF) : DF := fun ρ => (f ρ).bind fun d => if isSc d = true then some d else none
def dSetIx2 (i : Nat) (a b f : DF) : DS := fun ρ => (scD f ρ).bind fun d => (a ρ).bind fun ja => (asI ja).bind fun na => (b ρ).bind fun jb => (asI jb).bind fun nb => (lk ρ i).bind fun x => (asL x).bind fun xs =>
  (ixNat xs.length na).bind fun m1 => (xs[m1]?).bind fun y => (asL y).bind fun ys => (ixNat ys.length nb).bind fun m2 => some (.nx (st ρ i (.lst (xs.set m1 (.lst (ys.set m2 d))))))
section
variable {X : Cx} {C : Addr} {i : Nat} {s : Stmt} {ss us : List Stmt} {f g : DS} {e a b c : Expr} {fe ge he : DF} {t : DB} {pos : Pos}
theorem dss2_nil : DSs2 X C i [] dNx := PSsw pss_nil fun Z σ H ⟨F0, H0, F, ρ, r, S, hf, k⟩ => by
  cases hf
  exact k σ F H S (Same.refl _)
theorem dss2_cons (h1 : DSt2 X C i s f) (h2 : DSs2 X C i ss g) : DSs2 X C i (s :: ss) (dSeq f g) := PSsw (pss_cons h1 h2) fun Z σ H ⟨F0, H0, F, ρ, r, S, hf, k⟩ => by
  obtain ⟨r1, e1, e2⟩ := bind_some hf
  refine ⟨F0, H0, F, ρ, r1, S, e1, ?_⟩
  cases r1 with
  | nx ρ1 => exact fun σ1 F1 H1 S1 sm => ⟨F0, H0, F1, ρ1, r, S1, e2, k.mono sm⟩
  | rt d =>
    cases e2
    exact k
theorem dss2_one (h1 : DSt2 X C i s f) : DSs2 X C i [s] f := pss_one h1
/-- the way back: all frozen, a block that returns -/
theorem dss2_end {O' : List Nat} (hr : RetOnly f) (h : DSs X C [] O' ss f) : DSs2 X C i ss f := PSsw h fun Z σ H ⟨F0, H0, F, ρ, r, S, hf, k⟩ => by
  obtain ⟨F', sm, S'⟩ := S.freeze
  refine ⟨F0, H0, F', ρ, r, S', hf, ?_⟩
  cases r with
  | nx ρ' => exact absurd hf (hr ρ ρ')
  | rt d => exact k
/-- the way in -/
theorem dss2_in {O' : List Nat} (hr : RetOnly g) (h1 : PS X s fun Z σ H => ∃ F0 H0 F ρ r, Sn X.K C [] F0 H0 F H σ ρ ∧ f ρ = some r ∧ endR2 X.K C i F0 H0 F Z r) (h2 : DSs2 X C i ss g) : DSs X C [] O' (s :: ss) (dSeq f g) := PSsw (pss_cons h1 h2) fun Z σ H ⟨F0, H0, F, ρ, r, S, hf, k⟩ => by
  obtain ⟨r1, e1, e2⟩ := bind_some hf
  refine ⟨F0, H0, F, ρ, r1, S, e1, ?_⟩
  cases r1 with
  | nx ρ1 =>
    refine fun σ1 F1 H1 S1 sm => ⟨F0, H0, F1, ρ1, r, S1, e2, ?_⟩
    cases r with
    | nx ρ' => exact absurd e2 (hr ρ1 ρ')
    | rt d => exact k
  | rt d =>
    cases e2
    exact k
theorem ds2_if (hc : DT X C [] c t) (ha : DSs2 X C i ss f) (hb : DSs2 X C i us g) : DSt2 X C i (.If c ss us pos) (dIfS t f g) := PSw (ps_if hc ha hb) fun Z σ H ⟨F0, H0, F, ρ, r, S, hf, k⟩ => by
  obtain ⟨d, e1, e2⟩ := bind_some hf
  obtain ⟨F', sm, S'⟩ := S.freeze
  refine ⟨F', ρ, d, S'.en, e1, fun F1 H1 s1 => ?_⟩
  cases d with
  | true =>
    rw [if_pos rfl] at e2 ⊢
    exact ⟨F0, H0, F, ρ, r, S.step s1.hh, e2, k⟩
  | false =>
    rw [if_neg Bool.false_ne_true] at e2 ⊢
    exact ⟨F0, H0, F, ρ, r, S.step s1.hh, e2, k⟩
theorem ds2_par (j l : Nat) {x y : Str} {px py pt : Pos} {kt k2 : Nat} {pt2 : Pos} (hc : X.calm = true) (hN : X.N.Nodup) (ha : DE X C [] a fe) (hb : DE X C [] b ge) (hi : X.N[j]? = some x := by rfl) (hj : X.N[l]? = some y := by rfl) (hij : j ≠ l := by decide)
    (hx : X.env.scope.names.lookup x = some .local := by rfl) (hy : X.env.scope.names.lookup y = some .local := by rfl) (hO : j ≠ i := by decide) (hO2 : l ≠ i := by decide)
    (hw : swappedStores [.Tuple [.Name x px, .Name y py] kt pt] (.Tuple [a, b] k2 pt2) X.env = pure (some [x, y]) := by rfl)
    (hs : swapsWithSole [.Tuple [.Name x px, .Name y py] kt pt] (.Tuple [a, b] k2 pt2) pos.line X.env = pure false := by rfl)
    (h1 : starEach [a, b] X.env = (false, eval a X.env) :: starEach [b] X.env := by rfl) (h2 : starEach [b] X.env = (false, eval b X.env) :: starEach [] X.env := by rfl) :
    DSt2 X C i (.Assign [.Tuple [.Name x px, .Name y py] kt pt] (.Tuple [a, b] k2 pt2) pos) (dPar j l (scD fe) (scD ge)) := PSw (ps_par hc hN hi hj hij hx hy (pa_cons ha (pa_cons hb pa_nil h2) h1) hw hs) fun Z σ H ⟨F0, H0, F, ρ, r, S, hf, k⟩ => by
  obtain ⟨d, e1, e2⟩ := bind_some hf
  obtain ⟨d', e3, e4⟩ := bind_some e2
  cases e4
  obtain ⟨d1, e5, e6⟩ := bind_some e1
  obtain ⟨d2, e7, e8⟩ := bind_some e3
  split at e6
  · rename_i z1
    cases e6
    split at e8
    · rename_i z2
      cases e8
      obtain ⟨F', sm, S'⟩ := S.freeze
      exact ⟨F', ρ, d, S'.en, e5, fun v F1 H1 s1 r1 => ⟨F1, ρ, d', S'.en.step s1, e7, fun v2 F2 H2 s2 r2 => ⟨v, v2, rfl, k _ F H2 (((S.step (s1.trans s2).hh).set hO (r1.sc z1)).set hO2 (r2.sc z2)) (Same.refl _)⟩⟩⟩
    · cases e8
  · cases e6
/-- x[a][b] = e -/
theorem ds2_put {x : Str} {p1 p2 p3 : Pos} (hv0 : DE X C [] e fe) (ha : DE X C [] a ge) (hb : DE X C [] b he) (hi : X.N[i]? = some x := by rfl) (hv : Vis X.env.scope x := by first | exact Or.inl rfl | exact Or.inr (Or.inl rfl) | exact Or.inr (Or.inr rfl))
    (hd : (x == ("__debug__" : Str)) = false := by decide) (hcd : (x == ("__classdict__" : Str)) = false := by decide) (hpl : PlainIx a := by exact fun _ _ => rfl)
    (has : ∀ v, assign (.Subscript (.Subscript (.Name x p1) a p2) b p3) X.env v = (do
      let ov ← holding [v] (eval (.Subscript (.Name x p1) a p2) X.env)
      let iv ← holding [v, ov] (eval b X.env)
      standAt p3
      holding [v, ov, iv] (setItem ov iv v)
      release [v, ov, iv] []) := by intro _; rfl)
    (hs : swapsWithSole [.Subscript (.Subscript (.Name x p1) a p2) b p3] e pos.line X.env = pure false := by rfl) (hw : swappedStores [.Subscript (.Subscript (.Name x p1) a p2) b p3] e X.env = pure none := by rfl)
    (h1 : (assignEach [.Subscript (.Subscript (.Name x p1) a p2) b p3] X.env).map (·.2) = [assign (.Subscript (.Subscript (.Name x p1) a p2) b p3) X.env] := by rfl) :
    DSt2 X C i (.Assign [.Subscript (.Subscript (.Name x p1) a p2) b p3] e pos) (dSetIx2 i ge he fe) :=
  PSw (ps_asg hv0 (pg_sub (pe_ix ix_list (pe_var hi hv hd hcd) ha hpl) hb set_list has) hs hw h1) fun Z σ H ⟨F0, H0, F, ρ, r, S, hf, k⟩ => by
  obtain ⟨d, e1, g1⟩ := bind_some hf
  obtain ⟨ja, e2, g2⟩ := bind_some g1
  obtain ⟨na, e3, g3⟩ := bind_some g2
  obtain ⟨jb, e4, g4⟩ := bind_some g3
  obtain ⟨nb, e5, g5⟩ := bind_some g4
  obtain ⟨x, e6, g6⟩ := bind_some g5
  obtain ⟨xs, e7, g7⟩ := bind_some g6
  obtain ⟨m1, e8, g8⟩ := bind_some g7
  obtain ⟨y, e9, g9⟩ := bind_some g8
  obtain ⟨ys, e10, g10⟩ := bind_some g9
  obtain ⟨m2, e11, g11⟩ := bind_some g10
  obtain rfl := asI_some e3
  obtain rfl := asI_some e5
  obtain rfl := asL_some e7
  obtain rfl := asL_some e10
  obtain ⟨d', e12, e13⟩ := bind_some e1
  split at e13
  · rename_i hsc
    cases e13
    cases g11
    obtain ⟨F', sm, S'⟩ := S.freeze
    refine ⟨F', ρ, d, S'.en, e12, fun v F1 H1 s1 r1 => ?_⟩
    have rv := r1.sc (F' := F) hsc
    have S1 := S.step s1.hh
    obtain ⟨p, qs, dss, t1, t2, N⟩ := S1.ns
    rw [e6] at t1
    have t1' : xs = dss.map D.lst := by
      have := Option.some.inj t1
      injection this
    subst t1'
    obtain ⟨F1', sm1, S1'⟩ := S1.freeze
    refine ⟨.ref p, t2, F1', ρ, _, S1'.en, e2, fun u F2 H2 s2 r2 => ?_⟩
    have S2 := S1.step s2.hh
    have e9' : dss[m1]? = some ys := by
      rw [List.getElem?_map] at e9
      obtain ⟨z, z1, z2⟩ := Option.map_eq_some_iff.mp e9
      injection z2 with z3
      rw [← z3]
      exact z1
    have hlt : m1 < qs.length := by
      rw [N.ln]
      exact (List.getElem?_eq_some_iff.mp e9').1
    have hqs : qs[m1]? = some qs[m1] := List.getElem?_eq_getElem hlt
    refine ⟨p, _, na, .ref qs[m1], rfl, r2, SqL.of (s2.hh _ _ N.hp), ?_, ?_⟩
    · unfold atI
      rw [List.length_map, N.ln, ← ixNat_eq]
      rw [List.length_map] at e8
      rw [e8]
      show (List.map V.ref qs)[m1]? = _
      rw [List.getElem?_map, hqs]
      rfl
    · obtain ⟨F2', sm2, S2'⟩ := S2.freeze
      refine ⟨F2', ρ, _, S2'.en, e4, fun u2 F3 H3 s3 r3 => ?_⟩
      have S3 := S2.step s3.hh
      have N3 : Nst X.K C H0 F H3 p qs dss := by
        refine ⟨s3.hh _ _ (s2.hh _ _ N.hp), N.fp, N.h0, N.ln, fun j q ds k1 k2 => ?_, N.nd, N.np⟩
        obtain ⟨vs, f1, f2⟩ := N.at_ j q ds k1 k2
        exact ⟨vs, s3.hh _ _ (s2.hh _ _ f1), f2⟩
      obtain ⟨vs, f1, f2, f3, f4⟩ := N3.at_ m1 qs[m1] ys hqs e9'
      refine ⟨qs[m1], vs, nb, m2, rfl, r3, f1, by rw [← f4.len, ← ixNat_eq]; exact e11, ?_⟩
      have S4 := S3.put (m2 := m2) e6 t2 N3 rv hqs e9' f1
      have em : (dss.map D.lst).set m1 (.lst (ys.set m2 d)) = (dss.set m1 (ys.set m2 d)).map D.lst := by rw [List.map_set]
      rw [em] at k
      exact k σ F _ S4 (Same.refl _)
  · cases e13
/-- x = [list(y) for y in e]: the way in -/
theorem mapM_len : ∀ {xs : List D} {dss : List (List D)}, xs.mapM asSeq = some dss → xs.length = dss.length ∧ ∀ (j : Nat) (d : D), xs[j]? = some d → ∃ ds, dss[j]? = some ds ∧ asSeq d = some ds
  | [], dss, h => by
    rw [List.mapM_nil] at h
    cases h
    exact ⟨rfl, fun j d q => by simp at q⟩
  | x :: xs, dss, h => by
    rw [List.mapM_cons] at h
    obtain ⟨y, h1, h2⟩ := bind_some h
    obtain ⟨r, h3, h4⟩ := bind_some h2
    cases h4
    obtain ⟨l1, l2⟩ := mapM_len h3
    refine ⟨by rw [List.length_cons, List.length_cons, l1], fun j d q => ?_⟩
    cases j with
    | zero =>
      have e : x = d := by simpa using q
      subst e
      exact ⟨y, rfl, h1⟩
    | succ j =>
      obtain ⟨ds, z1, z2⟩ := l2 j d (by simpa using q)
      exact ⟨ds, by simpa using z1, z2⟩
end
end DL
namespace DL
open PySem PySem.Spec PyProof.Rows L2
theorem En.forget {K : PySem.W.Frag} {C : Addr} {F H : Hp} {σ : L2.St} {ρ : Rho} {i : Nat} {v : Option V} (h : En K C [] F H σ ρ) : En K C [] F H (σ.set i v) (un ρ i) where
  fh := h.fh
  len := by rw [List.length_set, un_len]; exact h.len
  pl := fun j e hj q => by
    by_cases hji : j = i
    · subst hji
      rw [lk_un_same] at q
      cases q
    · rw [lk_un_ne hji] at q
      rw [List.getElem?_set_ne (Ne.symm hji)]
      exact h.pl j e hj q
  ow := fun j e hj => absurd hj List.not_mem_nil
  ap := fun j k e e' p hj => absurd hj List.not_mem_nil
def NW (K : PySem.W.Frag) (C : Addr) (F1 H1 : Hp) (all : List (List D)) (Dl : Addr) (i m : Nat) (H : Hp) : Prop :=
  m = all.length - i ∧ i ≤ all.length ∧ ∃ F qs, Stp F1 H1 F H ∧ Nst K C H1 F H Dl qs (all.take i)
section
variable {X : Cx} {C : Addr}
theorem nest_rd {K : PySem.W.Frag} {it : DFs} {i j : Nat} {Z : Ends} {σ : L2.St} {H : Hp} (hw : ∃ F0 H0 F ρ r, Sn K C [] F0 H0 F H σ ρ ∧ ((it ρ).bind fun xs => (xs.mapM asSeq).bind fun dss => if dss.length ≤ 16777216 ∧ j < ρ.length ∧ i < ρ.length then some (R.nx (st ρ i (.lst (dss.map D.lst)))) else none) = some r ∧ endR2 K C i F0 H0 F Z r) :
    tAsg (tLc (tDI K C [] it) (tDG K C [] [j] (gN j)) (tDT K C [] bYes) (tDN K C [] (nOf (dv j))) [j]) (gName i) Z σ H := by
  obtain ⟨F0, H0, F, ρ, r, S, hf, k⟩ := hw
  obtain ⟨ds, h1, hf1⟩ := bind_some hf
  obtain ⟨dss, h2, hf2⟩ := bind_some hf1
  split at hf2
  · rename_i hz
    obtain ⟨hz, hjl, hil⟩ := hz
    cases hf2
    obtain ⟨ml, mg⟩ := mapM_len h2
    show tLc _ _ _ _ _ σ H fun x H1 => Z.nx (σ.set i (some x)) H1
    refine ⟨F, ρ, ds, S.en, h1, fun J F1 H1 s1 jd Dl hD => ?_⟩
    have E1 : En K C [] F1 H1 (wipe σ [j]) (wipeR ρ [j]) := (S.en.step s1).wipe [j]
    have fD := none_of_same s1.fh hD
    refine ⟨NW K C F1 H1 dss Dl, ⟨dss.length, rfl, Nat.zero_le _, F1, [], Stp.own s1.fh hD, ⟨upd_same, fD, hD, rfl, fun a q l e => by simp at e, fun a b q e => by simp at e, List.not_mem_nil⟩⟩, fun n m H2 hW => ?_⟩
    obtain ⟨rfl, hn, F2, qs, s2, N⟩ := hW
    by_cases hlt : n < dss.length
    · right
      have hlt2 : n < ds.length := by rw [ml]; exact hlt
      obtain ⟨_, jg⟩ := jd n F2 H2 s2.ff s2.fh
      obtain ⟨go, yl⟩ := jg ds[n] (List.getElem?_eq_getElem hlt2)
      obtain ⟨es, z1, z2⟩ := mg n ds[n] (List.getElem?_eq_getElem hlt2)
      refine ⟨go, NW K C F1 H1 dss Dl (n + 1) (dss.length - (n + 1)), fun H' hN => ⟨_, by omega, hN⟩, fun x H3 y => ?_⟩
      obtain ⟨F3, s3, r3⟩ := yl x H3 y
      have s13 := s2.trans s3
      have hlk : lk (st (wipeR ρ [j]) j ds[n]) j = some ds[n] := lk_st_eq (by
        show j < (un ρ j).length
        rw [un_len]
        exact hjl)
      refine ⟨F3, wipeR ρ [j], ds[n], _, E1.step s13, r3, rfl, fun σ4 E4 bar _ => ⟨wipe_bar bar (fun i hi => hi), F3, _, true, E4, rfl, fun F5 H5 s5 => ?_⟩⟩
      dsimp only
      rw [if_pos rfl]
      have s15 := s13.trans s5
      have s25 := s3.trans s5
      refine ⟨F5, _, es, E4.step s5, ?_, fun p vs F6 H6 s6 hp r6 => ?_⟩
      · show (lk _ j).bind asSeq = some es
        rw [hlk]
        exact z2
      have s16 := s15.trans s6
      have s26 := s25.trans s6
      have hq6 : ∀ q ∈ qs, ∃ o, H6 q = some o := fun q hq => by
        obtain ⟨a, ha, rfl⟩ := List.getElem_of_mem hq
        have ha2 : a < (dss.take n).length := by rw [← N.ln]; exact ha
        obtain ⟨us, g1, _⟩ := N.at_ a qs[a] (dss.take n)[a] (List.getElem?_eq_getElem ha) (List.getElem?_eq_getElem ha2)
        exact ⟨_, s26.hh _ _ g1⟩
      have hpq : p ∉ qs := fun hq => by
        obtain ⟨o, e⟩ := hq6 p hq
        rw [hp] at e
        cases e
      have hDH6 : H6 Dl = some (.lst (qs.map V.ref)) := s26.hh _ _ N.hp
      have hpD : Dl ≠ p := fun z => by
        rw [← z, hDH6] at hp
        cases hp
      have hH1p : H1 p = none := s16.hh.free hp
      have hF6p : F6 p = none := s6.fh.free hp
      have hF6D : F6 Dl = none := (s26.old _ _ N.hp).trans N.fp
      have hql : qs.length = n := by
        rw [N.ln, List.length_take]
        omega
      refine ⟨qs.map V.ref, by rw [upd_ne hpD]; exact hDH6, by
        rw [List.length_map, hql]
        exact Nat.lt_of_lt_of_le (by omega : n < 16777216) (szl_ok (Nat.le_refl _)), rfl, hlt, F6, qs ++ [p], ?_, ?_⟩
      · refine ⟨s16.ff, fun a o q => ?_, fun a o q => ?_, s16.old⟩
        · rw [upd_ne (ne_of_none q hD), upd_ne (ne_of_none q hH1p)]
          exact s16.hh a o q
        · rw [upd_ne (ne_of_none q hF6D), upd_ne (ne_of_none q hF6p)]
          exact s16.fh a o q
      · refine ⟨by rw [upd_same, List.map_append]; rfl, hF6D, hD, by rw [List.length_append, List.length_take, hql, List.length_singleton]; omega, fun a q l e1 e2 => ?_, fun a b q e1 e2 => ?_, fun hm => ?_⟩
        · by_cases ha : a < n
          · rw [List.getElem?_append_left (by omega)] at e1
            have e2' : (dss.take n)[a]? = some l := by
              rw [List.getElem?_take] at e2 ⊢
              rw [if_pos ha]
              rw [if_pos (by omega)] at e2
              exact e2
            obtain ⟨us, g1, g2, g3, g4⟩ := N.at_ a q l e1 e2'
            have hqm := List.mem_of_getElem? e1
            have hqD : q ≠ Dl := fun z => N.np (z ▸ hqm)
            have hqp : q ≠ p := fun z => hpq (z ▸ hqm)
            exact ⟨us, by rw [upd_ne hqD, upd_ne hqp]; exact s26.hh _ _ g1, (s26.old _ _ g1).trans g2, g3, RpL.mono s26.ff _ _ g4⟩
          · have han : a = n := by
              have := (List.getElem?_eq_some_iff.mp e1).1
              rw [List.length_append, List.length_singleton, hql] at this
              omega
            subst han
            rw [List.getElem?_append_right (by omega), hql, Nat.sub_self] at e1
            cases e1
            rw [List.getElem?_take, if_pos (by omega), z1] at e2
            cases e2
            exact ⟨vs, by rw [upd_ne (Ne.symm hpD)]; exact upd_same, hF6p, hH1p, r6⟩
        · have la : ∀ {c}, (qs ++ [p])[c]? = some q → (c < n ∧ qs[c]? = some q) ∨ (c = n ∧ q = p) := fun {c} e => by
            by_cases hc : c < n
            · rw [List.getElem?_append_left (by omega)] at e
              exact .inl ⟨hc, e⟩
            · have := (List.getElem?_eq_some_iff.mp e).1
              rw [List.length_append, List.length_singleton, hql] at this
              have hcn : c = n := by omega
              subst hcn
              rw [List.getElem?_append_right (by omega), hql, Nat.sub_self] at e
              cases e
              exact .inr ⟨rfl, rfl⟩
          rcases la e1 with ⟨_, f1⟩ | ⟨f1, f2⟩
          · rcases la e2 with ⟨_, f3⟩ | ⟨f3, f4⟩
            · exact N.nd a b q f1 f3
            · exact absurd (f4 ▸ List.mem_of_getElem? f1) hpq
          · rcases la e2 with ⟨_, f3⟩ | ⟨f3, f4⟩
            · exact absurd (f2 ▸ List.mem_of_getElem? f3) hpq
            · rw [f1, f3]
        · rcases List.mem_append.mp hm with hm | hm
          · exact N.np hm
          · exact hpD (List.mem_singleton.mp hm)
    · left
      have en : n = dss.length := by omega
      subst en
      obtain ⟨js, _⟩ := jd ds.length F2 H2 s2.ff s2.fh
      rw [← ml]
      refine ⟨js rfl, ?_⟩
      have s0 := s1.trans s2
      have hN : Nst K C H0 F2 H2 Dl qs dss := by
        have hN := N
        rw [List.take_length] at hN
        refine ⟨hN.hp, hN.fp, S.sp.hh.free (s1.hh.free hD), hN.ln, fun a q l e1 e2 => ?_, hN.nd, hN.np⟩
        obtain ⟨us, g1, g2, g3, g4⟩ := hN.at_ a q l e1 e2
        exact ⟨us, g1, g2, S.sp.hh.free (s1.hh.free g3), g4⟩
      refine k _ F2 H2 ⟨?_, S.sp.trans s0, Dl, qs, dss, lk_st_eq hil, ?_, hN⟩ s0.ff
      · rw [un_st_same]
        exact (S.en.step s0).forget
      · rw [List.getElem?_set_self (by rw [S.en.len]; exact hil)]
  · cases hf2
variable {i j : Nat}
def dSetNN' (i j : Nat) (it : DFs) : DS := fun ρ => (it ρ).bind fun xs => (xs.mapM asSeq).bind fun dss => if dss.length ≤ 16777216 ∧ j < ρ.length ∧ i < ρ.length then some (R.nx (st ρ i (.lst (dss.map D.lst)))) else none
/-- y = [list(x) for x in e]: a list of lists of one's own from here on -/
theorem ds2_in (i j : Nat) {y x : Str} {py p1 p2 pe : Pos} {iter : Expr} {scope : Scope} {pos spos : Pos} {it : DFs} (hc : X.calm = true) (hN : X.N.Nodup)
    (hi : DI X C [] (.Name x p1) iter it) (ok : BlkOk X.N X.env.scope scope [(x, j)])
    (hg : ∀ (s : Shared) (H : Hp) (D : Addr) (cl : List (Str × Addr)) (fp : List Addr), DTg (X.blk s H scope (compEnvC scope cl D X.env) fp) C [] [j] (.Name x p1) (gN j))
    (he : ∀ (s : Shared) (H : Hp) (D : Addr) (cl : List (Str × Addr)) (fp : List Addr), DN (X.blk s H scope (compEnvC scope cl D X.env) fp) C [] (.Call (.Name "list" p2) [.Name x pe] [] pos) (nOf (dv j)))
    (hy : X.N[i]? = some y := by rfl) (hyl : X.env.scope.names.lookup y = some .local := by rfl)
    {cpos : Pos} (hsw : swapsWith (.ListComp (.Call (.Name "list" p2) [.Name x pe] [] pos) [⟨.Name x p1, iter, [], 0⟩] scope cpos) (some (.Name y py)) spos.line X.env = pure true := by exact sw_true rfl rfl rfl (by decide +kernel))
    (hs : ∀ x, foldedSetIterable iter X.env x = pure x := by intro _; rfl) :
    PS X (.Assign [.Name y py] (.ListComp (.Call (.Name "list" p2) [.Name x pe] [] pos) [⟨.Name x p1, iter, [], 0⟩] scope cpos) spos) (fun Z σ H => ∃ F0 H0 F ρ r, Sn X.K C [] F0 H0 F H σ ρ ∧ dSetNN' i j it ρ = some r ∧ endR2 X.K C i F0 H0 F Z r) :=
  PSw (ps_setLc hc hN hy hyl hsw hi ok hg (fun _ _ _ _ _ => dts_nil) he hs) fun Z σ H hw => nest_rd hw
end
end DL
namespace DL
open PySem PySem.Spec PyProof.Rows L2
end DL
namespace Mi
open DL
def m_gcd_b1 : DS := (dPar 0 1 (dv 1) (d2 opMod (dv 0) (dv 1)))
def m_gcd : List D → Option D := runD 2 2 ((dSeq (dWhile (bV (d2 opGt (dv 1) (dc (.int 0)))) m_gcd_b1)
    (dRet (dv 0))))
def m_lcm : List D → Option D := runD 2 2 ((dRet (d2 opMul (d2 opFdiv (dv 0) (dL m_gcd (dcons (dv 0) (dcons (dv 1) dnil)))) (dv 1))))
def m_turned_c1 : DF := (dComp (iSeq (dv 0)) (gN 2) bYes (d2 opIx (dv 2) (dv 1)) [2])
def m_turned_c2 : DF := (dComp (iRng1 (dcons (dL opLen (dcons (d2 opIx (dv 0) (dc (.int 0))) dnil)) dnil)) (gN 1) bYes (dL opTuple (dcons m_turned_c1 dnil)) [1])
def m_turned : List D → Option D := runD 3 1 ((dRet (dL opTuple (dcons m_turned_c2 dnil))))
def m_row_divisor_b1 : DS := (dIfS (bV (d2 opIsNot (dv 2) (dc .non))) (dSet 1 (dL m_gcd (dcons (dv 2) (dcons (dv 1) dnil)))) dNx)
def m_row_divisor : List D → Option D := runD 3 1 ((dSeq (dSet 1 (dc (.int 0)))
    (dSeq (dFor (iSeq (dv 0)) (gN 2) m_row_divisor_b1)
    (dRet (dv 1)))))
def m_greatest_c1 : DF := (dComp (iSeq (dL m_turned (dcons (dv 0) dnil))) (gN 1) bYes (dL m_row_divisor (dcons (dv 1) dnil)) [1])
def m_greatest_c2 : DF := (dComp (iSeq (dv 0)) (gN 1) bYes (dL m_row_divisor (dcons (dv 1) dnil)) [1])
def m_greatest : List D → Option D := runD 2 1 ((dRet (dL opTup (dcons (dL opTuple (dcons m_greatest_c2 dnil)) (dcons (dL opTuple (dcons m_greatest_c1 dnil)) dnil)))))
def m_known_places_c1 : DF := (dComp (iRng1 (dcons (dL opLen (dcons (d2 opIx (dv 0) (dc (.int 0))) dnil)) dnil)) (gN 3) (bV (d2 opIsNot (d2 opIx (d2 opIx (dv 0) (dv 2)) (dv 3)) (dc .non))) (dL opTup (dcons (dv 2) (dcons (dv 3) dnil))) [3])
def m_known_places_b1 : DS := (dSet 1 (d2 opAdd (dv 1) m_known_places_c1))
def m_known_places : List D → Option D := runD 4 1 ((dSeq (dSet 1 (dL opLst dnil))
    (dSeq (dFor (iRng1 (dcons (dL opLen (dcons (dv 0) dnil)) dnil)) (gN 2) m_known_places_b1)
    (dRet (dv 1)))))
def m_is_real_c1 : DF := (dComp (iSeq (dL m_known_places (dcons (dv 0) dnil))) (gT (gsCons (gN 3) (gsCons (gN 4) gsNil))) bYes (d2 opEq (dL m_lcm (dcons (d2 opIx (dv 1) (dv 3)) (dcons (d2 opIx (dv 2) (dv 4)) dnil))) (d2 opIx (d2 opIx (dv 0) (dv 3)) (dv 4))) [3, 4])
def m_is_real : List D → Option D := runD 5 1 ((dSeq (dAsg (gT (gsCons (gN 1) (gsCons (gN 2) gsNil))) (dL m_greatest (dcons (dv 0) dnil)))
    (dRet (dL opAll (dcons m_is_real_c1 dnil)))))
def m_law_cell : List D → Option D := runD 2 2 ((dSeq (dIfS (bV (d2 opLt (dv 1) (dL opLen (dcons (dv 0) dnil)))) (dRet (d2 opIx (dv 0) (dv 1))) dNx)
    (dSeq (dIfS (bV (d2 opEq (dL opLen (dcons (dv 0) dnil)) (dc (.int 0)))) (dRet (d2 opAdd (d2 opMul (dc (.int 7919)) (dv 1)) (dc (.int 101)))) dNx)
    (dRet (d2 opAdd (d2 opMod (d2 opIx (dv 0) (d2 opMod (dv 1) (dL opLen (dcons (dv 0) dnil)))) (dc (.int 1000003))) (d2 opMul (dc (.int 7919)) (dv 1)))))))
def m_law_digits_b1 : DS := (dSeq (dSet 9 (d2 opMul (d2 opMod (dv 5) (d2 opIx (dv 4) (d2 opMod (dv 8) (dc (.int 8))))) (d2 opAdd (dc (.int 48271)) (d2 opMul (d2 opMul (dc (.int 2)) (dv 8)) (dv 8)))))
    (dSeq (dSet 9 (d2 opAdd (d2 opAdd (dv 9) (d2 opMul (d2 opMul (dc (.int 7919)) (d2 opAdd (dv 8) (dc (.int 1)))) (d2 opAdd (dv 8) (dc (.int 1))))) (d2 opMul (dc (.int 104729)) (dv 1))))
    (dSeq (dSet 9 (d2 opMod (dv 9) (d2 opIx (dv 4) (d2 opMod (d2 opAdd (d2 opMul (dc (.int 3)) (dv 8)) (dv 1)) (dc (.int 8))))))
    (dSeq (dSet 9 (d2 opMod (d2 opMul (d2 opMul (dv 9) (dv 9)) (dv 9)) (d2 opIx (dv 4) (d2 opMod (d2 opAdd (dv 8) (dc (.int 5))) (dc (.int 8))))))
    (dSeq (dIfS (bV (d2 opGt (dv 6) (dc (.int 0)))) (dSet 9 (dv 6)) dNx)
    (dSeq (dApp 7 (d2 opMod (dv 9) (dv 3)))
    (dSet 6 (d2 opFdiv (dv 6) (dv 3)))))))))
def m_law_digits : List D → Option D := runD 10 4 ((dSeq (dSet 4 (dL opTup (dcons (dc (.int 2147483647)) (dcons (dc (.int 2147483629)) (dcons (dc (.int 2147483587)) (dcons (dc (.int 2147483579)) (dcons (dc (.int 2147483563)) (dcons (dc (.int 2147483549)) (dcons (dc (.int 2147483543)) (dcons (dc (.int 2147483497)) dnil))))))))))
    (dSeq (dSet 5 (dL m_law_cell (dcons (dv 0) (dcons (dv 1) dnil))))
    (dSeq (dSet 6 (dIf (bV (d2 opGe (dv 5) (d2 opPow (dc (.int 10)) (dc (.int 18))))) (dv 5) (dc (.int 0))))
    (dSeq (dSetN 7 (nLst dnil))
    (dSeq (dFor (iRng1 (dcons (dv 2) dnil)) (gN 8) m_law_digits_b1)
    (dRet (dv 7))))))))
def m_law_gcd_b1 : DS := (dPar 0 1 (dv 1) (d2 opMod (dv 0) (dv 1)))
def m_law_gcd : List D → Option D := runD 2 2 ((dSeq (dWhile (bV (d2 opGt (dv 1) (dc (.int 0)))) m_law_gcd_b1)
    (dRet (dv 0))))
def m_law_lcm : List D → Option D := runD 2 2 ((dRet (d2 opFdiv (d2 opMul (dv 0) (dv 1)) (dL m_law_gcd (dcons (dv 0) (dcons (dv 1) dnil))))))
def m_law_numbers_c1 : DF := (dComp (iRng1 (dcons (dv 1) dnil)) (gN 6) bYes (d2 opIx (dv 3) (d2 opMod (d2 opIx (dv 0) (d2 opAdd (dc (.int 1)) (dv 6))) (dv 4))) [6])
def m_law_numbers_c2 : DF := (dComp (iRng1 (dcons (dv 2) dnil)) (gN 6) bYes (d2 opIx (dv 3) (d2 opMod (d2 opIx (dv 0) (d2 opAdd (dc (.int 6)) (dv 6))) (dv 4))) [6])
def m_law_numbers : List D → Option D := runD 7 3 ((dSeq (dSet 3 (dL opLst (dcons (dc (.int 1)) (dcons (dc (.int 2)) (dcons (dc (.int 3)) (dcons (dc (.int 4)) (dcons (dc (.int 6)) (dcons (dc (.int 8)) (dcons (dc (.int 9)) (dcons (dc (.int 12)) (dcons (dc (.int 5)) (dcons (dc (.int 10)) (dcons (dc (.int 18)) (dcons (dc (.int 30)) dnil))))))))))))))
    (dSeq (dSet 4 (d2 opIx (dL opLst (dcons (dc (.int 4)) (dcons (dc (.int 7)) (dcons (dc (.int 12)) dnil)))) (d2 opMod (d2 opIx (dv 0) (dc (.int 0))) (dc (.int 3)))))
    (dSeq (dSet 5 (dL opTuple (dcons m_law_numbers_c1 dnil)))
    (dRet (dL opTup (dcons (dv 5) (dcons (dL opTuple (dcons m_law_numbers_c2 dnil)) dnil))))))))
def m_law_table_c1 : DF := (dComp (iSeq (dv 1)) (gN 3) bYes (dL m_law_lcm (dcons (dv 2) (dcons (dv 3) dnil))) [3])
def m_law_table_c2 : DF := (dComp (iSeq (dv 0)) (gN 2) bYes (dL opTuple (dcons m_law_table_c1 dnil)) [2])
def m_law_table : List D → Option D := runD 4 2 ((dRet (dL opTuple (dcons m_law_table_c2 dnil))))
def m_law_hidden_b1 : DS := (dSeq (dApp 6 (dIf (bV (d2 opEq (d2 opMod (d2 opIx (dv 1) (d2 opMod (dv 4) (dL opLen (dcons (dv 1) dnil)))) (dv 2)) (dc (.int 0)))) (dc .non) (dv 7)))
    (dSet 4 (d2 opAdd (dv 4) (dc (.int 1)))))
def m_law_hidden_b2 : DS := (dSeq (dSetN 6 (nLst dnil))
    (dSeq (dFor (iSeq (dv 5)) (gN 7) m_law_hidden_b1)
    (dApp 3 (dL opTuple (dcons (dv 6) dnil)))))
def m_law_hidden : List D → Option D := runD 8 3 ((dSeq (dParN1 3 4 (nLst dnil) (dc (.int 0)))
    (dSeq (dFor (iSeq (dv 0)) (gN 5) m_law_hidden_b2)
    (dRet (dL opTuple (dcons (dv 3) dnil))))))
def m_law_spoilt_c1 : DF := (dComp (iSeq (dv 2)) (gN 3) bYes (dL opTuple (dcons (dv 3) dnil)) [3])
def m_law_spoilt : List D → Option D := runD 5 2 ((dSeq (dSetNN' 2 3 (iSeq (dv 0)))
    (dSeq (dPar 3 4 (scD (d2 opMod (d2 opIx (dv 1) (dc (.int 0))) (dL opLen (dcons (dv 2) dnil)))) (scD (d2 opMod (d2 opIx (dv 1) (dc (.int 1))) (dL opLen (dcons (d2 opIx (dv 2) (dc (.int 0))) dnil)))))
    (dSeq (dIfS (bV (d2 opIsNot (d2 opIx (d2 opIx (dv 2) (dv 3)) (dv 4)) (dc .non))) (dSetIx2 2 (dv 3) (dv 4) (d2 opIx (dL opLst (dcons (dc (.int 1)) (dcons (dc (.int 2)) (dcons (dc (.int 3)) (dcons (dc (.int 4)) (dcons (dc (.int 6)) (dcons (dc (.int 12)) (dcons (d2 opMul (d2 opIx (d2 opIx (dv 2) (dv 3)) (dv 4)) (dc (.int 2))) (dcons (d2 opMul (d2 opIx (d2 opIx (dv 2) (dv 3)) (dv 4)) (dc (.int 3))) dnil))))))))) (d2 opMod (d2 opIx (dv 1) (dc (.int 2))) (dc (.int 8))))) dNx)
    (dRet (dL opTuple (dcons m_law_spoilt_c1 dnil)))))))
def m_law_known_c1 : DF := (dComp (iEn (dcons (dv 3) dnil)) (gT (gsCons (gN 4) (gsCons (gN 5) gsNil))) (bV (d2 opIsNot (dv 5) (dc .non))) (dL opTup (dcons (dv 2) (dcons (dv 4) (dcons (dv 5) dnil)))) [4, 5])
def m_law_known_b1 : DS := (dSet 1 (d2 opAdd (dv 1) m_law_known_c1))
def m_law_known : List D → Option D := runD 6 1 ((dSeq (dSet 1 (dL opLst dnil))
    (dSeq (dFor (iEn (dcons (dv 0) dnil)) (gT (gsCons (gN 2) (gsCons (gN 3) gsNil))) m_law_known_b1)
    (dRet (dv 1)))))
end Mi
namespace Mi
open DL
end Mi
namespace Mi
open DL
def m_without_c1 : DF := (dComp (iRng1 (dcons (dL opLen (dcons (d2 opIx (dv 0) (dc (.int 0))) dnil)) dnil)) (gN 5) bYes (dIf (bV (d2 opIn (dL opTup (dcons (dv 3) (dcons (dv 5) dnil))) (dv 1))) (dc .non) (d2 opIx (d2 opIx (dv 0) (dv 3)) (dv 5))) [5])
def m_without_b1 : DS := (dSeq (dSet 4 m_without_c1)
    (dApp 2 (dL opTuple (dcons (dv 4) dnil))))
def m_without : List D → Option D := runD 6 2 ((dSeq (dSetN 2 (nLst dnil))
    (dSeq (dFor (iRng1 (dcons (dL opLen (dcons (dv 0) dnil)) dnil)) (gN 3) m_without_b1)
    (dRet (dL opTuple (dcons (dv 2) dnil))))))
def m_fewest_wrong_c1 : DF := (dComp (iSeq (dv 1)) (gN 3) bYes (d2 opAdd (dv 3) (dL opTup (dcons (dv 2) dnil))) [3])
def m_fewest_wrong_b1 : DS := (dSet 1 (d2 opAdd (dv 1) m_fewest_wrong_c1))
def m_fewest_wrong_c2 : DF := (dComp (iSeq (dv 1)) (gN 3) (bV (dL m_is_real (dcons (dL m_without (dcons (dv 0) (dcons (dv 3) dnil))) dnil))) (dL opLen (dcons (dv 3) dnil)) [3])
def m_fewest_wrong : List D → Option D := runD 4 1 ((dSeq (dSet 1 (dL opLst (dcons (dL opTup dnil) dnil)))
    (dSeq (dFor (iSeq (dL m_known_places (dcons (dv 0) dnil))) (gN 2) m_fewest_wrong_b1)
    (dRet (dL opMin (dcons m_fewest_wrong_c2 dnil))))))
def m_law_real_2_c1 : DF := (dComp (iSeq (dv 1)) (gT (gsCons (gN 8) (gsCons (gN 9) (gsCons (gN 10) gsNil)))) (bAnd (bV (d2 opEq (dv 8) (dv 2))) (bV (d2 opNe (dv 9) (dv 3)))) (dv 10) [8, 9, 10])
def m_law_real_2_c2 : DF := (dComp (iSeq (dv 1)) (gT (gsCons (gN 8) (gsCons (gN 9) (gsCons (gN 10) gsNil)))) (bAnd (bV (d2 opNe (dv 8) (dv 2))) (bV (d2 opEq (dv 9) (dv 3)))) (dv 10) [8, 9, 10])
def m_law_real_2_c3 : DF := (dComp (iSeq (dv 6)) (gN 10) (bV (d2 opNe (d2 opMod (dL m_law_lcm (dcons (dv 7) (dcons (dv 10) dnil))) (dv 4)) (dc (.int 0)))) (dv 10) [10])
def m_law_real_2_b1 : DS := (dIfS (bV (d2 opNe m_law_real_2_c3 (dL opLst dnil))) (dRet (dc (.bl false))) dNx)
def m_law_real_2_b2 : DS := (dSeq (dSet 5 m_law_real_2_c1)
    (dSeq (dSet 6 m_law_real_2_c2)
    (dFor (iSeq (dv 5)) (gN 7) m_law_real_2_b1)))
def m_law_real_2 : List D → Option D := runD 11 1 ((dSeq (dSet 1 (dL m_law_known (dcons (dv 0) dnil)))
    (dSeq (dFor (iSeq (dv 1)) (gT (gsCons (gN 2) (gsCons (gN 3) (gsCons (gN 4) gsNil)))) m_law_real_2_b2)
    (dRet (dc (.bl true))))))
def m_law_least_c1 : DF := (dComp (iSeq (dL m_law_known (dcons (dv 0) dnil))) (gT (gsCons (gN 6) (gsCons (gN 9) (gsCons (gN 10) gsNil)))) bYes (dL opTup (dcons (dv 6) (dcons (dv 9) dnil))) [6, 9, 10])
def m_law_least_c2 : DF := (dComp (iEn (dcons (dv 7) dnil)) (gT (gsCons (gN 12) (gsCons (gN 10) gsNil))) bYes (dIf (bV (d2 opIn (dL opTup (dcons (dv 6) (dcons (dv 12) dnil))) (dv 4))) (dc .non) (dv 10)) [12, 10])
def m_law_least_b1 : DS := (dApp 5 (dL opTuple (dcons m_law_least_c2 dnil)))
def m_law_least_b2 : DS := (dSeq (dSetN 5 (nLst dnil))
    (dSeq (dFor (iEn (dcons (dv 0) dnil)) (gT (gsCons (gN 6) (gsCons (gN 7) gsNil))) m_law_least_b1)
    (dIfS (bV (dL m_law_real_2 (dcons (dL opTuple (dcons (dv 5) dnil)) dnil))) (dRet (dv 3)) dNx)))
def m_law_least_c3 : DF := (dComp (iSeq (dv 1)) (gN 11) (bOr (bV (d2 opEq (dv 4) (dL opTup dnil))) (bV (d2 opGt (dv 11) (d2 opIx (dv 4) (d2 opSub (dL opLen (dcons (dv 4) dnil)) (dc (.int 1))))))) (d2 opAdd (dv 4) (dL opTup (dcons (dv 11) dnil))) [11])
def m_law_least_b3 : DS := (dSet 8 (d2 opAdd (dv 8) m_law_least_c3))
def m_law_least_b4 : DS := (dSeq (dFor (iSeq (dv 2)) (gN 4) m_law_least_b2)
    (dSeq (dSet 8 (dL opLst dnil))
    (dSeq (dFor (iSeq (dv 2)) (gN 4) m_law_least_b3)
    (dSet 2 (dv 8)))))
def m_law_least : List D → Option D := runD 13 1 ((dSeq (dSet 1 m_law_least_c1)
    (dSeq (dSet 2 (dL opLst (dcons (dL opTup dnil) dnil)))
    (dSeq (dFor (iRng1 (dcons (d2 opAdd (dL opLen (dcons (dv 1) dnil)) (dc (.int 1))) dnil)) (gN 3) m_law_least_b4)
    (dRet (dc .non))))))
def m_k06_b1 : DS := (dSeq (dSet 10 (dL m_fewest_wrong (dcons (dv 8) dnil)))
    (dIfS (bOr (bV (d2 opNe (dv 10) (dL m_law_least (dcons (dv 8) dnil)))) (bOr (bV (d2 opGt (dv 10) (dv 9))) (bV (d2 opNe (d2 opEq (dv 10) (dc (.int 0))) (dL m_is_real (dcons (dv 8) dnil)))))) (dRet (dc (.bl false))) dNx))
def m_k06_b2 : DS := (dSeq (dSet 2 (dL m_law_digits (dcons (dv 0) (dcons (dv 1) (dcons (dc (.int 60)) (dcons (dc (.int 27720)) dnil))))))
    (dSeq (dAsg (gT (gsCons (gN 3) (gsCons (gN 4) gsNil))) (dL m_law_numbers (dcons (dv 2) (dcons (d2 opAdd (dc (.int 1)) (d2 opMod (d2 opIx (dv 2) (dc (.int 50))) (dc (.int 3)))) (dcons (d2 opAdd (dc (.int 1)) (d2 opMod (d2 opIx (dv 2) (dc (.int 51))) (dc (.int 3)))) dnil)))))
    (dSeq (dSet 5 (dL m_law_hidden (dcons (dL m_law_table (dcons (dv 3) (dcons (dv 4) dnil))) (dcons (dSl (dv 2) (oIx (dc (.int 20))) oNo) (dcons (dc (.int 7)) dnil)))))
    (dSeq (dSet 6 (dL m_law_spoilt (dcons (dv 5) (dcons (dSl (dv 2) (oIx (dc (.int 30))) oNo) dnil))))
    (dSeq (dSet 7 (dL m_law_spoilt (dcons (dv 6) (dcons (dSl (dv 2) (oIx (dc (.int 40))) oNo) dnil))))
    (dFor (iSeq (dL opTup (dcons (dL opTup (dcons (dv 5) (dcons (dc (.int 0)) dnil))) (dcons (dL opTup (dcons (dv 6) (dcons (dc (.int 1)) dnil))) (dcons (dL opTup (dcons (dv 7) (dcons (dc (.int 2)) dnil))) dnil))))) (gT (gsCons (gN 8) (gsCons (gN 9) gsNil))) m_k06_b1))))))
def m_k06 : List D → Option D := runD 11 1 ((dSeq (dFor (iRng1 (dcons (dc (.int 5)) dnil)) (gN 1) m_k06_b2)
    (dSeq (dIfS (bOr (bV (d2 opNe (dL m_fewest_wrong (dcons (dL opTup (dcons (dL opTup (dcons (dc (.int 4)) (dcons (dc (.int 1)) dnil))) (dcons (dL opTup (dcons (dc (.int 1)) (dcons (dc (.int 1)) dnil))) dnil))) dnil)) (dc (.int 1)))) (bV (d2 opNe (dL m_fewest_wrong (dcons (dL opTup (dcons (dL opTup (dcons (dc (.int 12)) (dcons (dc (.int 20)) dnil))) (dcons (dL opTup (dcons (dc (.int 6)) (dcons (dc (.int 30)) dnil))) dnil))) dnil)) (dc (.int 0))))) (dRet (dc (.bl false))) dNx)
    (dRet (dAnd (d2 opEq (dL m_fewest_wrong (dcons (dL opTup (dcons (dL opTup (dcons (dc (.int 4)) (dcons (dc (.int 1)) (dcons (dc (.int 1)) dnil)))) (dcons (dL opTup (dcons (dc (.int 1)) (dcons (dc (.int 4)) (dcons (dc (.int 1)) dnil)))) (dcons (dL opTup (dcons (dc (.int 1)) (dcons (dc (.int 1)) (dcons (dc (.int 1)) dnil)))) dnil)))) dnil)) (dc (.int 2))) (d2 opEq (dL m_fewest_wrong (dcons (dL opTup (dcons (dL opTup (dcons (dc .non) dnil)) dnil)) dnil)) (dc (.int 0))))))))
end Mi
namespace Mi
open DL
end Mi
namespace Mi
open DL
def bnd {α β : Type} (x : Option α) (f : α → Option β) : Option β := x.bind f
@[simp] theorem bnd_some {α β : Type} (x : α) (f : α → Option β) : bnd (some x) f = f x := (rfl)
@[simp] theorem bnd_none {α β : Type} (f : α → Option β) : bnd none f = none := (rfl)
section
variable {ρ : Rho} {x y z : D}
@[simp] theorem p_dc : dc x ρ = some x := (rfl)
@[simp] theorem p_dv (i : Nat) : dv i ρ = lk ρ i := (rfl)
@[simp] theorem lk_z (a : Option D) (r : Rho) : lk (a :: r) 0 = a := (rfl)
@[simp] theorem lk_s (a : Option D) (r : Rho) (n : Nat) : lk (a :: r) (n + 1) = lk r n := (rfl)
@[simp] theorem st_z (a : Option D) (r : Rho) : st (a :: r) 0 x = some x :: r := (rfl)
@[simp] theorem st_s (a : Option D) (r : Rho) (n : Nat) : st (a :: r) (n + 1) x = a :: st r n x := (rfl)
@[simp] theorem un_z (a : Option D) (r : Rho) : un (a :: r) 0 = none :: r := (rfl)
@[simp] theorem un_s (a : Option D) (r : Rho) (n : Nat) : un (a :: r) (n + 1) = a :: un r n := (rfl)
@[simp] theorem wipe_n : wipeR ρ [] = ρ := (rfl)
@[simp] theorem wipe_c (v : Nat) (vs : List Nat) : wipeR ρ (v :: vs) = un (wipeR ρ vs) v := (rfl)
@[simp] theorem p_d2 (op : D → D → Option D) (f g : DF) : d2 op f g ρ = bnd (f ρ) fun x => bnd (g ρ) fun y => op x y := (rfl)
@[simp] theorem p_d1 (op : D → Option D) (f : DF) : d1 op f ρ = bnd (f ρ) op := (rfl)
@[simp] theorem p_dnil : dnil ρ = some [] := (rfl)
@[simp] theorem p_dcons (f : DF) (g : DFs) : dcons f g ρ = bnd (f ρ) fun x => bnd (g ρ) fun xs => some (x :: xs) := (rfl)
@[simp] theorem p_dL (op : List D → Option D) (f : DFs) : dL op f ρ = bnd (f ρ) op := (rfl)
@[simp] theorem p_asB (b : Bool) : asB (.bl b) = some b := (rfl)
@[simp] theorem p_asI (b : Int) : asI (.int b) = some b := (rfl)
@[simp] theorem p_asL (b : List D) : asL (.lst b) = some b := (rfl)
@[simp] theorem p_asSeqL (b : List D) : asSeq (.lst b) = some b := (rfl)
@[simp] theorem p_asSeqT (b : List D) : asSeq (.tup b) = some b := (rfl)
@[simp] theorem p_bV (f : DF) : bV f ρ = bnd (f ρ) asB := (rfl)
@[simp] theorem p_dB (g : DB) : dB g ρ = bnd (g ρ) fun b => some (.bl b) := (rfl)
@[simp] theorem p_bAnd (g h : DB) : bAnd g h ρ = bnd (g ρ) fun b => if b = true then h ρ else some false := (rfl)
@[simp] theorem p_bOr (g h : DB) : bOr g h ρ = bnd (g ρ) fun b => if b = true then some true else h ρ := (rfl)
@[simp] theorem p_bNot (g : DB) : bNot g ρ = bnd (g ρ) fun b => some (!b) := (rfl)
@[simp] theorem p_dIf (g : DB) (f h : DF) : dIf g f h ρ = bnd (g ρ) fun b => if b = true then f ρ else h ρ := (rfl)
@[simp] theorem p_dAnd (f g : DF) : dAnd f g ρ = bnd (f ρ) fun x => bnd (asB x) fun b => if b = true then g ρ else some (.bl false) := (rfl)
@[simp] theorem p_dOr (f g : DF) : dOr f g ρ = bnd (f ρ) fun x => bnd (asB x) fun b => if b = true then some (.bl true) else g ρ := (rfl)
@[simp] theorem p_dNot (f : DF) : dNot f ρ = bnd (f ρ) fun x => bnd (asB x) fun b => some (.bl (!b)) := (rfl)
@[simp] theorem p_dCh (o o' : D → D → Option D) (f g h : DF) : dCh o o' f g h ρ = bnd (f ρ) fun x => bnd (g ρ) fun y => bnd (o x y) fun z => bnd (asB z) fun k => if k = true then bnd (h ρ) fun w => o' y w else some (.bl false) := (rfl)
@[simp] theorem p_bYes : bYes ρ = some true := (rfl)
@[simp] theorem p_gN (i : Nat) : gN i x ρ = some (st ρ i x) := (rfl)
@[simp] theorem p_gT (h : DGs) (ds : List D) : gT h (.tup ds) ρ = h ds ρ := (rfl)
@[simp] theorem p_gsNil : gsNil [] ρ = some ρ := (rfl)
@[simp] theorem p_gsCons (g : DG) (h : DGs) (r : List D) : gsCons g h (x :: r) ρ = bnd (g x ρ) (h r) := (rfl)
@[simp] theorem p_dNx : dNx ρ = some (.nx ρ) := (rfl)
@[simp] theorem p_dRet (f : DF) : dRet f ρ = bnd (f ρ) fun d => some (.rt d) := (rfl)
@[simp] theorem p_dSet (i : Nat) (f : DF) : dSet i f ρ = bnd (f ρ) fun d => some (.nx (st ρ i d)) := (rfl)
@[simp] theorem p_dIfS (t : DB) (f g : DS) : dIfS t f g ρ = bnd (t ρ) fun b => if b = true then f ρ else g ρ := (rfl)
@[simp] theorem p_dAsg (g : DG) (f : DF) : dAsg g f ρ = bnd (f ρ) fun d => bnd (g d ρ) fun ρ' => some (.nx ρ') := (rfl)
@[simp] theorem p_dPar (i j : Nat) (f g : DF) : dPar i j f g ρ = bnd (f ρ) fun x => bnd (g ρ) fun y => some (.nx (st (st ρ i x) j y)) := (rfl)
@[simp] theorem p_dAug (i : Nat) (f : DF) : dAug i f ρ = bnd (lk ρ i) fun x => bnd (asI x) fun a => bnd (f ρ) fun y => bnd (asI y) fun b => some (.nx (st ρ i (.int (a + b)))) := (rfl)
@[simp] theorem p_dApp (i : Nat) (f : DF) : dApp i f ρ = bnd (f ρ) fun d => bnd (lk ρ i) fun x => bnd (asL x) fun ds => if ds.length < 16777216 then some (.nx (st ρ i (.lst (ds ++ [d])))) else none := (rfl)
@[simp] theorem p_dSetIx (i : Nat) (k f : DF) : dSetIx i k f ρ = bnd (f ρ) fun d => bnd (k ρ) fun j => bnd (asI j) fun n => bnd (lk ρ i) fun x => bnd (asL x) fun ds => bnd (ixNat ds.length n) fun m => some (.nx (st ρ i (.lst (ds.set m d)))) := (rfl)
@[simp] theorem p_nLst (f : DFs) : nLst f ρ = bnd (f ρ) fun ds => if ds.length ≤ 100000 then some ds else none := (rfl)
@[simp] theorem p_nRep (f g : DF) : nRep f g ρ = bnd (f ρ) fun x => bnd (asL x) fun ds => bnd (g ρ) fun y => bnd (asI y) fun k => if k ≤ 16777216 ∧ -16777216 ≤ k ∧ ds.length * k.toNat ≤ 16777216 then some (List.replicate k.toNat ds).flatten else none := (rfl)
@[simp] theorem p_nOf (f : DF) : nOf f ρ = bnd (f ρ) asSeq := (rfl)
@[simp] theorem p_dSetN (i : Nat) (f : DFs) : dSetN i f ρ = bnd (f ρ) fun ds => some (.nx (st ρ i (.lst ds))) := (rfl)
@[simp] theorem p_dParN1 (i j : Nat) (f : DFs) (g : DF) : dParN1 i j f g ρ = bnd (f ρ) fun ds => bnd (g ρ) fun y => some (.nx (st (st ρ i (.lst ds)) j y)) := (rfl)
@[simp] theorem p_dParNN (i j : Nat) (f g : DFs) : dParNN i j f g ρ = bnd (f ρ) fun ds => bnd (g ρ) fun es => some (.nx (st (st ρ i (.lst ds)) j (.lst es))) := (rfl)
@[simp] theorem p_iSeq (f : DF) : iSeq f ρ = bnd (f ρ) asSeq := (rfl)
@[simp] theorem p_iRng1 (f : DFs) : iRng1 f ρ = bnd (f ρ) opRng1 := (rfl)
@[simp] theorem p_iRng2 (f : DFs) : iRng2 f ρ = bnd (f ρ) opRng2 := (rfl)
@[simp] theorem p_oNo : oNo ρ = some none := (rfl)
@[simp] theorem p_oIx (f : DF) : oIx f ρ = bnd (f ρ) fun d => bnd (asIx d) fun i => some (some i) := (rfl)
@[simp] theorem p_dSl (f : DF) (l u : DOx) : dSl f l u ρ = bnd (f ρ) fun x => bnd (l ρ) fun lo => bnd (u ρ) fun hi => opSl lo hi x := (rfl)
@[simp] theorem p_asIx (i : Int) : asIx (.int i) = some i := (rfl)
@[simp] theorem p_opTup (ds : List D) : opTup ds = if ds.length ≤ 100000 then some (.tup ds) else none := (rfl)
@[simp] theorem p_opLst (ds : List D) : opLst ds = if ds.length ≤ 100000 then some (.lst ds) else none := (rfl)
@[simp] theorem p_lenT (ds : List D) : opLen [.tup ds] = some (.int ds.length) := (rfl)
@[simp] theorem p_lenL (ds : List D) : opLen [.lst ds] = some (.int ds.length) := (rfl)
@[simp] theorem p_lenS (ds : List Int) : opLen [.scr ds] = some (.int ds.length) := (rfl)
@[simp] theorem p_tupT (ds : List D) : opTuple [.tup ds] = some (.tup ds) := (rfl)
@[simp] theorem p_tupL (ds : List D) : opTuple [.lst ds] = some (.tup ds) := (rfl)
@[simp] theorem p_add (a b : Int) : opAdd (.int a) (.int b) = some (.int (a + b)) := (rfl)
@[simp] theorem p_sub (a b : Int) : opSub (.int a) (.int b) = some (.int (a - b)) := (rfl)
@[simp] theorem p_mul (a b : Int) : opMul (.int a) (.int b) = if mulOk a b = true then some (.int (a * b)) else none := (rfl)
@[simp] theorem p_lt (a b : Int) : opLt (.int a) (.int b) = some (.bl (decide (a < b))) := (rfl)
@[simp] theorem p_le (a b : Int) : opLe (.int a) (.int b) = some (.bl (decide (a ≤ b))) := (rfl)
@[simp] theorem p_gt (a b : Int) : opGt (.int a) (.int b) = some (.bl (decide (b < a))) := (rfl)
@[simp] theorem p_ge (a b : Int) : opGe (.int a) (.int b) = some (.bl (decide (b ≤ a))) := (rfl)
@[simp] theorem p_eqI (a b : Int) : opEq (.int a) (.int b) = some (.bl (decide (a = b))) := by
  by_cases h : a = b <;> simp [opEq, okD, eqD, h]
@[simp] theorem p_neI (a b : Int) : opNe (.int a) (.int b) = some (.bl (!decide (a = b))) := by
  by_cases h : a = b <;> simp [opNe, okD, eqD, h]
theorem dec_cast {p q : Prop} [Decidable p] [Decidable q] (h : p ↔ q) : some (D.bl (decide p)) = some (D.bl (decide q)) := by simp only [h]
@[simp high] theorem p_eqN (a b : Nat) : opEq (.int (a : Int)) (.int (b : Int)) = some (.bl (decide (a = b))) := by rw [p_eqI]; exact dec_cast (by omega)
@[simp high] theorem p_neN (a b : Nat) : opNe (.int (a : Int)) (.int (b : Int)) = some (.bl (!decide (a = b))) := by
  rw [p_neI]
  have : ((a : Int) = (b : Int)) ↔ a = b := by omega
  simp only [this]
@[simp high] theorem p_ltN (a b : Nat) : opLt (.int (a : Int)) (.int (b : Int)) = some (.bl (decide (a < b))) := by rw [p_lt]; exact dec_cast (by omega)
@[simp high] theorem p_leN (a b : Nat) : opLe (.int (a : Int)) (.int (b : Int)) = some (.bl (decide (a ≤ b))) := by rw [p_le]; exact dec_cast (by omega)
@[simp high] theorem p_gtN (a b : Nat) : opGt (.int (a : Int)) (.int (b : Int)) = some (.bl (decide (b < a))) := by rw [p_gt]; exact dec_cast (by omega)
@[simp high] theorem p_geN (a b : Nat) : opGe (.int (a : Int)) (.int (b : Int)) = some (.bl (decide (b ≤ a))) := by rw [p_ge]; exact dec_cast (by omega)
@[simp] theorem p_isN (d : D) : opIs d .non = some (.bl (isNone d)) := by cases d <;> rfl
@[simp] theorem p_isnN (d : D) : opIsNot d .non = some (.bl (!isNone d)) := by cases d <;> rfl
@[simp] theorem p_isB (a b : Bool) : opIs (.bl a) (.bl b) = some (.bl (decide (a = b))) := (rfl)
@[simp] theorem p_isnB (a b : Bool) : opIsNot (.bl a) (.bl b) = some (.bl (!decide (a = b))) := (rfl)
@[simp] theorem p_isNone_n : isNone .non = true := (rfl)
@[simp] theorem p_isNone_i (i : Int) : isNone (.int i) = false := (rfl)
@[simp] theorem p_isNone_t (i : List D) : isNone (.tup i) = false := (rfl)
@[simp] theorem p_isNone_l (i : List D) : isNone (.lst i) = false := (rfl)
@[simp] theorem p_appL (a b : List D) : opAdd (.lst a) (.lst b) = if a.length + b.length ≤ 16777216 then some (.lst (a ++ b)) else none := (rfl)
@[simp] theorem p_appT (a b : List D) : opAdd (.tup a) (.tup b) = if a.length + b.length ≤ 16777216 then some (.tup (a ++ b)) else none := (rfl)
end
theorem b_mc {α β : Type} (f : α → β) (a : α) (l : List α) : List.map f (a :: l) = f a :: List.map f l := (rfl)
theorem b_mn {α β : Type} (f : α → β) : List.map f [] = [] := (rfl)
theorem b_ac {α : Type} (a : α) (l r : List α) : (a :: l) ++ r = a :: (l ++ r) := (rfl)
theorem b_an {α : Type} (r : List α) : ([] : List α) ++ r = r := (rfl)
theorem b_rs {α : Type} (n : Nat) (a : α) : List.replicate (n + 1) a = a :: List.replicate n a := (rfl)
theorem b_rz {α : Type} (a : α) : List.replicate 0 a = [] := (rfl)
theorem b_lc {α : Type} (a : α) (l : List α) : (a :: l).length = l.length + 1 := (rfl)
theorem b_ln {α : Type} : ([] : List α).length = 0 := (rfl)
theorem b_it {α : Type} (a b : α) : (if True then a else b) = a := by simp
theorem b_if {α : Type} (a b : α) : (if False then a else b) = b := by simp
theorem b_itt {α : Type} (a b : α) : (if true = true then a else b) = a := by simp
theorem b_iff {α : Type} (a b : α) : (if false = true then a else b) = b := by simp
theorem mod_i {a : Int} {b : Nat} (h : 0 < b) : opMod (.int a) (.int b) = some (.int (a % b)) := by
  have h' : (0 : Int) < b := by omega
  simp only [opMod, if_pos h']
theorem mul_i {a b : Int} (h : -18446744073709551616 < b) (h2 : b < 18446744073709551616) : opMul (.int a) (.int b) = some (.int (a * b)) := by
  have : mulOk a b = true := by simp [mulOk, h, h2]
  simp only [opMul, if_pos this]
theorem mul_j {a b : Int} (h : -18446744073709551616 < a) (h2 : a < 18446744073709551616) : opMul (.int a) (.int b) = some (.int (a * b)) := by
  have : mulOk a b = true := by simp [mulOk, h, h2]
  simp only [opMul, if_pos this]
theorem mod_n {a b : Nat} (h : 0 < b) : opMod (.int a) (.int b) = some (.int ((a % b : Nat) : Int)) := by
  have h' : (0 : Int) < b := by omega
  simp only [opMod, if_pos h']
  try rfl
theorem div_n {a b : Nat} (h : 0 < b) (h2 : b < 18446744073709551616) : opFdiv (.int a) (.int b) = some (.int ((a / b : Nat) : Int)) := by
  have h' : (0 : Int) < b := by omega
  have h3 : (b : Int) < 18446744073709551616 := by omega
  simp only [opFdiv, if_pos (And.intro h' h3)]
  try rfl
theorem mulOk_r {a b : Nat} (h : b < 18446744073709551616) : mulOk a b = true := by
  have h3 : (b : Int) < 18446744073709551616 := by omega
  have h4 : (-18446744073709551616 : Int) < b := by omega
  simp [mulOk, h3, h4]
theorem mul_n {a b : Nat} (h : b < 18446744073709551616) : opMul (.int a) (.int b) = some (.int ((a * b : Nat) : Int)) := by
  simp [mulOk_r h]
theorem ixN {n i : Nat} (h : i < n) : ixNat n (i : Int) = some i := by
  have h1 : (0 : Int) ≤ i := by omega
  have h2 : (i : Int) < n := by omega
  simp [ixNat, h2]
theorem ixT {xs : List D} {i : Nat} {d : D} (h : xs[i]? = some d) : opIx (.tup xs) (.int i) = some d := by
  have hl : i < xs.length := by
    apply Classical.byContradiction
    intro q
    rw [List.getElem?_eq_none (by omega)] at h
    cases h
  simp [opIx, ixN hl, h]
theorem ixL {xs : List D} {i : Nat} {d : D} (h : xs[i]? = some d) : opIx (.lst xs) (.int i) = some d := by
  have hl : i < xs.length := by
    apply Classical.byContradiction
    intro q
    rw [List.getElem?_eq_none (by omega)] at h
    cases h
  simp [opIx, ixN hl, h]
theorem ixRT {m i : Nat} {f : Nat → D} (h : i < m) : opIx (.tup ((List.range m).map f)) (.int i) = some (f i) := by
  apply ixT
  simp [h]
theorem ixRL {m i : Nat} {f : Nat → D} (h : i < m) : opIx (.lst ((List.range m).map f)) (.int i) = some (f i) := by
  apply ixL
  simp [h]
theorem rng1 {n : Nat} (h : n < 4611686018427387904) : opRng1 [.int n] = some ((List.range n).map fun (i : Nat) => D.int i) := by
  have h1 : (-4611686018427387904 : Int) ≤ n := by omega
  have h2 : (n : Int) < 4611686018427387904 := by omega
  simp [opRng1, h1, h2, rngD]
theorem enum_range {m : Nat} (f : Nat → D) : enumD ((List.range m).map f) = (List.range m).map fun i => .tup [.int (i : Nat), f i] := by
  unfold enumD
  apply List.ext_getElem
  · simp
  · intro i h1 h2
    simp
theorem p_iEnT {fs : DFs} {ρ : Rho} {xs : List D} (h : fs ρ = some [.tup xs]) : iEn fs ρ = some (enumD xs) := by simp [iEn, h]
theorem seq_nx {f g : DS} {ρ ρ' : Rho} (h : f ρ = some (.nx ρ')) : dSeq f g ρ = g ρ' := by simp [dSeq, h]
@[simp] theorem p_dSeq (f g : DS) (ρ : Rho) : dSeq f g ρ = bnd (f ρ) fun r => match r with
  | .nx ρ' => g ρ'
  | .rt d => some (.rt d) := (rfl)
theorem run_rt {n a : Nat} {f : DS} {ds : List D} {d : D} (hl : ds.length = a) (h : f (ds.map some ++ List.replicate (n - a) none) = some (.rt d)) : runD n a f ds = some d := by
  simp [runD, hl, h]
theorem for_eq {it : DFs} {g : DG} {b : DS} {ρ : Rho} {ds : List D} (h : it ρ = some ds) : dFor it g b ρ = forL g b ds ρ := by simp [dFor, h]
theorem for_fold {α β : Type} {g : DG} {b : DS} (e : α → D) (P : β → Rho → Prop) (f : β → α → β) : ∀ (xs : List α) (a : β) (ρ : Rho),
    (∀ x ∈ xs, ∀ a ρ, P a ρ → ∃ ρ1, g (e x) ρ = some ρ1 ∧ ∃ ρ2, b ρ1 = some (.nx ρ2) ∧ P (f a x) ρ2) → P a ρ → ∃ ρ', forL g b (xs.map e) ρ = some (.nx ρ') ∧ P (xs.foldl f a) ρ'
  | [], a, ρ, _, h => ⟨ρ, rfl, h⟩
  | x :: xs, a, ρ, hs, h => by
    obtain ⟨ρ1, h1, ρ2, h2, h3⟩ := hs x List.mem_cons_self a ρ h
    obtain ⟨ρ', h4, h5⟩ := for_fold e P f xs (f a x) ρ2 (fun y hy => hs y (List.mem_cons_of_mem _ hy)) h3
    exact ⟨ρ', by simp [forL, h1, h2, h4], h5⟩
/-- by an invariant of what is done so far -/
theorem for_pre {α : Type} {g : DG} {b : DS} (e : α → D) (P : List α → Rho → Prop) (xs : List α) {ρ : Rho} (hs : ∀ l x r, xs = l ++ x :: r → ∀ ρ, P l ρ → ∃ ρ1, g (e x) ρ = some ρ1 ∧ ∃ ρ2, b ρ1 = some (.nx ρ2) ∧ P (l ++ [x]) ρ2) (h : P [] ρ) :
    ∃ ρ', forL g b (xs.map e) ρ = some (.nx ρ') ∧ P xs ρ' := by
  have gen : ∀ (r l : List α) (ρ : Rho), xs = l ++ r → P l ρ → ∃ ρ', forL g b (r.map e) ρ = some (.nx ρ') ∧ P xs ρ' := by
    intro r
    induction r with
    | nil =>
      intro l ρ q hp
      rw [List.append_nil] at q
      subst q
      exact ⟨ρ, rfl, hp⟩
    | cons x r ih =>
      intro l ρ q hp
      obtain ⟨ρ1, h1, ρ2, h2, h3⟩ := hs l x r q ρ hp
      obtain ⟨ρ', h4, h5⟩ := ih (l ++ [x]) ρ2 (by rw [q]; simp) h3
      exact ⟨ρ', by rw [List.map_cons]; simp [forL, h1, h2, h4], h5⟩
  exact gen xs [] ρ rfl h
/-- over a range, by an invariant -/
theorem for_range {g : DG} {b : DS} (e : Nat → D) (P : Nat → Rho → Prop) (n : Nat) (hs : ∀ i, i < n → ∀ ρ, P i ρ → ∃ ρ1, g (e i) ρ = some ρ1 ∧ ∃ ρ2, b ρ1 = some (.nx ρ2) ∧ P (i + 1) ρ2) {ρ : Rho} (h : P 0 ρ) :
    ∃ ρ', forL g b ((List.range n).map e) ρ = some (.nx ρ') ∧ P n ρ' := by
  have gen : ∀ (k s : Nat) (ρ : Rho), s + k = n → P s ρ → ∃ ρ', forL g b ((List.range' s k).map e) ρ = some (.nx ρ') ∧ P n ρ' := by
    intro k
    induction k with
    | zero =>
      intro s ρ e hp
      have : s = n := by omega
      subst this
      exact ⟨ρ, rfl, hp⟩
    | succ k ih =>
      intro s ρ e' hp
      obtain ⟨ρ1, h1, ρ2, h2, h3⟩ := hs s (by omega) ρ hp
      obtain ⟨ρ', h4, h5⟩ := ih (s + 1) ρ2 (by omega) h3
      refine ⟨ρ', ?_, h5⟩
      rw [List.range'_succ, List.map_cons]
      simp [forL, h1, h2, h4]
  rw [List.range_eq_range']
  exact gen n 0 ρ (by omega) h
/-- no one returns -/
theorem for_all {α : Type} {g : DG} {b : DS} (e : α → D) (P : Rho → Prop) (xs : List α) (ρ : Rho) (hs : ∀ x ∈ xs, ∀ ρ, P ρ → ∃ ρ1, g (e x) ρ = some ρ1 ∧ ∃ ρ2, b ρ1 = some (.nx ρ2) ∧ P ρ2) (h : P ρ) :
    ∃ ρ', forL g b (xs.map e) ρ = some (.nx ρ') ∧ P ρ' :=
  for_fold e (fun (_ : Unit) ρ => P ρ) (fun a _ => a) xs () ρ (fun x hx _ ρ hP => hs x hx ρ hP) h
theorem while_m {t : DB} {b : DS} (P : Nat → Rho → Prop) (Q : Rho → Prop) (hs : ∀ k ρ, P k ρ → ∃ c, t ρ = some c ∧ (c = true → ∃ k' ρ', k' < k ∧ b ρ = some (.nx ρ') ∧ P k' ρ') ∧ (c = false → Q ρ)) :
    ∀ (n k : Nat) (ρ : Rho), k < n → P k ρ → ∃ ρ', whileN t b n ρ = some (.nx ρ') ∧ Q ρ'
  | 0, k, ρ, hk, _ => by omega
  | n + 1, k, ρ, hk, h => by
    obtain ⟨c, h1, h2, h3⟩ := hs k ρ h
    cases c with
    | false => exact ⟨ρ, by simp [whileN, h1], h3 rfl⟩
    | true =>
      obtain ⟨k', ρ', h4, h5, h6⟩ := h2 rfl
      obtain ⟨ρ2, h7, h8⟩ := while_m P Q hs n k' ρ' (by omega) h6
      exact ⟨ρ2, by simp [whileN, h1, h5, h7], h8⟩
theorem dWhile_m {t : DB} {b : DS} (P : Nat → Rho → Prop) (Q : Rho → Prop) {k : Nat} {ρ : Rho} (h : P k ρ) (hk : k < 1000000000000000000000000000000) (hs : ∀ k ρ, P k ρ → ∃ c, t ρ = some c ∧ (c = true → ∃ k' ρ', k' < k ∧ b ρ = some (.nx ρ') ∧ P k' ρ') ∧ (c = false → Q ρ)) :
    ∃ ρ', dWhile t b ρ = some (.nx ρ') ∧ Q ρ' := by
  unfold dWhile
  exact while_m P Q hs FUEL k ρ (by unfold FUEL; exact hk) h
theorem compL_map {α : Type} {g : DG} {t : DB} {e : DF} {ρ : Rho} (en : α → D) (p : α → Bool) (q : α → D) : ∀ (xs : List α),
    (∀ x ∈ xs, ∃ ρ1, g (en x) ρ = some ρ1 ∧ t ρ1 = some (p x) ∧ (p x = true → e ρ1 = some (q x))) → compL g t e ρ (xs.map en) = some ((xs.filter p).map q)
  | [], _ => rfl
  | x :: xs, hs => by
    obtain ⟨ρ1, h1, h2, h3⟩ := hs x List.mem_cons_self
    have ih := compL_map en p q xs fun y hy => hs y (List.mem_cons_of_mem _ hy)
    cases hp : p x with
    | true => simp [compL, h1, h2, hp, h3 hp, ih]
    | false => simp [compL, h1, h2, hp, ih]
theorem compL_all {α : Type} {g : DG} {e : DF} {ρ : Rho} (en : α → D) (q : α → D) (xs : List α)
    (hs : ∀ x ∈ xs, ∃ ρ1, g (en x) ρ = some ρ1 ∧ e ρ1 = some (q x)) : compL g bYes e ρ (xs.map en) = some (xs.map q) := by
  rw [compL_map en (fun _ => true) q xs fun x hx => by
    obtain ⟨ρ1, h1, h2⟩ := hs x hx
    exact ⟨ρ1, h1, rfl, fun _ => h2⟩]
  rw [List.filter_eq_self.mpr (fun _ _ => rfl)]
/-- a comprehension, without an if -/
theorem comp_all {α : Type} {it : DFs} {g : DG} {e : DF} {vs : List Nat} {ρ : Rho} (en : α → D) (q : α → D) (xs : List α) (hi : it ρ = some (xs.map en)) (hl : xs.length ≤ 16777216)
    (hs : ∀ x ∈ xs, ∃ ρ1, g (en x) (wipeR ρ vs) = some ρ1 ∧ e ρ1 = some (q x)) : dComp it g bYes e vs ρ = some (.lst (xs.map q)) := by
  unfold dComp
  rw [hi]
  simp only [Option.bind_some]
  rw [compL_all en q xs hs]
  simp [lstOk, hl]
theorem comp_if {α : Type} {it : DFs} {g : DG} {t : DB} {e : DF} {vs : List Nat} {ρ : Rho} (en : α → D) (p : α → Bool) (q : α → D) (xs : List α) (hi : it ρ = some (xs.map en)) (hl : xs.length ≤ 16777216)
    (hs : ∀ x ∈ xs, ∃ ρ1, g (en x) (wipeR ρ vs) = some ρ1 ∧ t ρ1 = some (p x) ∧ (p x = true → e ρ1 = some (q x))) : dComp it g t e vs ρ = some (.lst ((xs.filter p).map q)) := by
  unfold dComp
  rw [hi]
  simp only [Option.bind_some]
  rw [compL_map en p q xs hs]
  have : (xs.filter p).length ≤ 16777216 := Nat.le_trans (List.length_filter_le p xs) hl
  simp [lstOk, this]
theorem asBls_map {α : Type} (p : α → Bool) : ∀ xs : List α, asBls (xs.map fun x => .bl (p x)) = some (xs.map p)
  | [] => rfl
  | x :: xs => by simp [asBls, asBls_map p xs]
theorem asInts_map {α : Type} (p : α → Int) : ∀ xs : List α, asInts (xs.map fun x => .int (p x)) = some (xs.map p)
  | [] => rfl
  | x :: xs => by simp [asInts, asInts_map p xs]
theorem opAll_map {α : Type} (p : α → Bool) (xs : List α) : opAll [.lst (xs.map fun x => .bl (p x))] = some (.bl (xs.all p)) := by
  simp [opAll, asBls_map, List.all_map]
theorem okDs_map {α : Type} {n : Nat} (f : α → D) : ∀ l : List α, (∀ x ∈ l, okD n (f x) = true) → okDs n (l.map f) = true
  | [], _ => rfl
  | x :: l, h => by
    rw [List.map_cons]
    unfold okDs
    rw [h x List.mem_cons_self, okDs_map f l fun y hy => h y (List.mem_cons_of_mem _ hy)]
    rfl
theorem opEq_ok {d e : D} (h1 : okD 60 d = true) (h2 : okD 60 e = true) : opEq d e = some (.bl (eqD d e)) := by simp [opEq, h1, h2]
theorem opNe_ok {d e : D} (h1 : okD 60 d = true) (h2 : okD 60 e = true) : opNe d e = some (.bl (!eqD d e)) := by simp [opNe, h1, h2]
@[simp] theorem p_eqB (a b : Bool) : opEq (.bl a) (.bl b) = some (.bl (decide (a = b))) := by cases a <;> cases b <;> rfl
@[simp] theorem p_neB (a b : Bool) : opNe (.bl a) (.bl b) = some (.bl (!decide (a = b))) := by cases a <;> cases b <;> rfl
mutual
def sameD : D → D → Bool
  | .non, .non => true
  | .bl a, .bl b => a == b
  | .int i, .int j => i == j
  | .str x, .str y => decide (x = y)
  | .tup xs, .tup ys => sameDs xs ys
  | .lst xs, .lst ys => sameDs xs ys
  | _, _ => false
def sameDs : List D → List D → Bool
  | [], [] => true
  | x :: xs, y :: ys => sameD x y && sameDs xs ys
  | _, _ => false
end
mutual
theorem sameD_eq : ∀ (x y : D), sameD x y = true → x = y
  | .non, y, h => by cases y <;> first | rfl | (simp [sameD] at h)
  | .bl a, y, h => by cases y <;> simp [sameD] at h <;> rw [h]
  | .int a, y, h => by cases y <;> simp [sameD] at h <;> rw [h]
  | .str a, y, h => by cases y <;> simp [sameD] at h <;> rw [h]
  | .tup a, y, h => by
    cases y <;> simp [sameD] at h
    rw [sameDs_eq _ _ h]
  | .lst a, y, h => by
    cases y <;> simp [sameD] at h
    rw [sameDs_eq _ _ h]
  | .bell a, y, h => by cases y <;> simp [sameD] at h
  | .scr a, y, h => by cases y <;> simp [sameD] at h
theorem sameDs_eq : ∀ (x y : List D), sameDs x y = true → x = y
  | [], [], _ => rfl
  | [], _ :: _, h => by simp [sameDs] at h
  | _ :: _, [], h => by simp [sameDs] at h
  | x :: xs, y :: ys, h => by
    simp only [sameDs, Bool.and_eq_true] at h
    rw [sameD_eq x y h.1, sameDs_eq xs ys h.2]
end
def sameO : Option D → D → Bool
  | some x, y => sameD x y
  | none, _ => false
theorem sameO_eq {x : Option D} {y : D} (h : sameO x y = true) : x = some y := by
  cases x with
  | none => cases h
  | some x => rw [sameD_eq x y h]
end Mi
namespace Mi
open DL
def eO : Option Nat → D
  | none => .non
  | some n => .int n
def eV (m : Nat) (f : Nat → Nat) : D := .tup ((List.range m).map fun i => .int (f i))
def eR (w : Nat) (f : Nat → Option Nat) : D := .tup ((List.range w).map fun j => eO (f j))
def eT (m w : Nat) (T : Nat → Nat → Option Nat) : D := .tup ((List.range m).map fun i => eR w (T i))
def eP (p : Nat × Nat) : D := .tup [.int p.1, .int p.2]
def eL (l : List Nat) : D := .lst (l.map fun n => .int (n : Nat))
theorem ixRT0 {m : Nat} {f : Nat → D} (h : 0 < m) : opIx (.tup ((List.range m).map f)) (.int 0) = some (f 0) := ixRT (i := 0) h
theorem ix_eT {m w i : Nat} {T : Nat → Nat → Option Nat} (h : i < m) : opIx (eT m w T) (.int i) = some (eR w (T i)) := ixRT h
theorem ix_eT0 {m w : Nat} {T : Nat → Nat → Option Nat} (h : 0 < m) : opIx (eT m w T) (.int 0) = some (eR w (T 0)) := ixRT0 h
theorem ix_eR {w i : Nat} {T : Nat → Option Nat} (h : i < w) : opIx (eR w T) (.int i) = some (eO (T i)) := ixRT h
theorem ix_eV {w i : Nat} {T : Nat → Nat} (h : i < w) : opIx (eV w T) (.int i) = some (.int (T i)) := ixRT h
@[simp] theorem len_eT (m w : Nat) (T : Nat → Nat → Option Nat) : opLen [eT m w T] = some (.int m) := by simp [eT]
@[simp] theorem len_eR (w : Nat) (T : Nat → Option Nat) : opLen [eR w T] = some (.int w) := by simp [eR]
@[simp] theorem len_eV (w : Nat) (T : Nat → Nat) : opLen [eV w T] = some (.int w) := by simp [eV]
@[simp] theorem isNone_eO (x : Option Nat) : isNone (eO x) = x.isNone := by cases x <;> rfl
@[simp] theorem seq_eT (m w : Nat) (T : Nat → Nat → Option Nat) : asSeq (eT m w T) = some ((List.range m).map fun i => eR w (T i)) := rfl
@[simp] theorem seq_eR (w : Nat) (T : Nat → Option Nat) : asSeq (eR w T) = some ((List.range w).map fun j => eO (T j)) := rfl
@[simp] theorem seq_eV (w : Nat) (T : Nat → Nat) : asSeq (eV w T) = some ((List.range w).map fun j => .int (T j)) := rfl
@[simp] theorem seq_eL (l : List Nat) : asSeq (eL l) = some (l.map fun n => .int (n : Nat)) := rfl
@[simp] theorem eO_some (n : Nat) : eO (some n) = .int n := rfl
@[simp] theorem eO_none : eO none = .non := rfl
theorem gcd_step {a b : Nat} (h : 0 < b) : Nat.gcd b (a % b) = Nat.gcd a b := by
  rw [Nat.gcd_comm b, ← Nat.gcd_rec, Nat.gcd_comm]
theorem gcd_loop (ds : DF) {a b : Nat} (hb : b < 1000000000000000000000000000000) :
    ∃ ρ', dWhile (bV (d2 opGt (dv 1) (dc (.int 0)))) m_gcd_b1 [some (.int a), some (.int b)] = some (.nx ρ') ∧ ρ' = [some (.int (Nat.gcd a b)), some (.int 0)] := by
  refine dWhile_m (fun k ρ => ∃ x y : Nat, ρ = [some (.int x), some (.int y)] ∧ y = k ∧ Nat.gcd x y = Nat.gcd a b) _ (k := b) ⟨a, b, rfl, rfl, rfl⟩ hb ?_
  rintro k ρ ⟨x, y, rfl, rfl, hg⟩
  refine ⟨decide (0 < y), by simp, ?_, ?_⟩
  · intro h
    have h := of_decide_eq_true h
    refine ⟨x % y, [some (.int y), some (.int ((x % y : Nat) : Int))], Nat.mod_lt _ h, by simp [m_gcd_b1, mod_n h], y, x % y, rfl, rfl, ?_⟩
    rw [gcd_step h, hg]
  · intro h
    have h := of_decide_eq_false h
    have : y = 0 := by omega
    subst this
    rw [Nat.gcd_zero_right] at hg
    rw [hg]
    rfl
theorem gcd_m {a b : Nat} (hb : b < 1000000000000000000000000000000) : m_gcd [.int a, .int b] = some (.int (Nat.gcd a b)) := by
  obtain ⟨ρ', h, e⟩ := gcd_loop (dv 0) (a := a) hb
  refine run_rt rfl ?_
  show dSeq _ _ [some (.int a), some (.int b)] = _
  rw [seq_nx h, e]
  simp
theorem lgcd_m {a b : Nat} (hb : b < 1000000000000000000000000000000) : m_law_gcd [.int a, .int b] = some (.int (Nat.gcd a b)) := by
  rw [show m_law_gcd = m_gcd from rfl]
  exact gcd_m hb
theorem div_gcd_mul {a b : Nat} (hg0 : 0 < Nat.gcd a b) : a / a.gcd b * b = a.lcm b := by
  unfold Nat.lcm
  rw [Nat.mul_comm, ← Nat.mul_div_assoc _ (Nat.gcd_dvd_left a b), Nat.mul_comm]
theorem lcm_m {a b : Nat} (ha : 0 < a) (hb : b < 18446744073709551616) (hg : Nat.gcd a b < 18446744073709551616) : m_lcm [.int a, .int b] = some (.int (Nat.lcm a b)) := by
  have hg0 : 0 < Nat.gcd a b := Nat.gcd_pos_of_pos_left _ ha
  have h1 := mul_n (a := a / Nat.gcd a b) hb
  have h2 := gcd_m (a := a) (b := b) (by omega)
  have h3 := div_n (a := a) hg0 hg
  refine run_rt rfl ?_
  rw [div_gcd_mul hg0] at h1
  simp only [p_dRet, p_d2, p_dL, p_dcons, p_dnil, p_dv, lk_z, lk_s, List.map_cons, List.map_nil, List.cons_append, bnd_some, h1, h2, h3]
theorem llcm_m {a b : Nat} (ha : 0 < a) (hb : b < 18446744073709551616) (hg : Nat.gcd a b < 18446744073709551616) : m_law_lcm [.int a, .int b] = some (.int (Nat.lcm a b)) := by
  have hg0 : 0 < Nat.gcd a b := Nat.gcd_pos_of_pos_left _ ha
  have h1 := mul_n (a := a) hb
  have h2 := lgcd_m (a := a) (b := b) (by omega)
  have h3 := div_n (a := a * b) hg0 hg
  refine run_rt rfl ?_
  simp only [p_dRet, p_d2, p_dL, p_dcons, p_dnil, p_dv, lk_z, lk_s, List.map_cons, List.map_nil, List.cons_append, bnd_some, h1, h2, h3]
  rfl
structure Tab (m w : Nat) (T : Nat → Nat → Option Nat) : Prop where
  m0 : 0 < m
  m1 : m ≤ 100
  w0 : 0 < w
  w1 : w ≤ 100
  bd : ∀ i j e, T i j = some e → 0 < e ∧ e ≤ 1000000000000000000
def gStep (f : Nat → Option Nat) (g j : Nat) : Nat := match f j with
  | none => g
  | some e => Nat.gcd e g
def gRow (w : Nat) (f : Nat → Option Nat) : Nat := (List.range w).foldl (gStep f) 0
theorem gRow_succ (w : Nat) (f : Nat → Option Nat) : gRow (w + 1) f = gStep f (gRow w f) w := by
  unfold gRow
  rw [List.range_succ, List.foldl_append]
  rfl
theorem dvd_gRow (f : Nat → Option Nat) (d : Nat) : ∀ w : Nat, d ∣ gRow w f ↔ ∀ j, j < w → ∀ e, f j = some e → d ∣ e
  | 0 => by
    constructor
    · intro _ j hj
      omega
    · intro _
      exact Nat.dvd_zero d
  | w + 1 => by
    rw [gRow_succ]
    unfold gStep
    constructor
    · intro h j hj e he
      by_cases hjw : j = w
      · subst hjw
        rw [he] at h
        exact Nat.dvd_trans h (Nat.gcd_dvd_left _ _)
      · refine (dvd_gRow f d w).mp ?_ j (by omega) e he
        cases q : f w with
        | none => rw [q] at h; exact h
        | some x => rw [q] at h; exact Nat.dvd_trans h (Nat.gcd_dvd_right _ _)
    · intro h
      have h1 : d ∣ gRow w f := (dvd_gRow f d w).mpr fun j hj e he => h j (by omega) e he
      cases q : f w with
      | none => exact h1
      | some x => exact Nat.dvd_gcd (h w (by omega) x q) h1
theorem gRow_dvd {f : Nat → Option Nat} {w j e : Nat} (hj : j < w) (he : f j = some e) : gRow w f ∣ e := (dvd_gRow f _ w).mp (Nat.dvd_refl _) j hj e he
theorem gRow_pos {f : Nat → Option Nat} {w j e : Nat} (hj : j < w) (he : f j = some e) (h0 : 0 < e) : 0 < gRow w f := Nat.pos_of_dvd_of_pos (gRow_dvd hj he) h0
theorem gRow_le {f : Nat → Option Nat} {B : Nat} (hf : ∀ j e, f j = some e → 0 < e ∧ e ≤ B) : ∀ w, gRow w f ≤ B
  | 0 => Nat.zero_le _
  | w + 1 => by
    rw [gRow_succ]
    unfold gStep
    cases q : f w with
    | none => exact gRow_le hf w
    | some x => exact Nat.le_trans (Nat.gcd_le_left _ (hf w x q).1) (hf w x q).2
theorem row_divisor_m {w : Nat} {f : Nat → Option Nat} (hf : ∀ j e, f j = some e → 0 < e ∧ e ≤ 1000000000000000000) : m_row_divisor [eR w f] = some (.int (gRow w f)) := by
  refine run_rt rfl ?_
  obtain ⟨ρ', h1, h2, x, h3⟩ := for_fold (g := gN 2) (b := m_row_divisor_b1) (fun j => eO (f j))
    (fun (g : Nat) (ρ : Rho) => g ≤ 1000000000000000000 ∧ ∃ x, ρ = [some (eR w f), some (.int g), x]) (gStep f) (List.range w) 0 [some (eR w f), some (.int 0), none] (by
      rintro j _ a ρ ⟨ha, x, rfl⟩
      refine ⟨_, rfl, ?_⟩
      cases q : f j with
      | none => exact ⟨_, by simp [m_row_divisor_b1, q]; rfl, by simp [gStep, q, ha]⟩
      | some e =>
        have := gcd_m (a := e) (b := a) (by omega)
        have h2 := Nat.le_trans (Nat.gcd_le_left a (hf j e q).1) (hf j e q).2
        exact ⟨_, by simp [m_row_divisor_b1, q, this]; rfl, by simp [gStep, q, h2]⟩) ⟨by omega, none, rfl⟩
  simp only [p_dSeq, p_dSet, p_dc, bnd_some, List.map_cons, List.map_nil, List.cons_append, List.nil_append, st_z, st_s, List.replicate]
  rw [for_eq (ds := (List.range w).map fun j => eO (f j)) (by simp), h1]
  subst h3
  simp [gRow]
theorem turned_m {m w : Nat} {T : Nat → Nat → Option Nat} (h : Tab m w T) : m_turned [eT m w T] = some (eT w m (fun j i => T i j)) := by
  have hm := h.m0
  have hm1 := h.m1
  have hw1 := h.w1
  refine run_rt rfl ?_
  simp only [p_dRet, p_dL, p_dcons, p_dnil]
  unfold m_turned_c2
  rw [comp_all (fun j : Nat => D.int j) (fun j => eR m (fun i => T i j)) (List.range w) (by simp [ix_eT0 hm, rng1 (n := w) (by omega)]) (by simp; omega) (by
    intro j hj
    have hj := List.mem_range.mp hj
    refine ⟨_, rfl, ?_⟩
    simp only [p_dL, p_dcons, p_dnil]
    unfold m_turned_c1
    rw [comp_all (fun i => eR w (T i)) (fun i => eO (T i j)) (List.range m) (by simp) (by simp; omega) (by
      intro i hi
      refine ⟨_, rfl, ?_⟩
      simp [ix_eR hj])]
    simp [eR])]
  simp [eT]
theorem greatest_m {m w : Nat} {T : Nat → Nat → Option Nat} (h : Tab m w T) : m_greatest [eT m w T] = some (.tup [eV m (fun i => gRow w (T i)), eV w (fun j => gRow m (fun i => T i j))]) := by
  have hm1 := h.m1
  have hw1 := h.w1
  refine run_rt rfl ?_
  simp only [p_dRet, p_dL, p_dcons, p_dnil]
  unfold m_greatest_c1 m_greatest_c2
  rw [comp_all (fun i => eR w (T i)) (fun i => D.int (gRow w (T i))) (List.range m) (by simp) (by simp; omega) (by
      intro i hi
      refine ⟨_, rfl, ?_⟩
      simp [row_divisor_m (w := w) (fun j e q => h.bd i j e q)]),
    comp_all (fun j => eR m (fun i => T i j)) (fun j => D.int (gRow m (fun i => T i j))) (List.range w) (by simp [turned_m h]) (by simp; omega) (by
      intro j hj
      refine ⟨_, rfl, ?_⟩
      simp [row_divisor_m (w := m) (fun i e q => h.bd i j e q)])]
  simp [eV]
def kpRow (w : Nat) (T : Nat → Nat → Option Nat) (i : Nat) : List (Nat × Nat) := ((List.range w).filter fun j => (T i j).isSome).map fun j => (i, j)
def kp (m w : Nat) (T : Nat → Nat → Option Nat) : List (Nat × Nat) := (List.range m).flatMap (kpRow w T)
theorem kp_succ (m w : Nat) (T : Nat → Nat → Option Nat) : kp (m + 1) w T = kp m w T ++ kpRow w T m := by
  unfold kp
  rw [List.range_succ, List.flatMap_append]
  simp
theorem kpRow_len (w : Nat) (T : Nat → Nat → Option Nat) (i : Nat) : (kpRow w T i).length ≤ w := by
  unfold kpRow
  rw [List.length_map]
  exact Nat.le_trans (List.length_filter_le _ _) (by simp)
theorem kp_len (w : Nat) (T : Nat → Nat → Option Nat) : ∀ m, (kp m w T).length ≤ m * w
  | 0 => by simp [kp]
  | m + 1 => by
    rw [kp_succ, List.length_append, Nat.succ_mul]
    exact Nat.add_le_add (kp_len w T m) (kpRow_len w T m)
theorem kp_len1 {m w : Nat} {T : Nat → Nat → Option Nat} (h : Tab m w T) : (kp m w T).length ≤ 10000 :=
  Nat.le_trans (kp_len w T m) (Nat.mul_le_mul h.m1 h.w1)
theorem mem_kp {m w : Nat} {T : Nat → Nat → Option Nat} {p : Nat × Nat} : p ∈ kp m w T ↔ p.1 < m ∧ p.2 < w ∧ (T p.1 p.2).isSome = true := by
  unfold kp kpRow
  simp only [List.mem_flatMap, List.mem_range, List.mem_map, List.mem_filter]
  constructor
  · rintro ⟨i, hi, j, ⟨hj, hs⟩, rfl⟩
    exact ⟨hi, hj, hs⟩
  · rintro ⟨h1, h2, h3⟩
    exact ⟨p.1, h1, p.2, ⟨h2, h3⟩, rfl⟩
theorem kp_some {m w : Nat} {T : Nat → Nat → Option Nat} {p : Nat × Nat} (h : p ∈ kp m w T) : ∃ e, T p.1 p.2 = some e ∧ p.1 < m ∧ p.2 < w := by
  obtain ⟨h1, h2, h3⟩ := mem_kp.mp h
  cases q : T p.1 p.2 with
  | none => rw [q] at h3; cases h3
  | some e => exact ⟨e, rfl, h1, h2⟩
theorem known_places_m {m w : Nat} {T : Nat → Nat → Option Nat} (h : Tab m w T) : m_known_places [eT m w T] = some (.lst ((kp m w T).map eP)) := by
  have hm := h.m0
  have hm1 := h.m1
  have hw1 := h.w1
  refine run_rt rfl ?_
  obtain ⟨ρ', h1, x, h3⟩ := for_range (g := gN 2) (b := m_known_places_b1) (fun i : Nat => D.int i)
    (fun (i : Nat) (ρ : Rho) => ∃ x, ρ = [some (eT m w T), some (.lst ((kp i w T).map eP)), x, none]) m (by
      rintro i hi ρ ⟨x, rfl⟩
      refine ⟨_, rfl, ?_⟩
      have h2 : m_known_places_c1 [some (eT m w T), some (.lst ((kp i w T).map eP)), some (.int i), none]
          = some (.lst ((kpRow w T i).map eP)) := by
        unfold m_known_places_c1
        rw [comp_if (fun j : Nat => D.int j) (fun j => (T i j).isSome) (fun j => eP (i, j)) (List.range w) (by simp [ix_eT0 hm, rng1 (n := w) (by omega)]) (by simp; omega) (by
          intro j hj
          have hj := List.mem_range.mp hj
          refine ⟨_, rfl, ?_, fun _ => ?_⟩
          · simp [ix_eT hi, ix_eR hj]
          · simp [eP])]
        simp [kpRow, Function.comp_def]
      have hl : ((kp i w T).map eP).length + ((kpRow w T i).map eP).length ≤ 16777216 := by
        have h5 := kp_len w T i
        have h6 := kpRow_len w T i
        have h7 : i * w ≤ 100 * 100 := Nat.mul_le_mul (by omega) hw1
        simp only [List.length_map]
        omega
      refine ⟨[some (eT m w T), some (.lst ((kp (i + 1) w T).map eP)), some (.int i), none], ?_, _, rfl⟩
      rw [kp_succ, List.map_append]
      simp only [m_known_places_b1, p_dSet, p_d2, p_dv, lk_z, lk_s, bnd_some, st_s, st_z, h2, p_appL, if_pos hl]) (ρ := [some (eT m w T), some (.lst []), none, none]) ⟨none, rfl⟩
  simp only [p_dSeq, p_dSet, p_dL, p_dnil, p_opLst, bnd_some, List.map_cons, List.map_nil, List.cons_append, List.nil_append, st_z, st_s, List.replicate, List.length_nil, Nat.zero_le, if_true]
  rw [for_eq (ds := (List.range m).map fun i : Nat => D.int i) (by simp [rng1 (n := m) (by omega)]), h1]
  subst h3
  simp
abbrev gR (w : Nat) (T : Nat → Nat → Option Nat) (i : Nat) : Nat := gRow w (T i)
abbrev gC (m : Nat) (T : Nat → Nat → Option Nat) (j : Nat) : Nat := gRow m (fun i => T i j)
def isReal (m w : Nat) (T : Nat → Nat → Option Nat) : Bool := (kp m w T).all fun p => decide (Nat.lcm (gR w T p.1) (gC m T p.2) = (T p.1 p.2).getD 0)
theorem isReal_iff {m w : Nat} {T : Nat → Nat → Option Nat} : isReal m w T = true ↔ ∀ i, i < m → ∀ j, j < w → ∀ e, T i j = some e → Nat.lcm (gR w T i) (gC m T j) = e := by
  unfold isReal
  rw [List.all_eq_true]
  constructor
  · intro h i hi j hj e he
    have := h (i, j) (mem_kp.mpr ⟨hi, hj, by simp [he]⟩)
    simpa [he] using this
  · intro h p hp
    obtain ⟨e, he, h1, h2⟩ := kp_some hp
    simp [he, h p.1 h1 p.2 h2 e he]
theorem is_real_m {m w : Nat} {T : Nat → Nat → Option Nat} (h : Tab m w T) : m_is_real [eT m w T] = some (.bl (isReal m w T)) := by
  refine run_rt rfl ?_
  simp only [p_dSeq, p_dAsg, p_dL, p_dcons, p_dnil, p_dv, lk_z, bnd_some, greatest_m h, p_gT, p_gsCons, p_gsNil, p_gN, p_dRet, List.map_cons, List.map_nil, List.cons_append, List.nil_append, st_z, st_s, List.replicate]
  unfold m_is_real_c1
  rw [comp_all eP (fun p => D.bl (decide (Nat.lcm (gR w T p.1) (gC m T p.2) = (T p.1 p.2).getD 0))) (kp m w T) (by simp [known_places_m h]) (by have := kp_len1 h; omega) (by
    intro p hp
    obtain ⟨e, he, h1, h2⟩ := kp_some hp
    obtain ⟨e0, e1⟩ := h.bd _ _ _ he
    have r0 : 0 < gR w T p.1 := gRow_pos h2 he e0
    have c0 : 0 < gC m T p.2 := gRow_pos (f := fun i => T i p.2) h1 he e0
    have r1 : gR w T p.1 ≤ 1000000000000000000 := gRow_le (fun j e q => h.bd _ j e q) w
    have c1 : gC m T p.2 ≤ 1000000000000000000 := gRow_le (fun i e q => h.bd i _ e q) m
    have l := lcm_m r0 (b := gC m T p.2) (by omega) (Nat.lt_of_le_of_lt (Nat.gcd_le_left _ r0) (by omega))
    refine ⟨_, rfl, ?_⟩
    simp [ix_eV h1, ix_eV h2, ix_eT h1, ix_eR h2, he, l])]
  simp [opAll_map, isReal]
end Mi
namespace Mi
open DL
theorem cell_m {ns : List Int} (h : ns.length ≤ 63) {i : Nat} (hi : i ≤ 1000) : ∃ c : Int, m_law_cell [.scr ns, .int i] = some (.int c) := by
  have ix : ∀ j : Nat, j < ns.length → ∃ c, opIx (.scr ns) (.int j) = some (.int c) := fun j hj => ⟨ns[j], by simp [opIx, ixN hj, List.getElem?_eq_getElem hj]⟩
  by_cases h1 : i < ns.length
  · obtain ⟨c, hc⟩ := ix i h1
    have h2 : ((i : Int) < (ns.length : Int)) := by omega
    exact ⟨c, run_rt rfl (by simp only [bnd_some, bnd_none, p_dc, p_dv, lk_z, lk_s, st_z, st_s, un_z, un_s, wipe_n, wipe_c, p_d2, p_d1, p_dnil, p_dcons, p_dL, p_asB, p_asI, p_asL, p_asSeqL, p_asSeqT, p_bV, p_dB, p_bAnd, p_bOr, p_bNot, p_dIf, p_dAnd, p_dOr, p_dNot, p_dCh, p_bYes, p_gN, p_gT, p_gsNil, p_gsCons, p_dNx, p_dRet, p_dSet, p_dIfS, p_dAsg, p_dPar, p_dAug, p_dApp, p_dSetIx, p_nLst, p_nRep, p_nOf, p_dSetN, p_dParN1, p_dParNN, p_iSeq, p_iRng1, p_iRng2, p_oNo, p_oIx, p_dSl, p_asIx, p_opTup, p_opLst, p_lenT, p_lenL, p_lenS, p_tupT, p_tupL, p_add, p_sub, p_mul, p_lt, p_le, p_gt, p_ge, p_eqI, p_neI, p_isN, p_isnN, p_isB, p_isnB, p_isNone_n, p_isNone_i, p_isNone_t, p_isNone_l, p_appL, p_appT, b_mc, b_mn, b_ac, b_an, b_rs, b_rz, b_lc, b_ln, b_it, b_if, b_itt, b_iff, p_dSeq, p_eqB, p_neB, len_eT, len_eR, len_eV, isNone_eO, seq_eT, seq_eR, seq_eV, seq_eL, eO_some, eO_none, ↓p_eqN, ↓p_neN, ↓p_ltN, ↓p_leN, ↓p_gtN, ↓p_geN, decide_eq_true h1, hc])⟩
  · have h2 : ¬ ((i : Int) < (ns.length : Int)) := by omega
    by_cases h3 : ns.length = 0
    · have h4 : (ns.length : Int) = 0 := by omega
      have h5 := mul_j (a := 7919) (b := i) (by decide) (by decide)
      exact ⟨_, run_rt rfl (by simp only [bnd_some, bnd_none, p_dc, p_dv, lk_z, lk_s, st_z, st_s, un_z, un_s, wipe_n, wipe_c, p_d2, p_d1, p_dnil, p_dcons, p_dL, p_asB, p_asI, p_asL, p_asSeqL, p_asSeqT, p_bV, p_dB, p_bAnd, p_bOr, p_bNot, p_dIf, p_dAnd, p_dOr, p_dNot, p_dCh, p_bYes, p_gN, p_gT, p_gsNil, p_gsCons, p_dNx, p_dRet, p_dSet, p_dIfS, p_dAsg, p_dPar, p_dAug, p_dApp, p_dSetIx, p_nLst, p_nRep, p_nOf, p_dSetN, p_dParN1, p_dParNN, p_iSeq, p_iRng1, p_iRng2, p_oNo, p_oIx, p_dSl, p_asIx, p_opTup, p_opLst, p_lenT, p_lenL, p_lenS, p_tupT, p_tupL, p_add, p_sub, p_mul, p_lt, p_le, p_gt, p_ge, p_eqI, p_neI, p_isN, p_isnN, p_isB, p_isnB, p_isNone_n, p_isNone_i, p_isNone_t, p_isNone_l, p_appL, p_appT, b_mc, b_mn, b_ac, b_an, b_rs, b_rz, b_lc, b_ln, b_it, b_if, b_itt, b_iff, p_dSeq, p_eqB, p_neB, len_eT, len_eR, len_eV, isNone_eO, seq_eT, seq_eR, seq_eV, seq_eL, eO_some, eO_none, ↓p_eqN, ↓p_neN, ↓p_ltN, ↓p_leN, ↓p_gtN, ↓p_geN, decide_eq_false h1, decide_eq_true h4, h5]; rfl)⟩
    · have h4 : ¬ (ns.length : Int) = 0 := by omega
      have h5 := mul_j (a := 7919) (b := i) (by decide) (by decide)
      have h6 := mod_n (a := i) (b := ns.length) (by omega)
      obtain ⟨c, hc⟩ := ix (i % ns.length) (Nat.mod_lt _ (by omega))
      have h7 := mod_i (a := c) (b := 1000003) (by decide)
      exact ⟨_, run_rt rfl (by simp only [bnd_some, bnd_none, p_dc, p_dv, lk_z, lk_s, st_z, st_s, un_z, un_s, wipe_n, wipe_c, p_d2, p_d1, p_dnil, p_dcons, p_dL, p_asB, p_asI, p_asL, p_asSeqL, p_asSeqT, p_bV, p_dB, p_bAnd, p_bOr, p_bNot, p_dIf, p_dAnd, p_dOr, p_dNot, p_dCh, p_bYes, p_gN, p_gT, p_gsNil, p_gsCons, p_dNx, p_dRet, p_dSet, p_dIfS, p_dAsg, p_dPar, p_dAug, p_dApp, p_dSetIx, p_nLst, p_nRep, p_nOf, p_dSetN, p_dParN1, p_dParNN, p_iSeq, p_iRng1, p_iRng2, p_oNo, p_oIx, p_dSl, p_asIx, p_opTup, p_opLst, p_lenT, p_lenL, p_lenS, p_tupT, p_tupL, p_add, p_sub, p_mul, p_lt, p_le, p_gt, p_ge, p_eqI, p_neI, p_isN, p_isnN, p_isB, p_isnB, p_isNone_n, p_isNone_i, p_isNone_t, p_isNone_l, p_appL, p_appT, b_mc, b_mn, b_ac, b_an, b_rs, b_rz, b_lc, b_ln, b_it, b_if, b_itt, b_iff, p_dSeq, p_eqB, p_neB, len_eT, len_eR, len_eV, isNone_eO, seq_eT, seq_eR, seq_eV, seq_eL, eO_some, eO_none, ↓p_eqN, ↓p_neN, ↓p_ltN, ↓p_leN, ↓p_gtN, ↓p_geN, decide_eq_false h1, decide_eq_false h4, h5, h6, hc]; erw [h7]; simp only [bnd_some, bnd_none, p_dc, p_dv, lk_z, lk_s, st_z, st_s, un_z, un_s, wipe_n, wipe_c, p_d2, p_d1, p_dnil, p_dcons, p_dL, p_asB, p_asI, p_asL, p_asSeqL, p_asSeqT, p_bV, p_dB, p_bAnd, p_bOr, p_bNot, p_dIf, p_dAnd, p_dOr, p_dNot, p_dCh, p_bYes, p_gN, p_gT, p_gsNil, p_gsCons, p_dNx, p_dRet, p_dSet, p_dIfS, p_dAsg, p_dPar, p_dAug, p_dApp, p_dSetIx, p_nLst, p_nRep, p_nOf, p_dSetN, p_dParN1, p_dParNN, p_iSeq, p_iRng1, p_iRng2, p_oNo, p_oIx, p_dSl, p_asIx, p_opTup, p_opLst, p_lenT, p_lenL, p_lenS, p_tupT, p_tupL, p_add, p_sub, p_mul, p_lt, p_le, p_gt, p_ge, p_eqI, p_neI, p_isN, p_isnN, p_isB, p_isnB, p_isNone_n, p_isNone_i, p_isNone_t, p_isNone_l, p_appL, p_appT, b_mc, b_mn, b_ac, b_an, b_rs, b_rz, b_lc, b_ln, b_it, b_if, b_itt, b_iff, p_dSeq, p_eqB, p_neB, len_eT, len_eR, len_eV, isNone_eO, seq_eT, seq_eR, seq_eV, seq_eL, eO_some, eO_none, ↓p_eqN, ↓p_neN, ↓p_ltN, ↓p_leN, ↓p_gtN, ↓p_geN]; rfl)⟩
theorem mod_z {a b : Int} (h : 0 < b) : opMod (.int a) (.int b) = some (.int (a % b)) := by simp only [opMod, if_pos h]
theorem div_z {a b : Int} (h : 0 < b) (h3 : b < 18446744073709551616) : opFdiv (.int a) (.int b) = some (.int (a / b)) := by simp only [opFdiv, if_pos (And.intro h h3)]
def prD : List D := [.int 2147483647, .int 2147483629, .int 2147483587, .int 2147483579, .int 2147483563, .int 2147483549, .int 2147483543, .int 2147483497]
theorem prime_ix {r : Nat} (h : r < 8) : ∃ p : Int, opIx (.tup prD) (.int r) = some (.int p) ∧ 0 < p ∧ p < 4294967296 := by
  have : r = 0 ∨ r = 1 ∨ r = 2 ∨ r = 3 ∨ r = 4 ∨ r = 5 ∨ r = 6 ∨ r = 7 := by omega
  rcases this with e | e | e | e | e | e | e | e <;> subst e <;> exact ⟨_, rfl, by decide, by decide⟩
theorem pIx {k : Nat} {x : D} (h : opIx (.tup prD) (.int (k % 8 : Nat)) = some x) : (bnd (opMod (.int k) (.int 8)) fun y => opIx (.tup prD) y) = some x := by
  have : opMod (.int k) (.int 8) = some (.int (k % 8 : Nat)) := mod_n (b := 8) (by decide)
  rw [this]
  simp only [bnd_some, bnd_none, p_dc, p_dv, lk_z, lk_s, st_z, st_s, un_z, un_s, wipe_n, wipe_c, p_d2, p_d1, p_dnil, p_dcons, p_dL, p_asB, p_asI, p_asL, p_asSeqL, p_asSeqT, p_bV, p_dB, p_bAnd, p_bOr, p_bNot, p_dIf, p_dAnd, p_dOr, p_dNot, p_dCh, p_bYes, p_gN, p_gT, p_gsNil, p_gsCons, p_dNx, p_dRet, p_dSet, p_dIfS, p_dAsg, p_dPar, p_dAug, p_dApp, p_dSetIx, p_nLst, p_nRep, p_nOf, p_dSetN, p_dParN1, p_dParNN, p_iSeq, p_iRng1, p_iRng2, p_oNo, p_oIx, p_dSl, p_asIx, p_opTup, p_opLst, p_lenT, p_lenL, p_lenS, p_tupT, p_tupL, p_add, p_sub, p_mul, p_lt, p_le, p_gt, p_ge, p_eqI, p_neI, p_isN, p_isnN, p_isB, p_isnB, p_isNone_n, p_isNone_i, p_isNone_t, p_isNone_l, p_appL, p_appT, b_mc, b_mn, b_ac, b_an, b_rs, b_rz, b_lc, b_ln, b_it, b_if, b_itt, b_iff, p_dSeq, p_eqB, p_neB, len_eT, len_eR, len_eV, isNone_eO, seq_eT, seq_eR, seq_eV, seq_eL, eO_some, eO_none, ↓p_eqN, ↓p_neN, ↓p_ltN, ↓p_leN, ↓p_gtN, ↓p_geN, h]
theorem dig_body {s : D} {i k : Nat} {c base r cell : Int} {ds : List Nat} (x : Option D) (hi : i ≤ 1000) (hk : k ≤ 1000) (hd : ds.length ≤ 1000) (hb0 : 0 < base) (hb : base < 18446744073709551616) :
    ∃ d : Nat, (d : Int) < base ∧ ∃ r' m : Int, m_law_digits_b1 [some s, some (.int i), some (.int c), some (.int base), some (.tup prD), some (.int cell), some (.int r), some (eL ds), some (.int k), x] =
      some (.nx [some s, some (.int i), some (.int c), some (.int base), some (.tup prD), some (.int cell), some (.int r'), some (eL (ds ++ [d])), some (.int k), some (.int m)]) := by
  obtain ⟨p1, e1, a1, b1⟩ := prime_ix (r := k % 8) (by omega)
  obtain ⟨p2, e2, a2, b2⟩ := prime_ix (r := (3 * k + i) % 8) (by omega)
  obtain ⟨p3, e3, a3, b3⟩ := prime_ix (r := (k + 5) % 8) (by omega)
  have f1 := pIx e1
  have f2 := pIx e2
  have f3 := pIx e3
  have c2 : (((3 * k + i : Nat) : Int)) = 3 * (k : Int) + i := by omega
  have c3 : (((k + 5 : Nat) : Int)) = (k : Int) + 5 := by omega
  rw [c2] at f2
  rw [c3] at f3
  have g1 := mod_z (a := cell) a1
  have u0 : (0 : Int) ≤ k := by omega
  have v0 : (k : Int) ≤ 1000 := by omega
  have m1 := mul_j (a := 2) (b := k) (by decide) (by decide)
  have m2 := mul_i (a := 2 * (k : Int)) (b := k) (by omega) (by omega)
  have w1 := Int.emod_nonneg cell (b := p1) (by omega)
  have w2 := Int.emod_lt_of_pos cell a1
  have m3 := mul_j (a := cell % p1) (b := 48271 + 2 * (k : Int) * k) (by omega) (by omega)
  have m4 := mul_j (a := 7919) (b := (k : Int) + 1) (by decide) (by decide)
  have m5 := mul_i (a := 7919 * ((k : Int) + 1)) (b := (k : Int) + 1) (by omega) (by omega)
  have m6 := mul_j (a := 104729) (b := (i : Int)) (by decide) (by decide)
  have m7 := mul_j (a := 3) (b := (k : Int)) (by decide) (by decide)
  generalize hz : cell % p1 * (48271 + 2 * (k : Int) * k) = z at m3
  generalize hy : z + 7919 * ((k : Int) + 1) * ((k : Int) + 1) + 104729 * i = y
  have g2 := mod_z (a := y) a2
  have w3 := Int.emod_nonneg y (b := p2) (by omega)
  have w4 := Int.emod_lt_of_pos y a2
  generalize hx : y % p2 = q at g2 w3 w4
  have m8 := mul_j (a := q) (b := q) (by omega) (by omega)
  have m9 := mul_i (a := q * q) (b := q) (by omega) (by omega)
  have g3 := mod_z (a := q * q * q) a3
  have g5 := fun t => div_z (a := t) hb0 hb
  have g6 : ∀ t : Int, ∃ d : Nat, (d : Int) < base ∧ opMod (.int t) (.int base) = some (.int d) := fun t => by
    have h1 := Int.emod_nonneg t (b := base) (by omega)
    have h2 := Int.emod_lt_of_pos t hb0
    exact ⟨(t % base).toNat, by omega, by rw [mod_z hb0, Int.toNat_of_nonneg h1]⟩
  have hl : (ds.map fun n : Nat => D.int n).length < 16777216 := by rw [List.length_map]; omega
  unfold m_law_digits_b1
  by_cases hr : 0 < r
  · obtain ⟨d, hd1, hd2⟩ := g6 r
    refine ⟨d, hd1, r / base, r, ?_⟩
    simp only [bnd_some, bnd_none, p_dc, p_dv, lk_z, lk_s, st_z, st_s, un_z, un_s, wipe_n, wipe_c, p_d2, p_d1, p_dnil, p_dcons, p_dL, p_asB, p_asI, p_asL, p_asSeqL, p_asSeqT, p_bV, p_dB, p_bAnd, p_bOr, p_bNot, p_dIf, p_dAnd, p_dOr, p_dNot, p_dCh, p_bYes, p_gN, p_gT, p_gsNil, p_gsCons, p_dNx, p_dRet, p_dSet, p_dIfS, p_dAsg, p_dPar, p_dAug, p_dApp, p_dSetIx, p_nLst, p_nRep, p_nOf, p_dSetN, p_dParN1, p_dParNN, p_iSeq, p_iRng1, p_iRng2, p_oNo, p_oIx, p_dSl, p_asIx, p_opTup, p_opLst, p_lenT, p_lenL, p_lenS, p_tupT, p_tupL, p_add, p_sub, p_mul, p_lt, p_le, p_gt, p_ge, p_eqI, p_neI, p_isN, p_isnN, p_isB, p_isnB, p_isNone_n, p_isNone_i, p_isNone_t, p_isNone_l, p_appL, p_appT, b_mc, b_mn, b_ac, b_an, b_rs, b_rz, b_lc, b_ln, b_it, b_if, b_itt, b_iff, p_dSeq, p_eqB, p_neB, len_eT, len_eR, len_eV, isNone_eO, seq_eT, seq_eR, seq_eV, seq_eL, eO_some, eO_none, ↓p_eqN, ↓p_neN, ↓p_ltN, ↓p_leN, ↓p_gtN, ↓p_geN, f1, g1, m1, m2, m3, m4, m5, m6, hy, m7, f2, g2, m8, m9, f3, g3, decide_eq_true hr, hd2, g5, eL, if_pos hl, List.map_append]
  · obtain ⟨d, hd1, hd2⟩ := g6 (q * q * q % p3)
    refine ⟨d, hd1, r / base, q * q * q % p3, ?_⟩
    simp only [bnd_some, bnd_none, p_dc, p_dv, lk_z, lk_s, st_z, st_s, un_z, un_s, wipe_n, wipe_c, p_d2, p_d1, p_dnil, p_dcons, p_dL, p_asB, p_asI, p_asL, p_asSeqL, p_asSeqT, p_bV, p_dB, p_bAnd, p_bOr, p_bNot, p_dIf, p_dAnd, p_dOr, p_dNot, p_dCh, p_bYes, p_gN, p_gT, p_gsNil, p_gsCons, p_dNx, p_dRet, p_dSet, p_dIfS, p_dAsg, p_dPar, p_dAug, p_dApp, p_dSetIx, p_nLst, p_nRep, p_nOf, p_dSetN, p_dParN1, p_dParNN, p_iSeq, p_iRng1, p_iRng2, p_oNo, p_oIx, p_dSl, p_asIx, p_opTup, p_opLst, p_lenT, p_lenL, p_lenS, p_tupT, p_tupL, p_add, p_sub, p_mul, p_lt, p_le, p_gt, p_ge, p_eqI, p_neI, p_isN, p_isnN, p_isB, p_isnB, p_isNone_n, p_isNone_i, p_isNone_t, p_isNone_l, p_appL, p_appT, b_mc, b_mn, b_ac, b_an, b_rs, b_rz, b_lc, b_ln, b_it, b_if, b_itt, b_iff, p_dSeq, p_eqB, p_neB, len_eT, len_eR, len_eV, isNone_eO, seq_eT, seq_eR, seq_eV, seq_eL, eO_some, eO_none, ↓p_eqN, ↓p_neN, ↓p_ltN, ↓p_leN, ↓p_gtN, ↓p_geN, f1, g1, m1, m2, m3, m4, m5, m6, hy, m7, f2, g2, m8, m9, f3, g3, decide_eq_false hr, hd2, g5, eL, if_pos hl, List.map_append]
theorem digits_m {ns : List Int} (h : ns.length ≤ 63) {i count : Nat} {base : Int} (hi : i ≤ 1000) (hc : count ≤ 1000) (hb0 : 0 < base) (hb : base < 18446744073709551616) :
    ∃ ds : List Nat, ds.length = count ∧ (∀ d ∈ ds, (d : Int) < base) ∧ m_law_digits [.scr ns, .int i, .int count, .int base] = some (eL ds) := by
  obtain ⟨c, hcell⟩ := cell_m h hi
  have hgo : ∀ r : Int, ∃ ds : List Nat, ds.length = count ∧ (∀ d ∈ ds, (d : Int) < base) ∧ ∃ ρ', lk ρ' 7 = some (eL ds) ∧ forL (gN 8) m_law_digits_b1 ((List.range count).map fun i : Nat => D.int i) [some (.scr ns), some (.int i), some (.int count), some (.int base), some (.tup prD), some (.int c), some (.int r), some (.lst []), none, none] = some (.nx ρ') := by
    intro r
    obtain ⟨ρ', h1, ds, h2, h3, r', x, y, h4⟩ := for_range (g := gN 8) (b := m_law_digits_b1) (fun i : Nat => D.int i)
      (fun (k : Nat) (ρ : Rho) => ∃ ds : List Nat, ds.length = k ∧ (∀ d ∈ ds, (d : Int) < base) ∧ ∃ (r : Int) (x y : Option D), ρ = [some (.scr ns), some (.int i), some (.int count), some (.int base), some (.tup prD), some (.int c), some (.int r), some (eL ds), x, y]) count (by
        rintro k hk ρ ⟨ds, hl, hds, r, x, y, rfl⟩
        obtain ⟨d, hd, r', m, e⟩ := dig_body (s := .scr ns) (i := i) (k := k) (c := count) (base := base) (r := r) (cell := c) (ds := ds) y hi (by omega) (by omega) hb0 hb
        refine ⟨_, rfl, _, e, ds ++ [d], by simp [hl], ?_, r', _, _, rfl⟩
        intro z hz
        rcases List.mem_append.mp hz with q | q
        · exact hds z q
        · rw [List.mem_singleton.mp q]
          exact hd) (ρ := [some (.scr ns), some (.int i), some (.int count), some (.int base), some (.tup prD), some (.int c), some (.int r), some (.lst []), none, none]) ⟨[], rfl, by simp, r, none, none, rfl⟩
    exact ⟨ds, h2, h3, ρ', by rw [h4]; rfl, h1⟩
  have hp : opPow (.int 10) (.int 18) = some (.int 1000000000000000000) := rfl
  have hn : (iRng1 (dcons (dv 2) dnil)) = (iRng1 (dcons (dv 2) dnil)) := rfl
  have hr : ∀ r : Int, dFor (iRng1 (dcons (dv 2) dnil)) (gN 8) m_law_digits_b1 [some (.scr ns), some (.int i), some (.int count), some (.int base), some (.tup prD), some (.int c), some (.int r), some (.lst []), none, none] = forL (gN 8) m_law_digits_b1 ((List.range count).map fun i : Nat => D.int i) [some (.scr ns), some (.int i), some (.int count), some (.int base), some (.tup prD), some (.int c), some (.int r), some (.lst []), none, none] := by
    intro r
    exact for_eq (by simp only [bnd_some, bnd_none, p_dc, p_dv, lk_z, lk_s, st_z, st_s, un_z, un_s, wipe_n, wipe_c, p_d2, p_d1, p_dnil, p_dcons, p_dL, p_asB, p_asI, p_asL, p_asSeqL, p_asSeqT, p_bV, p_dB, p_bAnd, p_bOr, p_bNot, p_dIf, p_dAnd, p_dOr, p_dNot, p_dCh, p_bYes, p_gN, p_gT, p_gsNil, p_gsCons, p_dNx, p_dRet, p_dSet, p_dIfS, p_dAsg, p_dPar, p_dAug, p_dApp, p_dSetIx, p_nLst, p_nRep, p_nOf, p_dSetN, p_dParN1, p_dParNN, p_iSeq, p_iRng1, p_iRng2, p_oNo, p_oIx, p_dSl, p_asIx, p_opTup, p_opLst, p_lenT, p_lenL, p_lenS, p_tupT, p_tupL, p_add, p_sub, p_mul, p_lt, p_le, p_gt, p_ge, p_eqI, p_neI, p_isN, p_isnN, p_isB, p_isnB, p_isNone_n, p_isNone_i, p_isNone_t, p_isNone_l, p_appL, p_appT, b_mc, b_mn, b_ac, b_an, b_rs, b_rz, b_lc, b_ln, b_it, b_if, b_itt, b_iff, p_dSeq, p_eqB, p_neB, len_eT, len_eR, len_eV, isNone_eO, seq_eT, seq_eR, seq_eV, seq_eL, eO_some, eO_none, ↓p_eqN, ↓p_neN, ↓p_ltN, ↓p_leN, ↓p_gtN, ↓p_geN, rng1 (n := count) (by omega)])
  by_cases h1 : (1000000000000000000 : Int) ≤ c
  · obtain ⟨ds, h2, h3, ρ', h4, h5⟩ := hgo c
    refine ⟨ds, h2, h3, run_rt rfl ?_⟩
    have h6 := (hr c).trans h5
    unfold prD at h6
    simp only [bnd_some, bnd_none, p_dc, p_dv, lk_z, lk_s, st_z, st_s, un_z, un_s, wipe_n, wipe_c, p_d2, p_d1, p_dnil, p_dcons, p_dL, p_asB, p_asI, p_asL, p_asSeqL, p_asSeqT, p_bV, p_dB, p_bAnd, p_bOr, p_bNot, p_dIf, p_dAnd, p_dOr, p_dNot, p_dCh, p_bYes, p_gN, p_gT, p_gsNil, p_gsCons, p_dNx, p_dRet, p_dSet, p_dIfS, p_dAsg, p_dPar, p_dAug, p_dApp, p_dSetIx, p_nLst, p_nRep, p_nOf, p_dSetN, p_dParN1, p_dParNN, p_iSeq, p_iRng1, p_iRng2, p_oNo, p_oIx, p_dSl, p_asIx, p_opTup, p_opLst, p_lenT, p_lenL, p_lenS, p_tupT, p_tupL, p_add, p_sub, p_mul, p_lt, p_le, p_gt, p_ge, p_eqI, p_neI, p_isN, p_isnN, p_isB, p_isnB, p_isNone_n, p_isNone_i, p_isNone_t, p_isNone_l, p_appL, p_appT, b_mc, b_mn, b_ac, b_an, b_rs, b_rz, b_lc, b_ln, b_it, b_if, b_itt, b_iff, p_dSeq, p_eqB, p_neB, len_eT, len_eR, len_eV, isNone_eO, seq_eT, seq_eR, seq_eV, seq_eL, eO_some, eO_none, ↓p_eqN, ↓p_neN, ↓p_ltN, ↓p_leN, ↓p_gtN, ↓p_geN, hcell, hp, decide_eq_true h1, Nat.reduceLeDiff, Nat.reduceAdd, Nat.reduceSub, h6, h4]
  · obtain ⟨ds, h2, h3, ρ', h4, h5⟩ := hgo 0
    refine ⟨ds, h2, h3, run_rt rfl ?_⟩
    have h6 := (hr 0).trans h5
    unfold prD at h6
    simp only [bnd_some, bnd_none, p_dc, p_dv, lk_z, lk_s, st_z, st_s, un_z, un_s, wipe_n, wipe_c, p_d2, p_d1, p_dnil, p_dcons, p_dL, p_asB, p_asI, p_asL, p_asSeqL, p_asSeqT, p_bV, p_dB, p_bAnd, p_bOr, p_bNot, p_dIf, p_dAnd, p_dOr, p_dNot, p_dCh, p_bYes, p_gN, p_gT, p_gsNil, p_gsCons, p_dNx, p_dRet, p_dSet, p_dIfS, p_dAsg, p_dPar, p_dAug, p_dApp, p_dSetIx, p_nLst, p_nRep, p_nOf, p_dSetN, p_dParN1, p_dParNN, p_iSeq, p_iRng1, p_iRng2, p_oNo, p_oIx, p_dSl, p_asIx, p_opTup, p_opLst, p_lenT, p_lenL, p_lenS, p_tupT, p_tupL, p_add, p_sub, p_mul, p_lt, p_le, p_gt, p_ge, p_eqI, p_neI, p_isN, p_isnN, p_isB, p_isnB, p_isNone_n, p_isNone_i, p_isNone_t, p_isNone_l, p_appL, p_appT, b_mc, b_mn, b_ac, b_an, b_rs, b_rz, b_lc, b_ln, b_it, b_if, b_itt, b_iff, p_dSeq, p_eqB, p_neB, len_eT, len_eR, len_eV, isNone_eO, seq_eT, seq_eR, seq_eV, seq_eL, eO_some, eO_none, ↓p_eqN, ↓p_neN, ↓p_ltN, ↓p_leN, ↓p_gtN, ↓p_geN, hcell, hp, decide_eq_false h1, Nat.reduceLeDiff, Nat.reduceAdd, Nat.reduceSub, h6, h4]
end Mi
namespace Mi
open DL
theorem ix_eL {ds : List Nat} {k : Nat} (h : k < ds.length) : opIx (eL ds) (.int k) = some (.int (ds.getD k 0)) := by
  apply ixL
  simp [h]
theorem ix_eLz {ds : List Nat} {k : Int} (n : Nat) (e : k = n) (h : n < ds.length) : opIx (eL ds) (.int k) = some (.int (ds.getD n 0)) := by
  subst e
  exact ix_eL h
@[simp] theorem len_eL (ds : List Nat) : opLen [eL ds] = some (.int ds.length) := by simp [eL]
theorem sl_eL {ds : List Nat} {k : Nat} (h : k ≤ ds.length) : opSl (some (k : Int)) none (eL ds) = some (eL (ds.drop k)) := by
  have e : opSl (some (k : Int)) none (eL ds) = some (.lst (cutL (ds.map fun n : Nat => D.int n) (some (k : Int)) none)) := rfl
  rw [e]
  unfold cutL
  have e1 : HT.sIx (ds.map fun n : Nat => D.int n).length 0 (some (k : Int)) = k := by
    rw [HT.sIx_nat, List.length_map]
    omega
  rw [e1, HT.sIx_none, ← List.map_drop, List.take_of_length_le (by simp)]
  rfl
def someL : List Nat := [1, 2, 3, 4, 6, 8, 9, 12, 5, 10, 18, 30]
theorem someL_mem {r : Nat} : someL.getD r 1 ∈ someL := by
  by_cases h : r < 12
  · have : r = 0 ∨ r = 1 ∨ r = 2 ∨ r = 3 ∨ r = 4 ∨ r = 5 ∨ r = 6 ∨ r = 7 ∨ r = 8 ∨ r = 9 ∨ r = 10 ∨ r = 11 := by omega
    rcases this with e | e | e | e | e | e | e | e | e | e | e | e <;> subst e <;> decide
  · have : someL.getD r 1 = 1 := by
      rw [List.getD_eq_getElem?_getD, List.getElem?_eq_none (by simp [someL]; omega)]
      rfl
    rw [this]
    decide
theorem someL_pos {n : Nat} (h : n ∈ someL) : 0 < n ∧ n ≤ 30 := by
  simp [someL] at h
  omega
theorem ix_someL {r : Nat} (h : r < 12) : opIx (eL someL) (.int r) = some (.int (someL.getD r 1)) := by
  have : r = 0 ∨ r = 1 ∨ r = 2 ∨ r = 3 ∨ r = 4 ∨ r = 5 ∨ r = 6 ∨ r = 7 ∨ r = 8 ∨ r = 9 ∨ r = 10 ∨ r = 11 := by omega
  rcases this with e | e | e | e | e | e | e | e | e | e | e | e <;> subst e <;> rfl
theorem size_ix (d : Nat) : ∃ s : Nat, 0 < s ∧ s ≤ 12 ∧ (bnd (opMod (.int d) (.int 3)) fun y => opIx (.lst [.int 4, .int 7, .int 12]) y) = some (.int s) := by
  have h : opMod (.int d) (.int 3) = some (.int (d % 3 : Nat)) := mod_n (b := 3) (by decide)
  rw [h]
  simp only [bnd_some]
  have : d % 3 = 0 ∨ d % 3 = 1 ∨ d % 3 = 2 := by omega
  rcases this with e | e | e <;> rw [e]
  · exact ⟨4, by decide, by decide, rfl⟩
  · exact ⟨7, by decide, by decide, rfl⟩
  · exact ⟨12, by decide, by decide, rfl⟩
theorem numbers_m {ds : List Nat} (h : 12 ≤ ds.length) {m w : Nat} (hm : m ≤ 5) (hw : w ≤ 5) : ∃ R C : Nat → Nat, (∀ i, R i ∈ someL) ∧ (∀ j, C j ∈ someL) ∧ m_law_numbers [eL ds, .int m, .int w] = some (.tup [eV m R, eV w C]) := by
  obtain ⟨s, hs0, hs1, hs⟩ := size_ix (ds.getD 0 0)
  refine ⟨fun i => someL.getD (ds.getD (1 + i) 0 % s) 1, fun i => someL.getD (ds.getD (6 + i) 0 % s) 1, fun i => someL_mem, fun i => someL_mem, run_rt rfl ?_⟩
  have h0 : opIx (eL ds) (.int 0) = some (.int (ds.getD 0 0)) := ix_eL (k := 0) (by omega)
  have e1 : D.lst [.int 1, .int 2, .int 3, .int 4, .int 6, .int 8, .int 9, .int 12, .int 5, .int 10, .int 18, .int 30] = eL someL := rfl
  simp only [p_dSeq, p_dSet, p_dL, p_dcons, p_dnil, p_dc, bnd_some, p_opLst, List.length_cons, List.length_nil, Nat.reduceAdd, Nat.reduceLeDiff, if_true, e1, p_d2, p_dv, b_mc, b_mn, b_ac, b_an, b_rs, b_rz, Nat.reduceSub, lk_z, lk_s, st_z, st_s, h0, hs]
  unfold m_law_numbers_c1
  rw [comp_all (fun i : Nat => D.int i) (fun i => D.int (someL.getD (ds.getD (1 + i) 0 % s) 1)) (List.range m) (by simp only [bnd_some, bnd_none, p_dc, p_dv, lk_z, lk_s, st_z, st_s, un_z, un_s, wipe_n, wipe_c, p_d2, p_d1, p_dnil, p_dcons, p_dL, p_asB, p_asI, p_asL, p_asSeqL, p_asSeqT, p_bV, p_dB, p_bAnd, p_bOr, p_bNot, p_dIf, p_dAnd, p_dOr, p_dNot, p_dCh, p_bYes, p_gN, p_gT, p_gsNil, p_gsCons, p_dNx, p_dRet, p_dSet, p_dIfS, p_dAsg, p_dPar, p_dAug, p_dApp, p_dSetIx, p_nLst, p_nRep, p_nOf, p_dSetN, p_dParN1, p_dParNN, p_iSeq, p_iRng1, p_iRng2, p_oNo, p_oIx, p_dSl, p_asIx, p_opTup, p_opLst, p_lenT, p_lenL, p_lenS, p_tupT, p_tupL, p_add, p_sub, p_mul, p_lt, p_le, p_gt, p_ge, p_eqI, p_neI, p_isN, p_isnN, p_isB, p_isnB, p_isNone_n, p_isNone_i, p_isNone_t, p_isNone_l, p_appL, p_appT, b_mc, b_mn, b_ac, b_an, b_rs, b_rz, b_lc, b_ln, b_it, b_if, b_itt, b_iff, p_dSeq, p_eqB, p_neB, len_eT, len_eR, len_eV, isNone_eO, seq_eT, seq_eR, seq_eV, seq_eL, eO_some, eO_none, len_eL, ↓p_eqN, ↓p_neN, ↓p_ltN, ↓p_leN, ↓p_gtN, ↓p_geN, rng1 (n := m) (by omega)]) (by simp; omega) (by
    intro i hi
    have hi := List.mem_range.mp hi
    refine ⟨_, rfl, ?_⟩
    have a1 := ix_eLz (ds := ds) (k := 1 + (i : Int)) (1 + i) (by omega) (by omega)
    have a2 := mod_n (a := ds.getD (1 + i) 0) hs0
    have a3 := ix_someL (r := ds.getD (1 + i) 0 % s) (Nat.lt_of_lt_of_le (Nat.mod_lt _ hs0) hs1)
    simp only [bnd_some, bnd_none, p_dc, p_dv, lk_z, lk_s, st_z, st_s, un_z, un_s, wipe_n, wipe_c, p_d2, p_d1, p_dnil, p_dcons, p_dL, p_asB, p_asI, p_asL, p_asSeqL, p_asSeqT, p_bV, p_dB, p_bAnd, p_bOr, p_bNot, p_dIf, p_dAnd, p_dOr, p_dNot, p_dCh, p_bYes, p_gN, p_gT, p_gsNil, p_gsCons, p_dNx, p_dRet, p_dSet, p_dIfS, p_dAsg, p_dPar, p_dAug, p_dApp, p_dSetIx, p_nLst, p_nRep, p_nOf, p_dSetN, p_dParN1, p_dParNN, p_iSeq, p_iRng1, p_iRng2, p_oNo, p_oIx, p_dSl, p_asIx, p_opTup, p_opLst, p_lenT, p_lenL, p_lenS, p_tupT, p_tupL, p_add, p_sub, p_mul, p_lt, p_le, p_gt, p_ge, p_eqI, p_neI, p_isN, p_isnN, p_isB, p_isnB, p_isNone_n, p_isNone_i, p_isNone_t, p_isNone_l, p_appL, p_appT, b_mc, b_mn, b_ac, b_an, b_rs, b_rz, b_lc, b_ln, b_it, b_if, b_itt, b_iff, p_dSeq, p_eqB, p_neB, len_eT, len_eR, len_eV, isNone_eO, seq_eT, seq_eR, seq_eV, seq_eL, eO_some, eO_none, len_eL, ↓p_eqN, ↓p_neN, ↓p_ltN, ↓p_leN, ↓p_gtN, ↓p_geN, a1, a2, a3]),
   ]
  simp only [bnd_some, bnd_none, p_dc, p_dv, lk_z, lk_s, st_z, st_s, un_z, un_s, wipe_n, wipe_c, p_d2, p_d1, p_dnil, p_dcons, p_dL, p_asB, p_asI, p_asL, p_asSeqL, p_asSeqT, p_bV, p_dB, p_bAnd, p_bOr, p_bNot, p_dIf, p_dAnd, p_dOr, p_dNot, p_dCh, p_bYes, p_gN, p_gT, p_gsNil, p_gsCons, p_dNx, p_dRet, p_dSet, p_dIfS, p_dAsg, p_dPar, p_dAug, p_dApp, p_dSetIx, p_nLst, p_nRep, p_nOf, p_dSetN, p_dParN1, p_dParNN, p_iSeq, p_iRng1, p_iRng2, p_oNo, p_oIx, p_dSl, p_asIx, p_opTup, p_opLst, p_lenT, p_lenL, p_lenS, p_tupT, p_tupL, p_add, p_sub, p_mul, p_lt, p_le, p_gt, p_ge, p_eqI, p_neI, p_isN, p_isnN, p_isB, p_isnB, p_isNone_n, p_isNone_i, p_isNone_t, p_isNone_l, p_appL, p_appT, b_mc, b_mn, b_ac, b_an, b_rs, b_rz, b_lc, b_ln, b_it, b_if, b_itt, b_iff, p_dSeq, p_eqB, p_neB, len_eT, len_eR, len_eV, isNone_eO, seq_eT, seq_eR, seq_eV, seq_eL, eO_some, eO_none, len_eL, ↓p_eqN, ↓p_neN, ↓p_ltN, ↓p_leN, ↓p_gtN, ↓p_geN]
  unfold m_law_numbers_c2
  rw [comp_all (fun i : Nat => D.int i) (fun i => D.int (someL.getD (ds.getD (6 + i) 0 % s) 1)) (List.range w) (by simp only [bnd_some, bnd_none, p_dc, p_dv, lk_z, lk_s, st_z, st_s, un_z, un_s, wipe_n, wipe_c, p_d2, p_d1, p_dnil, p_dcons, p_dL, p_asB, p_asI, p_asL, p_asSeqL, p_asSeqT, p_bV, p_dB, p_bAnd, p_bOr, p_bNot, p_dIf, p_dAnd, p_dOr, p_dNot, p_dCh, p_bYes, p_gN, p_gT, p_gsNil, p_gsCons, p_dNx, p_dRet, p_dSet, p_dIfS, p_dAsg, p_dPar, p_dAug, p_dApp, p_dSetIx, p_nLst, p_nRep, p_nOf, p_dSetN, p_dParN1, p_dParNN, p_iSeq, p_iRng1, p_iRng2, p_oNo, p_oIx, p_dSl, p_asIx, p_opTup, p_opLst, p_lenT, p_lenL, p_lenS, p_tupT, p_tupL, p_add, p_sub, p_mul, p_lt, p_le, p_gt, p_ge, p_eqI, p_neI, p_isN, p_isnN, p_isB, p_isnB, p_isNone_n, p_isNone_i, p_isNone_t, p_isNone_l, p_appL, p_appT, b_mc, b_mn, b_ac, b_an, b_rs, b_rz, b_lc, b_ln, b_it, b_if, b_itt, b_iff, p_dSeq, p_eqB, p_neB, len_eT, len_eR, len_eV, isNone_eO, seq_eT, seq_eR, seq_eV, seq_eL, eO_some, eO_none, len_eL, ↓p_eqN, ↓p_neN, ↓p_ltN, ↓p_leN, ↓p_gtN, ↓p_geN, rng1 (n := w) (by omega)]) (by simp; omega) (by
    intro i hi
    have hi := List.mem_range.mp hi
    refine ⟨_, rfl, ?_⟩
    have a1 := ix_eLz (ds := ds) (k := 6 + (i : Int)) (6 + i) (by omega) (by omega)
    have a2 := mod_n (a := ds.getD (6 + i) 0) hs0
    have a3 := ix_someL (r := ds.getD (6 + i) 0 % s) (Nat.lt_of_lt_of_le (Nat.mod_lt _ hs0) hs1)
    simp only [bnd_some, bnd_none, p_dc, p_dv, lk_z, lk_s, st_z, st_s, un_z, un_s, wipe_n, wipe_c, p_d2, p_d1, p_dnil, p_dcons, p_dL, p_asB, p_asI, p_asL, p_asSeqL, p_asSeqT, p_bV, p_dB, p_bAnd, p_bOr, p_bNot, p_dIf, p_dAnd, p_dOr, p_dNot, p_dCh, p_bYes, p_gN, p_gT, p_gsNil, p_gsCons, p_dNx, p_dRet, p_dSet, p_dIfS, p_dAsg, p_dPar, p_dAug, p_dApp, p_dSetIx, p_nLst, p_nRep, p_nOf, p_dSetN, p_dParN1, p_dParNN, p_iSeq, p_iRng1, p_iRng2, p_oNo, p_oIx, p_dSl, p_asIx, p_opTup, p_opLst, p_lenT, p_lenL, p_lenS, p_tupT, p_tupL, p_add, p_sub, p_mul, p_lt, p_le, p_gt, p_ge, p_eqI, p_neI, p_isN, p_isnN, p_isB, p_isnB, p_isNone_n, p_isNone_i, p_isNone_t, p_isNone_l, p_appL, p_appT, b_mc, b_mn, b_ac, b_an, b_rs, b_rz, b_lc, b_ln, b_it, b_if, b_itt, b_iff, p_dSeq, p_eqB, p_neB, len_eT, len_eR, len_eV, isNone_eO, seq_eT, seq_eR, seq_eV, seq_eL, eO_some, eO_none, len_eL, ↓p_eqN, ↓p_neN, ↓p_ltN, ↓p_leN, ↓p_gtN, ↓p_geN, a1, a2, a3])]
  simp only [bnd_some, bnd_none, p_dc, p_dv, lk_z, lk_s, st_z, st_s, un_z, un_s, wipe_n, wipe_c, p_d2, p_d1, p_dnil, p_dcons, p_dL, p_asB, p_asI, p_asL, p_asSeqL, p_asSeqT, p_bV, p_dB, p_bAnd, p_bOr, p_bNot, p_dIf, p_dAnd, p_dOr, p_dNot, p_dCh, p_bYes, p_gN, p_gT, p_gsNil, p_gsCons, p_dNx, p_dRet, p_dSet, p_dIfS, p_dAsg, p_dPar, p_dAug, p_dApp, p_dSetIx, p_nLst, p_nRep, p_nOf, p_dSetN, p_dParN1, p_dParNN, p_iSeq, p_iRng1, p_iRng2, p_oNo, p_oIx, p_dSl, p_asIx, p_opTup, p_opLst, p_lenT, p_lenL, p_lenS, p_tupT, p_tupL, p_add, p_sub, p_mul, p_lt, p_le, p_gt, p_ge, p_eqI, p_neI, p_isN, p_isnN, p_isB, p_isnB, p_isNone_n, p_isNone_i, p_isNone_t, p_isNone_l, p_appL, p_appT, b_mc, b_mn, b_ac, b_an, b_rs, b_rz, b_lc, b_ln, b_it, b_if, b_itt, b_iff, p_dSeq, p_eqB, p_neB, len_eT, len_eR, len_eV, isNone_eO, seq_eT, seq_eR, seq_eV, seq_eL, eO_some, eO_none, len_eL, ↓p_eqN, ↓p_neN, ↓p_ltN, ↓p_leN, ↓p_gtN, ↓p_geN, Nat.reduceAdd, Nat.reduceLeDiff]
  rfl
theorem table_m {m w : Nat} {R C : Nat → Nat} (hm : m ≤ 100) (hw : w ≤ 100) (hR : ∀ i, 0 < R i ∧ R i ≤ 1000000000) (hC : ∀ i, 0 < C i ∧ C i ≤ 1000000000) :
    m_law_table [eV m R, eV w C] = some (eT m w fun i j => some (Nat.lcm (R i) (C j))) := by
  refine run_rt rfl ?_
  simp only [p_dRet, p_dL, p_dcons, p_dnil]
  unfold m_law_table_c2
  rw [comp_all (fun i : Nat => D.int (R i)) (fun i => eR w (fun j => some (Nat.lcm (R i) (C j)))) (List.range m) (by simp) (by simp; omega) (by
    intro i _
    refine ⟨_, rfl, ?_⟩
    simp only [p_dL, p_dcons, p_dnil]
    unfold m_law_table_c1
    rw [comp_all (fun j : Nat => D.int (C j)) (fun j => D.int (Nat.lcm (R i) (C j))) (List.range w) (by simp) (by simp; omega) (by
      intro j _
      refine ⟨_, rfl, ?_⟩
      have := hC j
      have := hR i
      have l := llcm_m (a := R i) (b := C j) (by omega) (by omega) (Nat.lt_of_le_of_lt (Nat.gcd_le_left _ (by omega)) (show R i < _ by omega))
      simp only [bnd_some, bnd_none, p_dc, p_dv, lk_z, lk_s, st_z, st_s, un_z, un_s, wipe_n, wipe_c, p_d2, p_d1, p_dnil, p_dcons, p_dL, p_asB, p_asI, p_asL, p_asSeqL, p_asSeqT, p_bV, p_dB, p_bAnd, p_bOr, p_bNot, p_dIf, p_dAnd, p_dOr, p_dNot, p_dCh, p_bYes, p_gN, p_gT, p_gsNil, p_gsCons, p_dNx, p_dRet, p_dSet, p_dIfS, p_dAsg, p_dPar, p_dAug, p_dApp, p_dSetIx, p_nLst, p_nRep, p_nOf, p_dSetN, p_dParN1, p_dParNN, p_iSeq, p_iRng1, p_iRng2, p_oNo, p_oIx, p_dSl, p_asIx, p_opTup, p_opLst, p_lenT, p_lenL, p_lenS, p_tupT, p_tupL, p_add, p_sub, p_mul, p_lt, p_le, p_gt, p_ge, p_eqI, p_neI, p_isN, p_isnN, p_isB, p_isnB, p_isNone_n, p_isNone_i, p_isNone_t, p_isNone_l, p_appL, p_appT, b_mc, b_mn, b_ac, b_an, b_rs, b_rz, b_lc, b_ln, b_it, b_if, b_itt, b_iff, p_dSeq, p_eqB, p_neB, len_eT, len_eR, len_eV, isNone_eO, seq_eT, seq_eR, seq_eV, seq_eL, eO_some, eO_none, len_eL, ↓p_eqN, ↓p_neN, ↓p_ltN, ↓p_leN, ↓p_gtN, ↓p_geN, l])]
    simp [eR])]
  simp [eT]
theorem hidden_m {m w : Nat} {T : Nat → Nat → Option Nat} {ds : List Nat} {often : Nat} (h : Tab m w T) (hd : 0 < ds.length) (ho : 0 < often) :
    ∃ hid : Nat → Nat → Bool, m_law_hidden [eT m w T, eL ds, .int often] = some (eT m w fun i j => if hid i j = true then none else T i j) := by
  have hm1 := h.m1
  have hw1 := h.w1
  let hid : Nat → Nat → Bool := fun i j => decide (ds.getD ((i * w + j) % ds.length) 0 % often = 0)
  refine ⟨hid, run_rt rfl ?_⟩
  let T' : Nat → Nat → Option Nat := fun i j => if hid i j = true then none else T i j
  have inner : ∀ (i : Nat) (acc : List D) (x : Option D), ∃ ρ', forL (gN 7) m_law_hidden_b1 ((List.range w).map fun j => eO (T i j)) [some (eT m w T), some (eL ds), some (.int often), some (.lst acc), some (.int ((i * w : Nat) : Int)), some (eR w (T i)), some (.lst []), x] = some (.nx ρ') ∧
      ∃ y, ρ' = [some (eT m w T), some (eL ds), some (.int often), some (.lst acc), some (.int ((i * w + w : Nat) : Int)), some (eR w (T i)), some (.lst ((List.range w).map fun j => eO (T' i j))), y] := by
    intro i acc x
    refine for_range (fun j => eO (T i j)) (fun j ρ => ∃ y, ρ = [some (eT m w T), some (eL ds), some (.int often), some (.lst acc), some (.int ((i * w + j : Nat) : Int)), some (eR w (T i)), some (.lst ((List.range j).map fun j => eO (T' i j))), y]) w ?_ ⟨x, rfl⟩
    rintro j hj ρ ⟨y, rfl⟩
    refine ⟨_, rfl, [some (eT m w T), some (eL ds), some (.int often), some (.lst acc), some (.int ((i * w + (j + 1) : Nat) : Int)), some (eR w (T i)), some (.lst ((List.range (j + 1)).map fun j => eO (T' i j))), some (eO (T i j))], ?_, _, rfl⟩
    have a1 := mod_n (a := i * w + j) hd
    have a2 := ix_eL (k := (i * w + j) % ds.length) (Nat.mod_lt _ hd)
    have a3 := mod_n (a := ds.getD ((i * w + j) % ds.length) 0) ho
    have a4 : ((List.range j).map fun j => eO (T' i j)).length < 16777216 := by simp; omega
    have a5 : (((i * w + (j + 1) : Nat)) : Int) = ((i * w + j : Nat) : Int) + 1 := by omega
    rw [a5, List.range_succ, List.map_append]
    by_cases q : ds.getD ((i * w + j) % ds.length) 0 % often = 0
    · have q2 : ((ds.getD ((i * w + j) % ds.length) 0 % often : Nat) : Int) = 0 := by omega
      have q3 : T' i j = none := by simp only [T', hid, decide_eq_true q, if_true]
      simp only [m_law_hidden_b1, bnd_some, bnd_none, p_dc, p_dv, lk_z, lk_s, st_z, st_s, un_z, un_s, wipe_n, wipe_c, p_d2, p_d1, p_dnil, p_dcons, p_dL, p_asB, p_asI, p_asL, p_asSeqL, p_asSeqT, p_bV, p_dB, p_bAnd, p_bOr, p_bNot, p_dIf, p_dAnd, p_dOr, p_dNot, p_dCh, p_bYes, p_gN, p_gT, p_gsNil, p_gsCons, p_dNx, p_dRet, p_dSet, p_dIfS, p_dAsg, p_dPar, p_dAug, p_dApp, p_dSetIx, p_nLst, p_nRep, p_nOf, p_dSetN, p_dParN1, p_dParNN, p_iSeq, p_iRng1, p_iRng2, p_oNo, p_oIx, p_dSl, p_asIx, p_opTup, p_opLst, p_lenT, p_lenL, p_lenS, p_tupT, p_tupL, p_add, p_sub, p_mul, p_lt, p_le, p_gt, p_ge, p_eqI, p_neI, p_isN, p_isnN, p_isB, p_isnB, p_isNone_n, p_isNone_i, p_isNone_t, p_isNone_l, p_appL, p_appT, b_mc, b_mn, b_ac, b_an, b_rs, b_rz, b_lc, b_ln, b_it, b_if, b_itt, b_iff, p_dSeq, p_eqB, p_neB, len_eT, len_eR, len_eV, isNone_eO, seq_eT, seq_eR, seq_eV, seq_eL, eO_some, eO_none, len_eL, ↓p_eqN, ↓p_neN, ↓p_ltN, ↓p_leN, ↓p_gtN, ↓p_geN, a1, a2, a3, decide_eq_true q2, if_pos a4, q3]
    · have q2 : ¬ ((ds.getD ((i * w + j) % ds.length) 0 % often : Nat) : Int) = 0 := by omega
      have q3 : T' i j = T i j := by simp only [T', hid, decide_eq_false q]; rfl
      simp only [m_law_hidden_b1, bnd_some, bnd_none, p_dc, p_dv, lk_z, lk_s, st_z, st_s, un_z, un_s, wipe_n, wipe_c, p_d2, p_d1, p_dnil, p_dcons, p_dL, p_asB, p_asI, p_asL, p_asSeqL, p_asSeqT, p_bV, p_dB, p_bAnd, p_bOr, p_bNot, p_dIf, p_dAnd, p_dOr, p_dNot, p_dCh, p_bYes, p_gN, p_gT, p_gsNil, p_gsCons, p_dNx, p_dRet, p_dSet, p_dIfS, p_dAsg, p_dPar, p_dAug, p_dApp, p_dSetIx, p_nLst, p_nRep, p_nOf, p_dSetN, p_dParN1, p_dParNN, p_iSeq, p_iRng1, p_iRng2, p_oNo, p_oIx, p_dSl, p_asIx, p_opTup, p_opLst, p_lenT, p_lenL, p_lenS, p_tupT, p_tupL, p_add, p_sub, p_mul, p_lt, p_le, p_gt, p_ge, p_eqI, p_neI, p_isN, p_isnN, p_isB, p_isnB, p_isNone_n, p_isNone_i, p_isNone_t, p_isNone_l, p_appL, p_appT, b_mc, b_mn, b_ac, b_an, b_rs, b_rz, b_lc, b_ln, b_it, b_if, b_itt, b_iff, p_dSeq, p_eqB, p_neB, len_eT, len_eR, len_eV, isNone_eO, seq_eT, seq_eR, seq_eV, seq_eL, eO_some, eO_none, len_eL, ↓p_eqN, ↓p_neN, ↓p_ltN, ↓p_leN, ↓p_gtN, ↓p_geN, a1, a2, a3, decide_eq_false q2, if_pos a4, q3]
  obtain ⟨ρ', h1, x, y, z, h3⟩ := for_range (g := gN 5) (b := m_law_hidden_b2) (fun i => eR w (T i))
    (fun (i : Nat) (ρ : Rho) => ∃ x y z, ρ = [some (eT m w T), some (eL ds), some (.int often), some (.lst ((List.range i).map fun i => eR w (T' i))), some (.int ((i * w : Nat) : Int)), x, y, z]) m (by
      rintro i hi ρ ⟨x, y, z, rfl⟩
      obtain ⟨ρ', b1, y', b2⟩ := inner i ((List.range i).map fun i => eR w (T' i)) z
      subst b2
      refine ⟨_, rfl, [some (eT m w T), some (eL ds), some (.int often), some (.lst ((List.range (i + 1)).map fun i => eR w (T' i))), some (.int (((i + 1) * w : Nat) : Int)), some (eR w (T i)), some (.lst ((List.range w).map fun j => eO (T' i j))), y'], ?_, _, _, _, rfl⟩
      have hl : ((List.range i).map fun i => eR w (T' i)).length < 16777216 := by simp; omega
      have hf : dFor (iSeq (dv 5)) (gN 7) m_law_hidden_b1 [some (eT m w T), some (eL ds), some (.int often), some (.lst ((List.range i).map fun i => eR w (T' i))), some (.int ((i * w : Nat) : Int)), some (eR w (T i)), some (.lst []), z] = _ := (for_eq (by simp only [bnd_some, bnd_none, p_dc, p_dv, lk_z, lk_s, st_z, st_s, un_z, un_s, wipe_n, wipe_c, p_d2, p_d1, p_dnil, p_dcons, p_dL, p_asB, p_asI, p_asL, p_asSeqL, p_asSeqT, p_bV, p_dB, p_bAnd, p_bOr, p_bNot, p_dIf, p_dAnd, p_dOr, p_dNot, p_dCh, p_bYes, p_gN, p_gT, p_gsNil, p_gsCons, p_dNx, p_dRet, p_dSet, p_dIfS, p_dAsg, p_dPar, p_dAug, p_dApp, p_dSetIx, p_nLst, p_nRep, p_nOf, p_dSetN, p_dParN1, p_dParNN, p_iSeq, p_iRng1, p_iRng2, p_oNo, p_oIx, p_dSl, p_asIx, p_opTup, p_opLst, p_lenT, p_lenL, p_lenS, p_tupT, p_tupL, p_add, p_sub, p_mul, p_lt, p_le, p_gt, p_ge, p_eqI, p_neI, p_isN, p_isnN, p_isB, p_isnB, p_isNone_n, p_isNone_i, p_isNone_t, p_isNone_l, p_appL, p_appT, b_mc, b_mn, b_ac, b_an, b_rs, b_rz, b_lc, b_ln, b_it, b_if, b_itt, b_iff, p_dSeq, p_eqB, p_neB, len_eT, len_eR, len_eV, isNone_eO, seq_eT, seq_eR, seq_eV, seq_eL, eO_some, eO_none, len_eL, ↓p_eqN, ↓p_neN, ↓p_ltN, ↓p_leN, ↓p_gtN, ↓p_geN])).trans b1
      rw [List.range_succ, List.map_append, show (i + 1) * w = i * w + w from Nat.succ_mul i w]
      simp only [m_law_hidden_b2, bnd_some, bnd_none, p_dc, p_dv, lk_z, lk_s, st_z, st_s, un_z, un_s, wipe_n, wipe_c, p_d2, p_d1, p_dnil, p_dcons, p_dL, p_asB, p_asI, p_asL, p_asSeqL, p_asSeqT, p_bV, p_dB, p_bAnd, p_bOr, p_bNot, p_dIf, p_dAnd, p_dOr, p_dNot, p_dCh, p_bYes, p_gN, p_gT, p_gsNil, p_gsCons, p_dNx, p_dRet, p_dSet, p_dIfS, p_dAsg, p_dPar, p_dAug, p_dApp, p_dSetIx, p_nLst, p_nRep, p_nOf, p_dSetN, p_dParN1, p_dParNN, p_iSeq, p_iRng1, p_iRng2, p_oNo, p_oIx, p_dSl, p_asIx, p_opTup, p_opLst, p_lenT, p_lenL, p_lenS, p_tupT, p_tupL, p_add, p_sub, p_mul, p_lt, p_le, p_gt, p_ge, p_eqI, p_neI, p_isN, p_isnN, p_isB, p_isnB, p_isNone_n, p_isNone_i, p_isNone_t, p_isNone_l, p_appL, p_appT, b_mc, b_mn, b_ac, b_an, b_rs, b_rz, b_lc, b_ln, b_it, b_if, b_itt, b_iff, p_dSeq, p_eqB, p_neB, len_eT, len_eR, len_eV, isNone_eO, seq_eT, seq_eR, seq_eV, seq_eL, eO_some, eO_none, len_eL, ↓p_eqN, ↓p_neN, ↓p_ltN, ↓p_leN, ↓p_gtN, ↓p_geN, Nat.reduceLeDiff, hf, if_pos hl]
      rfl) (ρ := [some (eT m w T), some (eL ds), some (.int often), some (.lst []), some (.int 0), none, none, none]) ⟨none, none, none, by simp⟩
  subst h3
  have hf := (for_eq (it := iSeq (dv 0)) (ρ := [some (eT m w T), some (eL ds), some (.int often), some (.lst []), some (.int 0), none, none, none]) (by simp only [bnd_some, bnd_none, p_dc, p_dv, lk_z, lk_s, st_z, st_s, un_z, un_s, wipe_n, wipe_c, p_d2, p_d1, p_dnil, p_dcons, p_dL, p_asB, p_asI, p_asL, p_asSeqL, p_asSeqT, p_bV, p_dB, p_bAnd, p_bOr, p_bNot, p_dIf, p_dAnd, p_dOr, p_dNot, p_dCh, p_bYes, p_gN, p_gT, p_gsNil, p_gsCons, p_dNx, p_dRet, p_dSet, p_dIfS, p_dAsg, p_dPar, p_dAug, p_dApp, p_dSetIx, p_nLst, p_nRep, p_nOf, p_dSetN, p_dParN1, p_dParNN, p_iSeq, p_iRng1, p_iRng2, p_oNo, p_oIx, p_dSl, p_asIx, p_opTup, p_opLst, p_lenT, p_lenL, p_lenS, p_tupT, p_tupL, p_add, p_sub, p_mul, p_lt, p_le, p_gt, p_ge, p_eqI, p_neI, p_isN, p_isnN, p_isB, p_isnB, p_isNone_n, p_isNone_i, p_isNone_t, p_isNone_l, p_appL, p_appT, b_mc, b_mn, b_ac, b_an, b_rs, b_rz, b_lc, b_ln, b_it, b_if, b_itt, b_iff, p_dSeq, p_eqB, p_neB, len_eT, len_eR, len_eV, isNone_eO, seq_eT, seq_eR, seq_eV, seq_eL, eO_some, eO_none, len_eL, ↓p_eqN, ↓p_neN, ↓p_ltN, ↓p_leN, ↓p_gtN, ↓p_geN])).trans h1
  simp only [bnd_some, bnd_none, p_dc, p_dv, lk_z, lk_s, st_z, st_s, un_z, un_s, wipe_n, wipe_c, p_d2, p_d1, p_dnil, p_dcons, p_dL, p_asB, p_asI, p_asL, p_asSeqL, p_asSeqT, p_bV, p_dB, p_bAnd, p_bOr, p_bNot, p_dIf, p_dAnd, p_dOr, p_dNot, p_dCh, p_bYes, p_gN, p_gT, p_gsNil, p_gsCons, p_dNx, p_dRet, p_dSet, p_dIfS, p_dAsg, p_dPar, p_dAug, p_dApp, p_dSetIx, p_nLst, p_nRep, p_nOf, p_dSetN, p_dParN1, p_dParNN, p_iSeq, p_iRng1, p_iRng2, p_oNo, p_oIx, p_dSl, p_asIx, p_opTup, p_opLst, p_lenT, p_lenL, p_lenS, p_tupT, p_tupL, p_add, p_sub, p_mul, p_lt, p_le, p_gt, p_ge, p_eqI, p_neI, p_isN, p_isnN, p_isB, p_isnB, p_isNone_n, p_isNone_i, p_isNone_t, p_isNone_l, p_appL, p_appT, b_mc, b_mn, b_ac, b_an, b_rs, b_rz, b_lc, b_ln, b_it, b_if, b_itt, b_iff, p_dSeq, p_eqB, p_neB, len_eT, len_eR, len_eV, isNone_eO, seq_eT, seq_eR, seq_eV, seq_eL, eO_some, eO_none, len_eL, ↓p_eqN, ↓p_neN, ↓p_ltN, ↓p_leN, ↓p_gtN, ↓p_geN, Nat.reduceLeDiff, Nat.reduceSub, hf]
  rfl
theorem Tab.hid {m w : Nat} {T : Nat → Nat → Option Nat} (h : Tab m w T) (hid : Nat → Nat → Bool) : Tab m w fun i j => if hid i j = true then none else T i j :=
  ⟨h.m0, h.m1, h.w0, h.w1, fun i j e q => h.bd i j e (by
    by_cases z : hid i j = true
    · rw [if_pos z] at q; cases q
    · rw [if_neg z] at q; exact q)⟩
theorem mapM_seq {α : Type} (f : α → List D) : ∀ l : List α, (l.map fun x => D.tup (f x)).mapM asSeq = some (l.map f)
  | [] => rfl
  | x :: l => by
    rw [List.map_cons, List.mapM_cons, mapM_seq f l]
    rfl
def SpL (e x : Nat) : Prop := x = 1 ∨ x = 2 ∨ x = 3 ∨ x = 4 ∨ x = 6 ∨ x = 12 ∨ x = e * 2 ∨ x = e * 3
theorem spl_ix {e k : Nat} (h : k < 8) : ∃ x : Nat, SpL e x ∧ opIx (.lst [.int 1, .int 2, .int 3, .int 4, .int 6, .int 12, .int (e * 2 : Nat), .int (e * 3 : Nat)]) (.int k) = some (.int x) := by
  have : k = 0 ∨ k = 1 ∨ k = 2 ∨ k = 3 ∨ k = 4 ∨ k = 5 ∨ k = 6 ∨ k = 7 := by omega
  rcases this with q | q | q | q | q | q | q | q <;> subst q
  · exact ⟨1, by simp [SpL], rfl⟩
  · exact ⟨2, by simp [SpL], rfl⟩
  · exact ⟨3, by simp [SpL], rfl⟩
  · exact ⟨4, by simp [SpL], rfl⟩
  · exact ⟨6, by simp [SpL], rfl⟩
  · exact ⟨12, by simp [SpL], rfl⟩
  · exact ⟨e * 2, by simp [SpL], rfl⟩
  · exact ⟨e * 3, by simp [SpL], rfl⟩
def put (T : Nat → Nat → Option Nat) (r c x : Nat) : Nat → Nat → Option Nat := fun i j => if i = r ∧ j = c then some x else T i j
/-- one known entry changed, or nothing -/
def Spo (m w : Nat) (T T' : Nat → Nat → Option Nat) : Prop := T' = T ∨ ∃ r, r < m ∧ ∃ c, c < w ∧ ∃ e, T r c = some e ∧ ∃ x, SpL e x ∧ T' = put T r c x
theorem Tab.spo {m w : Nat} {T T' : Nat → Nat → Option Nat} (h : Tab m w T) (hB : ∀ i j e, T i j = some e → e ≤ 100000000000000000) (s : Spo m w T T') : Tab m w T' := by
  rcases s with e | ⟨r, _, c, _, e, he, x, hx, q⟩
  · rw [e]; exact h
  · refine ⟨h.m0, h.m1, h.w0, h.w1, fun i j y hy => ?_⟩
    rw [q] at hy
    unfold put at hy
    by_cases z : i = r ∧ j = c
    · rw [if_pos z] at hy
      cases hy
      have := hB r c e he
      have := (h.bd r c e he).1
      unfold SpL at hx
      omega
    · rw [if_neg z] at hy
      exact h.bd i j y hy
theorem set_range {α : Type} (f : Nat → α) (m r : Nat) (x : α) : ((List.range m).map f).set r x = (List.range m).map fun i => if i = r then x else f i := by
  apply List.ext_getElem
  · simp
  · intro i h1 h2
    rw [List.getElem_set]
    simp
    by_cases q : r = i
    · simp [q]
    · have : ¬ i = r := fun z => q z.symm
      simp [q, this]
theorem spoilt_m {m w : Nat} {T : Nat → Nat → Option Nat} {ds : List Nat} (h : Tab m w T) (hd : 3 ≤ ds.length) :
    ∃ T', Spo m w T T' ∧ m_law_spoilt [eT m w T, eL ds] = some (eT m w T') := by
  have hm0 := h.m0
  have hw0 := h.w0
  have hm1 := h.m1
  have hw1 := h.w1
  have hr := Nat.mod_lt (ds.getD 0 0) hm0
  have hc := Nat.mod_lt (ds.getD 1 0) hw0
  generalize qr : ds.getD 0 0 % m = r at hr
  generalize qc : ds.getD 1 0 % w = c at hc
  have a0 : opIx (eL ds) (.int 0) = some (.int (ds.getD 0 0)) := ix_eL (k := 0) (by omega)
  have a1 : opIx (eL ds) (.int 1) = some (.int (ds.getD 1 0)) := ix_eL (k := 1) (by omega)
  have a2 : opIx (eL ds) (.int 2) = some (.int (ds.getD 2 0)) := ix_eL (k := 2) (by omega)
  have m0 := mod_n (a := ds.getD 0 0) hm0
  have m1 := mod_n (a := ds.getD 1 0) hw0
  rw [qr] at m0
  rw [qc] at m1
  have k8 : opMod (.int (ds.getD 2 0)) (.int 8) = some (.int (ds.getD 2 0 % 8 : Nat)) := mod_n (b := 8) (by decide)
  let E : (Nat → Nat → Option Nat) → List D := fun T => (List.range m).map fun i => D.lst ((List.range w).map fun j => eO (T i j))
  have fin : ∀ (T : Nat → Nat → Option Nat) (x y : Option D) (z : D), (dRet (dL opTuple (dcons m_law_spoilt_c1 dnil))) [some z, some (eL ds), some (.lst (E T)), x, y] = some (.rt (eT m w T)) := by
    intro T x y z
    simp only [p_dRet, p_dL, p_dcons, p_dnil]
    unfold m_law_spoilt_c1
    rw [comp_all (fun i => D.lst ((List.range w).map fun j => eO (T i j))) (fun i => eR w (T i)) (List.range m) (by simp only [bnd_some, bnd_none, p_dc, p_dv, lk_z, lk_s, st_z, st_s, un_z, un_s, wipe_n, wipe_c, p_d2, p_d1, p_dnil, p_dcons, p_dL, p_asB, p_asI, p_asL, p_asSeqL, p_asSeqT, p_bV, p_dB, p_bAnd, p_bOr, p_bNot, p_dIf, p_dAnd, p_dOr, p_dNot, p_dCh, p_bYes, p_gN, p_gT, p_gsNil, p_gsCons, p_dNx, p_dRet, p_dSet, p_dIfS, p_dAsg, p_dPar, p_dAug, p_dApp, p_dSetIx, p_nLst, p_nRep, p_nOf, p_dSetN, p_dParN1, p_dParNN, p_iSeq, p_iRng1, p_iRng2, p_oNo, p_oIx, p_dSl, p_asIx, p_opTup, p_opLst, p_lenT, p_lenL, p_lenS, p_tupT, p_tupL, p_add, p_sub, p_mul, p_lt, p_le, p_gt, p_ge, p_eqI, p_neI, p_isN, p_isnN, p_isB, p_isnB, p_isNone_n, p_isNone_i, p_isNone_t, p_isNone_l, p_appL, p_appT, b_mc, b_mn, b_ac, b_an, b_rs, b_rz, b_lc, b_ln, b_it, b_if, b_itt, b_iff, p_dSeq, p_eqB, p_neB, len_eT, len_eR, len_eV, isNone_eO, seq_eT, seq_eR, seq_eV, seq_eL, eO_some, eO_none, len_eL, ↓p_eqN, ↓p_neN, ↓p_ltN, ↓p_leN, ↓p_gtN, ↓p_geN]; rfl) (by simp; omega) (by
      intro i _
      refine ⟨_, rfl, ?_⟩
      simp only [bnd_some, bnd_none, p_dc, p_dv, lk_z, lk_s, st_z, st_s, un_z, un_s, wipe_n, wipe_c, p_d2, p_d1, p_dnil, p_dcons, p_dL, p_asB, p_asI, p_asL, p_asSeqL, p_asSeqT, p_bV, p_dB, p_bAnd, p_bOr, p_bNot, p_dIf, p_dAnd, p_dOr, p_dNot, p_dCh, p_bYes, p_gN, p_gT, p_gsNil, p_gsCons, p_dNx, p_dRet, p_dSet, p_dIfS, p_dAsg, p_dPar, p_dAug, p_dApp, p_dSetIx, p_nLst, p_nRep, p_nOf, p_dSetN, p_dParN1, p_dParNN, p_iSeq, p_iRng1, p_iRng2, p_oNo, p_oIx, p_dSl, p_asIx, p_opTup, p_opLst, p_lenT, p_lenL, p_lenS, p_tupT, p_tupL, p_add, p_sub, p_mul, p_lt, p_le, p_gt, p_ge, p_eqI, p_neI, p_isN, p_isnN, p_isB, p_isnB, p_isNone_n, p_isNone_i, p_isNone_t, p_isNone_l, p_appL, p_appT, b_mc, b_mn, b_ac, b_an, b_rs, b_rz, b_lc, b_ln, b_it, b_if, b_itt, b_iff, p_dSeq, p_eqB, p_neB, len_eT, len_eR, len_eV, isNone_eO, seq_eT, seq_eR, seq_eV, seq_eL, eO_some, eO_none, len_eL, ↓p_eqN, ↓p_neN, ↓p_ltN, ↓p_leN, ↓p_gtN, ↓p_geN]
      rfl)]
    simp only [bnd_some, bnd_none, p_dc, p_dv, lk_z, lk_s, st_z, st_s, un_z, un_s, wipe_n, wipe_c, p_d2, p_d1, p_dnil, p_dcons, p_dL, p_asB, p_asI, p_asL, p_asSeqL, p_asSeqT, p_bV, p_dB, p_bAnd, p_bOr, p_bNot, p_dIf, p_dAnd, p_dOr, p_dNot, p_dCh, p_bYes, p_gN, p_gT, p_gsNil, p_gsCons, p_dNx, p_dRet, p_dSet, p_dIfS, p_dAsg, p_dPar, p_dAug, p_dApp, p_dSetIx, p_nLst, p_nRep, p_nOf, p_dSetN, p_dParN1, p_dParNN, p_iSeq, p_iRng1, p_iRng2, p_oNo, p_oIx, p_dSl, p_asIx, p_opTup, p_opLst, p_lenT, p_lenL, p_lenS, p_tupT, p_tupL, p_add, p_sub, p_mul, p_lt, p_le, p_gt, p_ge, p_eqI, p_neI, p_isN, p_isnN, p_isB, p_isnB, p_isNone_n, p_isNone_i, p_isNone_t, p_isNone_l, p_appL, p_appT, b_mc, b_mn, b_ac, b_an, b_rs, b_rz, b_lc, b_ln, b_it, b_if, b_itt, b_iff, p_dSeq, p_eqB, p_neB, len_eT, len_eR, len_eV, isNone_eO, seq_eT, seq_eR, seq_eV, seq_eL, eO_some, eO_none, len_eL, ↓p_eqN, ↓p_neN, ↓p_ltN, ↓p_leN, ↓p_gtN, ↓p_geN]
    rfl
  have s1 : dSetNN' 2 3 (iSeq (dv 0)) [some (eT m w T), some (eL ds), none, none, none] = some (.nx [some (eT m w T), some (eL ds), some (.lst (E T)), none, none]) := by
    have e1 : ((List.range m).map fun i => eR w (T i)).mapM asSeq = some ((List.range m).map fun i => (List.range w).map fun j => eO (T i j)) := mapM_seq _ _
    have e2 : iSeq (dv 0) [some (eT m w T), some (eL ds), none, none, none] = some ((List.range m).map fun i => eR w (T i)) := by simp only [bnd_some, bnd_none, p_dc, p_dv, lk_z, lk_s, st_z, st_s, un_z, un_s, wipe_n, wipe_c, p_d2, p_d1, p_dnil, p_dcons, p_dL, p_asB, p_asI, p_asL, p_asSeqL, p_asSeqT, p_bV, p_dB, p_bAnd, p_bOr, p_bNot, p_dIf, p_dAnd, p_dOr, p_dNot, p_dCh, p_bYes, p_gN, p_gT, p_gsNil, p_gsCons, p_dNx, p_dRet, p_dSet, p_dIfS, p_dAsg, p_dPar, p_dAug, p_dApp, p_dSetIx, p_nLst, p_nRep, p_nOf, p_dSetN, p_dParN1, p_dParNN, p_iSeq, p_iRng1, p_iRng2, p_oNo, p_oIx, p_dSl, p_asIx, p_opTup, p_opLst, p_lenT, p_lenL, p_lenS, p_tupT, p_tupL, p_add, p_sub, p_mul, p_lt, p_le, p_gt, p_ge, p_eqI, p_neI, p_isN, p_isnN, p_isB, p_isnB, p_isNone_n, p_isNone_i, p_isNone_t, p_isNone_l, p_appL, p_appT, b_mc, b_mn, b_ac, b_an, b_rs, b_rz, b_lc, b_ln, b_it, b_if, b_itt, b_iff, p_dSeq, p_eqB, p_neB, len_eT, len_eR, len_eV, isNone_eO, seq_eT, seq_eR, seq_eV, seq_eL, eO_some, eO_none, len_eL, ↓p_eqN, ↓p_neN, ↓p_ltN, ↓p_leN, ↓p_gtN, ↓p_geN]
    unfold dSetNN'
    rw [e2]
    simp only [Option.bind_some, e1]
    rw [if_pos (by simp; omega)]
    simp only [bnd_some, bnd_none, p_dc, p_dv, lk_z, lk_s, st_z, st_s, un_z, un_s, wipe_n, wipe_c, p_d2, p_d1, p_dnil, p_dcons, p_dL, p_asB, p_asI, p_asL, p_asSeqL, p_asSeqT, p_bV, p_dB, p_bAnd, p_bOr, p_bNot, p_dIf, p_dAnd, p_dOr, p_dNot, p_dCh, p_bYes, p_gN, p_gT, p_gsNil, p_gsCons, p_dNx, p_dRet, p_dSet, p_dIfS, p_dAsg, p_dPar, p_dAug, p_dApp, p_dSetIx, p_nLst, p_nRep, p_nOf, p_dSetN, p_dParN1, p_dParNN, p_iSeq, p_iRng1, p_iRng2, p_oNo, p_oIx, p_dSl, p_asIx, p_opTup, p_opLst, p_lenT, p_lenL, p_lenS, p_tupT, p_tupL, p_add, p_sub, p_mul, p_lt, p_le, p_gt, p_ge, p_eqI, p_neI, p_isN, p_isnN, p_isB, p_isnB, p_isNone_n, p_isNone_i, p_isNone_t, p_isNone_l, p_appL, p_appT, b_mc, b_mn, b_ac, b_an, b_rs, b_rz, b_lc, b_ln, b_it, b_if, b_itt, b_iff, p_dSeq, p_eqB, p_neB, len_eT, len_eR, len_eV, isNone_eO, seq_eT, seq_eR, seq_eV, seq_eL, eO_some, eO_none, len_eL, ↓p_eqN, ↓p_neN, ↓p_ltN, ↓p_leN, ↓p_gtN, ↓p_geN, List.map_map]
    rfl
  have ixm : ∀ {i : Nat}, i < m → opIx (.lst (E T)) (.int i) = some (.lst ((List.range w).map fun j => eO (T i j))) := fun hi => ixRL hi
  have ixm0 : opIx (.lst (E T)) (.int 0) = some (.lst ((List.range w).map fun j => eO (T 0 j))) := ixRL (i := 0) hm0
  have ixw : ∀ {j : Nat}, j < w → opIx (.lst ((List.range w).map fun j => eO (T r j))) (.int j) = some (eO (T r j)) := fun hj => ixRL hj
  have lm : opLen [.lst (E T)] = some (.int m) := by simp [E]
  have lw : opLen [.lst ((List.range w).map fun j => eO (T 0 j))] = some (.int w) := by simp
  have sc : ∀ (f : DF) (n : Int) (ρ : Rho), f ρ = some (.int n) → scD f ρ = some (.int n) := fun f n ρ q => by simp [scD, q, isSc]
  have s2 : ∀ ρ : Rho, ρ = [some (eT m w T), some (eL ds), some (.lst (E T)), none, none] → dPar 3 4 (scD (d2 opMod (d2 opIx (dv 1) (dc (.int 0))) (dL opLen (dcons (dv 2) dnil)))) (scD (d2 opMod (d2 opIx (dv 1) (dc (.int 1))) (dL opLen (dcons (d2 opIx (dv 2) (dc (.int 0))) dnil)))) ρ =
      some (.nx [some (eT m w T), some (eL ds), some (.lst (E T)), some (.int r), some (.int c)]) := by
    rintro ρ rfl
    rw [p_dPar, sc _ _ _ (by simp only [bnd_some, bnd_none, p_dc, p_dv, lk_z, lk_s, st_z, st_s, un_z, un_s, wipe_n, wipe_c, p_d2, p_d1, p_dnil, p_dcons, p_dL, p_asB, p_asI, p_asL, p_asSeqL, p_asSeqT, p_bV, p_dB, p_bAnd, p_bOr, p_bNot, p_dIf, p_dAnd, p_dOr, p_dNot, p_dCh, p_bYes, p_gN, p_gT, p_gsNil, p_gsCons, p_dNx, p_dRet, p_dSet, p_dIfS, p_dAsg, p_dPar, p_dAug, p_dApp, p_dSetIx, p_nLst, p_nRep, p_nOf, p_dSetN, p_dParN1, p_dParNN, p_iSeq, p_iRng1, p_iRng2, p_oNo, p_oIx, p_dSl, p_asIx, p_opTup, p_opLst, p_lenT, p_lenL, p_lenS, p_tupT, p_tupL, p_add, p_sub, p_mul, p_lt, p_le, p_gt, p_ge, p_eqI, p_neI, p_isN, p_isnN, p_isB, p_isnB, p_isNone_n, p_isNone_i, p_isNone_t, p_isNone_l, p_appL, p_appT, b_mc, b_mn, b_ac, b_an, b_rs, b_rz, b_lc, b_ln, b_it, b_if, b_itt, b_iff, p_dSeq, p_eqB, p_neB, len_eT, len_eR, len_eV, isNone_eO, seq_eT, seq_eR, seq_eV, seq_eL, eO_some, eO_none, len_eL, ↓p_eqN, ↓p_neN, ↓p_ltN, ↓p_leN, ↓p_gtN, ↓p_geN, a0, lm, m0]; rfl), sc _ _ _ (by simp only [bnd_some, bnd_none, p_dc, p_dv, lk_z, lk_s, st_z, st_s, un_z, un_s, wipe_n, wipe_c, p_d2, p_d1, p_dnil, p_dcons, p_dL, p_asB, p_asI, p_asL, p_asSeqL, p_asSeqT, p_bV, p_dB, p_bAnd, p_bOr, p_bNot, p_dIf, p_dAnd, p_dOr, p_dNot, p_dCh, p_bYes, p_gN, p_gT, p_gsNil, p_gsCons, p_dNx, p_dRet, p_dSet, p_dIfS, p_dAsg, p_dPar, p_dAug, p_dApp, p_dSetIx, p_nLst, p_nRep, p_nOf, p_dSetN, p_dParN1, p_dParNN, p_iSeq, p_iRng1, p_iRng2, p_oNo, p_oIx, p_dSl, p_asIx, p_opTup, p_opLst, p_lenT, p_lenL, p_lenS, p_tupT, p_tupL, p_add, p_sub, p_mul, p_lt, p_le, p_gt, p_ge, p_eqI, p_neI, p_isN, p_isnN, p_isB, p_isnB, p_isNone_n, p_isNone_i, p_isNone_t, p_isNone_l, p_appL, p_appT, b_mc, b_mn, b_ac, b_an, b_rs, b_rz, b_lc, b_ln, b_it, b_if, b_itt, b_iff, p_dSeq, p_eqB, p_neB, len_eT, len_eR, len_eV, isNone_eO, seq_eT, seq_eR, seq_eV, seq_eL, eO_some, eO_none, len_eL, ↓p_eqN, ↓p_neN, ↓p_ltN, ↓p_leN, ↓p_gtN, ↓p_geN, a1, ixm0, lw, m1]; rfl)]
    simp only [bnd_some, bnd_none, p_dc, p_dv, lk_z, lk_s, st_z, st_s, un_z, un_s, wipe_n, wipe_c, p_d2, p_d1, p_dnil, p_dcons, p_dL, p_asB, p_asI, p_asL, p_asSeqL, p_asSeqT, p_bV, p_dB, p_bAnd, p_bOr, p_bNot, p_dIf, p_dAnd, p_dOr, p_dNot, p_dCh, p_bYes, p_gN, p_gT, p_gsNil, p_gsCons, p_dNx, p_dRet, p_dSet, p_dIfS, p_dAsg, p_dPar, p_dAug, p_dApp, p_dSetIx, p_nLst, p_nRep, p_nOf, p_dSetN, p_dParN1, p_dParNN, p_iSeq, p_iRng1, p_iRng2, p_oNo, p_oIx, p_dSl, p_asIx, p_opTup, p_opLst, p_lenT, p_lenL, p_lenS, p_tupT, p_tupL, p_add, p_sub, p_mul, p_lt, p_le, p_gt, p_ge, p_eqI, p_neI, p_isN, p_isnN, p_isB, p_isnB, p_isNone_n, p_isNone_i, p_isNone_t, p_isNone_l, p_appL, p_appT, b_mc, b_mn, b_ac, b_an, b_rs, b_rz, b_lc, b_ln, b_it, b_if, b_itt, b_iff, p_dSeq, p_eqB, p_neB, len_eT, len_eR, len_eV, isNone_eO, seq_eT, seq_eR, seq_eV, seq_eL, eO_some, eO_none, len_eL, ↓p_eqN, ↓p_neN, ↓p_ltN, ↓p_leN, ↓p_gtN, ↓p_geN]
  cases q : T r c with
  | none =>
    refine ⟨T, Or.inl rfl, run_rt rfl ?_⟩
    simp only [b_mc, b_mn, b_ac, b_an, b_rs, b_rz, Nat.reduceSub, p_dSeq, s1, bnd_some, s2]
    rw [p_dIfS]
    simp only [p_bV, p_d2, p_dv, lk_z, lk_s, bnd_some, ixm hr, ixw hc, q, eO_none, p_dc, p_isnN, p_isNone_n, p_asB, Bool.not_true, b_iff, p_dNx]
    exact fin T _ _ _
  | some e =>
    obtain ⟨x, hx, hx2⟩ := spl_ix (e := e) (k := ds.getD 2 0 % 8) (Nat.mod_lt _ (by decide))
    refine ⟨put T r c x, Or.inr ⟨r, hr, c, hc, e, q, x, hx, rfl⟩, run_rt rfl ?_⟩
    have t2 : opMul (.int e) (.int 2) = some (.int (e * 2 : Nat)) := mul_n (b := 2) (by decide)
    have t3 : opMul (.int e) (.int 3) = some (.int (e * 3 : Nat)) := mul_n (b := 3) (by decide)
    have fin2 : E (put T r c x) = (E T).set r (.lst (((List.range w).map fun j => eO (T r j)).set c (.int x))) := by
      simp only [E, set_range]
      apply List.map_congr_left
      intro i _
      by_cases qi : i = r
      · subst qi
        rw [if_pos rfl]
        refine congrArg D.lst ?_
        apply List.map_congr_left
        intro j _
        by_cases qj : j = c
        · simp [put, qj]
        · simp [put, qj]
      · rw [if_neg qi]
        refine congrArg D.lst ?_
        apply List.map_congr_left
        intro j _
        simp [put, qi]
    have s3 : dSetIx2 2 (dv 3) (dv 4) (d2 opIx (dL opLst (dcons (dc (.int 1)) (dcons (dc (.int 2)) (dcons (dc (.int 3)) (dcons (dc (.int 4)) (dcons (dc (.int 6)) (dcons (dc (.int 12)) (dcons (d2 opMul (d2 opIx (d2 opIx (dv 2) (dv 3)) (dv 4)) (dc (.int 2))) (dcons (d2 opMul (d2 opIx (d2 opIx (dv 2) (dv 3)) (dv 4)) (dc (.int 3))) dnil))))))))) (d2 opMod (d2 opIx (dv 1) (dc (.int 2))) (dc (.int 8)))) [some (eT m w T), some (eL ds), some (.lst (E T)), some (.int r), some (.int c)] =
        some (.nx [some (eT m w T), some (eL ds), some (.lst (E (put T r c x))), some (.int r), some (.int c)]) := by
      unfold dSetIx2
      rw [sc _ _ _ (by simp only [bnd_some, bnd_none, p_dc, p_dv, lk_z, lk_s, st_z, st_s, un_z, un_s, wipe_n, wipe_c, p_d2, p_d1, p_dnil, p_dcons, p_dL, p_asB, p_asI, p_asL, p_asSeqL, p_asSeqT, p_bV, p_dB, p_bAnd, p_bOr, p_bNot, p_dIf, p_dAnd, p_dOr, p_dNot, p_dCh, p_bYes, p_gN, p_gT, p_gsNil, p_gsCons, p_dNx, p_dRet, p_dSet, p_dIfS, p_dAsg, p_dPar, p_dAug, p_dApp, p_dSetIx, p_nLst, p_nRep, p_nOf, p_dSetN, p_dParN1, p_dParNN, p_iSeq, p_iRng1, p_iRng2, p_oNo, p_oIx, p_dSl, p_asIx, p_opTup, p_opLst, p_lenT, p_lenL, p_lenS, p_tupT, p_tupL, p_add, p_sub, p_mul, p_lt, p_le, p_gt, p_ge, p_eqI, p_neI, p_isN, p_isnN, p_isB, p_isnB, p_isNone_n, p_isNone_i, p_isNone_t, p_isNone_l, p_appL, p_appT, b_mc, b_mn, b_ac, b_an, b_rs, b_rz, b_lc, b_ln, b_it, b_if, b_itt, b_iff, p_dSeq, p_eqB, p_neB, len_eT, len_eR, len_eV, isNone_eO, seq_eT, seq_eR, seq_eV, seq_eL, eO_some, eO_none, len_eL, ↓p_eqN, ↓p_neN, ↓p_ltN, ↓p_leN, ↓p_gtN, ↓p_geN, ixm hr, ixw hc, q, t2, t3, Nat.reduceAdd, Nat.reduceLeDiff, a2, k8, hx2]; rfl)]
      have g1 : ixNat (E T).length (r : Int) = some r := ixN (by simp [E]; omega)
      have g2 : (E T)[r]? = some (.lst ((List.range w).map fun j => eO (T r j))) := by simp [E, hr]
      have g3 : ixNat ((List.range w).map fun j => eO (T r j)).length (c : Int) = some c := ixN (by simp; omega)
      rw [fin2]
      simp only [p_dv, lk_z, lk_s, Option.bind_some, p_asI, p_asL, g1, g2, g3, st_z, st_s]
    simp only [b_mc, b_mn, b_ac, b_an, b_rs, b_rz, Nat.reduceSub, p_dSeq, s1, bnd_some, s2]
    rw [p_dIfS]
    have nn : T r c = some e := q
    have tt : bV (d2 opIsNot (d2 opIx (d2 opIx (dv 2) (dv 3)) (dv 4)) (dc .non)) [some (eT m w T), some (eL ds), some (.lst (E T)), some (.int r), some (.int c)] = some true := by
      simp only [p_bV, p_d2, p_dv, lk_z, lk_s, bnd_some, ixm hr, ixw hc, q, eO_some, p_dc, p_isnN, p_isNone_i, p_asB, Bool.not_false]
    rw [tt]
    simp only [bnd_some, if_true, s3]
    exact fin _ _ _ _
def eK (T : Nat → Nat → Option Nat) (p : Nat × Nat) : D := .tup [.int p.1, .int p.2, eO (T p.1 p.2)]
theorem en_eT {m w : Nat} {T : Nat → Nat → Option Nat} {f : DFs} {ρ : Rho} (h : f ρ = some [eT m w T]) : iEn f ρ = some ((List.range m).map fun i => .tup [.int (i : Nat), eR w (T i)]) := by
  rw [p_iEnT (xs := (List.range m).map fun i => eR w (T i)) h, enum_range]
theorem en_eR {w : Nat} {T : Nat → Option Nat} {f : DFs} {ρ : Rho} (h : f ρ = some [eR w T]) : iEn f ρ = some ((List.range w).map fun j => .tup [.int (j : Nat), eO (T j)]) := by
  rw [p_iEnT (xs := (List.range w).map fun j => eO (T j)) h, enum_range]
theorem known_m {m w : Nat} {T : Nat → Nat → Option Nat} (h : Tab m w T) : m_law_known [eT m w T] = some (.lst ((kp m w T).map (eK T))) := by
  have hm := h.m0
  have hm1 := h.m1
  have hw1 := h.w1
  refine run_rt rfl ?_
  obtain ⟨ρ', h1, x, y, h3⟩ := for_range (g := (gT (gsCons (gN 2) (gsCons (gN 3) gsNil)))) (b := m_law_known_b1) (fun i => .tup [.int (i : Nat), eR w (T i)])
    (fun (i : Nat) (ρ : Rho) => ∃ x y, ρ = [some (eT m w T), some (.lst ((kp i w T).map (eK T))), x, y, none, none]) m (by
      rintro i hi ρ ⟨x, y, rfl⟩
      refine ⟨_, rfl, ?_⟩
      have h2 : m_law_known_c1 [some (eT m w T), some (.lst ((kp i w T).map (eK T))), some (.int i), some (eR w (T i)), none, none]
          = some (.lst ((kpRow w T i).map (eK T))) := by
        unfold m_law_known_c1
        rw [comp_if (fun j : Nat => D.tup [.int (j : Nat), eO (T i j)]) (fun j => (T i j).isSome) (fun j => eK T (i, j)) (List.range w) (en_eR (by simp)) (by simp; omega) (by
          intro j hj
          refine ⟨_, rfl, ?_, fun _ => ?_⟩
          · simp
          · simp [eK])]
        simp [kpRow, Function.comp_def]
      have hl : ((kp i w T).map (eK T)).length + ((kpRow w T i).map (eK T)).length ≤ 16777216 := by
        have h5 := kp_len w T i
        have h6 := kpRow_len w T i
        have h7 : i * w ≤ 100 * 100 := Nat.mul_le_mul (by omega) hw1
        simp only [List.length_map]
        omega
      refine ⟨[some (eT m w T), some (.lst ((kp (i + 1) w T).map (eK T))), some (.int i), some (eR w (T i)), none, none], ?_, _, _, rfl⟩
      rw [kp_succ, List.map_append]
      simp only [m_law_known_b1, p_dSet, p_d2, p_dv, lk_z, lk_s, bnd_some, st_s, st_z, h2, p_appL, if_pos hl]) (ρ := [some (eT m w T), some (.lst []), none, none, none, none]) ⟨none, none, rfl⟩
  have hf := (for_eq (it := iEn (dcons (dv 0) dnil)) (ρ := [some (eT m w T), some (.lst []), none, none, none, none]) (en_eT (by simp))).trans h1
  subst h3
  simp only [bnd_some, bnd_none, p_dc, p_dv, lk_z, lk_s, st_z, st_s, un_z, un_s, wipe_n, wipe_c, p_d2, p_d1, p_dnil, p_dcons, p_dL, p_asB, p_asI, p_asL, p_asSeqL, p_asSeqT, p_bV, p_dB, p_bAnd, p_bOr, p_bNot, p_dIf, p_dAnd, p_dOr, p_dNot, p_dCh, p_bYes, p_gN, p_gT, p_gsNil, p_gsCons, p_dNx, p_dRet, p_dSet, p_dIfS, p_dAsg, p_dPar, p_dAug, p_dApp, p_dSetIx, p_nLst, p_nRep, p_nOf, p_dSetN, p_dParN1, p_dParNN, p_iSeq, p_iRng1, p_iRng2, p_oNo, p_oIx, p_dSl, p_asIx, p_opTup, p_opLst, p_lenT, p_lenL, p_lenS, p_tupT, p_tupL, p_add, p_sub, p_mul, p_lt, p_le, p_gt, p_ge, p_eqI, p_neI, p_isN, p_isnN, p_isB, p_isnB, p_isNone_n, p_isNone_i, p_isNone_t, p_isNone_l, p_appL, p_appT, b_mc, b_mn, b_ac, b_an, b_rs, b_rz, b_lc, b_ln, b_it, b_if, b_itt, b_iff, p_dSeq, p_eqB, p_neB, len_eT, len_eR, len_eV, isNone_eO, seq_eT, seq_eR, seq_eV, seq_eL, eO_some, eO_none, len_eL, ↓p_eqN, ↓p_neN, ↓p_ltN, ↓p_leN, ↓p_gtN, ↓p_geN, Nat.reduceSub, Nat.reduceLeDiff, Nat.zero_le, hf]
end Mi
namespace Mi
open DL
theorem ok_eO (n : Nat) (x : Option Nat) : okD n (eO x) = true := by cases x <;> simp [okD]
structure DvM (M : Nat) (T : Nat → Nat → Option Nat) : Prop where
  pos : 0 < M
  le : M ≤ 1000000000
  dvd : ∀ i j e, T i j = some e → e ∣ M
theorem DvM.bd {M : Nat} {T : Nat → Nat → Option Nat} (h : DvM M T) {i j e : Nat} (q : T i j = some e) : 0 < e ∧ e ≤ 1000000000 := by
  have h1 := h.dvd i j e q
  exact ⟨Nat.pos_of_dvd_of_pos h1 h.pos, Nat.le_trans (Nat.le_of_dvd h.pos h1) h.le⟩
theorem DvM.tab {M m w : Nat} {T : Nat → Nat → Option Nat} (h : DvM M T) (m0 : 0 < m) (m1 : m ≤ 100) (w0 : 0 < w) (w1 : w ≤ 100) : Tab m w T := ⟨m0, m1, w0, w1, fun i j e q => by
  have := h.bd q
  omega⟩
end Mi
namespace Mi
open DL
end Mi
namespace Mi
open DL
theorem someL_dvd {n : Nat} (h : n ∈ someL) : n ∣ 360 := by
  simp [someL] at h
  rcases h with h | h | h | h | h | h | h | h | h | h | h | h <;> subst h <;> decide
theorem dvm_lcm {R C : Nat → Nat} (hR : ∀ i, R i ∈ someL) (hC : ∀ j, C j ∈ someL) : DvM 360 fun i j => some (Nat.lcm (R i) (C j)) := ⟨by decide, by decide, fun i j e q => by
  cases q
  exact Nat.lcm_dvd (someL_dvd (hR i)) (someL_dvd (hC j))⟩
theorem DvM.hid {M : Nat} {T : Nat → Nat → Option Nat} (h : DvM M T) (hid : Nat → Nat → Bool) : DvM M fun i j => if hid i j = true then none else T i j :=
  ⟨h.pos, h.le, fun i j e q => h.dvd i j e (by
    by_cases z : hid i j = true
    · rw [if_pos z] at q; cases q
    · rw [if_neg z] at q; exact q)⟩
theorem DvM.up {M N : Nat} {T : Nat → Nat → Option Nat} (h : DvM M T) (hN : 0 < N) (hl : N ≤ 1000000000) (hd : M ∣ N) : DvM N T := ⟨hN, hl, fun i j e q => Nat.dvd_trans (h.dvd i j e q) hd⟩
theorem DvM.spo {T T' : Nat → Nat → Option Nat} {m w : Nat} (h : DvM 360 T) (s : Spo m w T T') : DvM 2160 T' := by
  have h' := h.up (N := 2160) (by decide) (by decide) (by decide)
  rcases s with e | ⟨r, _, c, _, e, he, x, hx, q⟩
  · rw [e]; exact h'
  · refine ⟨by decide, by decide, fun i j y hy => ?_⟩
    rw [q] at hy
    unfold put at hy
    by_cases z : i = r ∧ j = c
    · rw [if_pos z] at hy
      cases hy
      obtain ⟨k, hk⟩ := h.dvd r c e he
      rcases hx with rfl | rfl | rfl | rfl | rfl | rfl | rfl | rfl
      · decide
      · decide
      · decide
      · decide
      · decide
      · decide
      · exact ⟨k * 3, by rw [show e * 2 * (k * 3) = e * k * 6 by ac_rfl, ← hk]⟩
      · exact ⟨k * 2, by rw [show e * 3 * (k * 2) = e * k * 6 by ac_rfl, ← hk]⟩
    · rw [if_neg z] at hy
      exact h'.dvd i j y hy
end Mi
namespace Mi
open DL
end Mi
namespace Mi
open DL
/-- with returns: what is known of what is returned, what of all that do not return -/
theorem for_q {α : Type} {g : DG} {b : DS} (e : α → D) (P : Rho → Prop) (Q : D → Prop) (N : α → Prop) : ∀ (xs : List α) (ρ : Rho),
    (∀ x ∈ xs, ∀ ρ, P ρ → ∃ ρ1, g (e x) ρ = some ρ1 ∧ ((∃ d, b ρ1 = some (.rt d) ∧ Q d) ∨ (∃ ρ2, b ρ1 = some (.nx ρ2) ∧ P ρ2 ∧ N x))) → P ρ →
    (∃ d, forL g b (xs.map e) ρ = some (.rt d) ∧ Q d) ∨ (∃ ρ', forL g b (xs.map e) ρ = some (.nx ρ') ∧ P ρ' ∧ ∀ x ∈ xs, N x)
  | [], ρ, _, h => Or.inr ⟨ρ, rfl, h, by simp⟩
  | x :: xs, ρ, hs, h => by
    obtain ⟨ρ1, h1, h2⟩ := hs x List.mem_cons_self ρ h
    rcases h2 with ⟨d, h2, h3⟩ | ⟨ρ2, h2, h3, h4⟩
    · exact Or.inl ⟨d, by simp [forL, h1, h2], h3⟩
    · rcases for_q e P Q N xs ρ2 (fun y hy => hs y (List.mem_cons_of_mem _ hy)) h3 with ⟨d, h5, h6⟩ | ⟨ρ', h5, h6, h7⟩
      · exact Or.inl ⟨d, by simp [forL, h1, h2, h5], h6⟩
      · refine Or.inr ⟨ρ', by simp [forL, h1, h2, h5], h6, fun y hy => ?_⟩
        rcases List.mem_cons.mp hy with q | q
        · rw [q]; exact h4
        · exact h7 y q
theorem dvd_lcm_gcd {d a c b : Nat} (h1 : d ∣ Nat.lcm a b) (h2 : d ∣ Nat.lcm c b) : d ∣ Nat.lcm (Nat.gcd a c) b := by
  rcases Nat.eq_zero_or_pos b with b0 | b0
  · subst b0; rw [Nat.lcm_zero_right]; exact Nat.dvd_zero d
  rcases Nat.eq_zero_or_pos a with a0 | a0
  · subst a0; rw [Nat.gcd_zero_left]; exact h2
  rcases Nat.eq_zero_or_pos c with c0 | c0
  · subst c0; rw [Nat.gcd_zero_right]; exact h1
  have fac : ∀ x, 0 < x → Nat.lcm x b = b * (x / Nat.gcd x b) := fun x hx => by
    rw [← div_gcd_mul (Nat.gcd_pos_of_pos_left b hx), Nat.mul_comm]
  have g0 : 0 < Nat.gcd a c := Nat.gcd_pos_of_pos_left c a0
  rw [fac _ a0] at h1
  rw [fac _ c0] at h2
  rw [fac _ g0]
  have h3 : d ∣ b * Nat.gcd (a / Nat.gcd a b) (c / Nat.gcd c b) := by
    rw [← Nat.gcd_mul_left]
    exact Nat.dvd_gcd h1 h2
  refine Nat.dvd_trans h3 (Nat.mul_dvd_mul_left b ?_)
  generalize hu : Nat.gcd (a / Nat.gcd a b) (c / Nat.gcd c b) = u
  have hd : Nat.gcd (Nat.gcd a c) b ∣ Nat.gcd a c := Nat.gcd_dvd_left _ _
  have d0 : 0 < Nat.gcd (Nat.gcd a c) b := Nat.gcd_pos_of_pos_left b g0
  rw [Nat.dvd_div_iff_mul_dvd hd]
  have ua : u ∣ a / Nat.gcd a b := by rw [← hu]; exact Nat.gcd_dvd_left _ _
  have uc : u ∣ c / Nat.gcd c b := by rw [← hu]; exact Nat.gcd_dvd_right _ _
  have ga : Nat.gcd (Nat.gcd a c) b ∣ Nat.gcd a b := Nat.dvd_gcd (Nat.dvd_trans hd (Nat.gcd_dvd_left _ _)) (Nat.gcd_dvd_right _ _)
  have gc : Nat.gcd (Nat.gcd a c) b ∣ Nat.gcd c b := Nat.dvd_gcd (Nat.dvd_trans hd (Nat.gcd_dvd_right _ _)) (Nat.gcd_dvd_right _ _)
  apply Nat.dvd_gcd
  · have := Nat.mul_dvd_mul ga ua
    rwa [Nat.mul_div_cancel' (Nat.gcd_dvd_left a b)] at this
  · have := Nat.mul_dvd_mul gc uc
    rwa [Nat.mul_div_cancel' (Nat.gcd_dvd_left c b)] at this
theorem dvd_lcm_gRow {d b : Nat} {f : Nat → Option Nat} : ∀ w : Nat, (∀ j, j < w → ∀ e, f j = some e → d ∣ Nat.lcm e b) → d ∣ Nat.lcm (gRow w f) b
  | 0, _ => by
    show d ∣ Nat.lcm 0 b
    rw [Nat.lcm_zero_left]
    exact Nat.dvd_zero d
  | w + 1, h => by
    have ih := dvd_lcm_gRow w fun j hj => h j (by omega)
    rw [gRow_succ]
    unfold gStep
    cases q : f w with
    | none => exact ih
    | some e => exact dvd_lcm_gcd (h w (by omega) e q) ih
/-- no three entries contradict each other -/
def NoClash (m w : Nat) (T : Nat → Nat → Option Nat) : Prop := ∀ r c f l : Nat, r < m → c < w → f < w → l < m → ∀ e x y, T r c = some e → T r f = some x → T l c = some y → f ≠ c → l ≠ r → e ∣ Nat.lcm x y
theorem real_iff_noClash {m w : Nat} {T : Nat → Nat → Option Nat} : isReal m w T = true ↔ NoClash m w T := by
  rw [isReal_iff]
  constructor
  · intro h r c f l hr hc hf hl e x y he hx hy _ _
    rw [← h r hr c hc e he]
    exact Nat.lcm_dvd (Nat.dvd_trans (gRow_dvd hf hx) (Nat.dvd_lcm_left _ _)) (Nat.dvd_trans (gRow_dvd (f := fun i => T i c) hl hy) (Nat.dvd_lcm_right _ _))
  · intro h r hr c hc e he
    apply Nat.dvd_antisymm
    · exact Nat.lcm_dvd (gRow_dvd hc he) (gRow_dvd (f := fun i => T i c) hr he)
    · refine dvd_lcm_gRow w fun f hf x hx => ?_
      rw [Nat.lcm_comm]
      refine dvd_lcm_gRow m fun l hl y hy => ?_
      rw [Nat.lcm_comm]
      by_cases z1 : f = c
      · subst z1
        rw [he] at hx
        cases hx
        exact Nat.dvd_lcm_left _ _
      · by_cases z2 : l = r
        · subst z2
          have hy : T l c = some y := hy
          rw [he] at hy
          cases hy
          exact Nat.dvd_lcm_right _ _
        · exact h r c f l hr hc hf hl e x y he hx hy z1 z2
end Mi
namespace Mi
open DL
end Mi
namespace Mi
open DL
end Mi
namespace Mi
open DL
def IsSol (m w : Nat) (T : Nat → Nat → Option Nat) (s : List Nat × List Nat) : Prop := s.1.length = m ∧ s.2.length = w ∧ ∀ i j, i < m → j < w → ∀ e, T i j = some e → Nat.lcm (s.1.getD i 0) (s.2.getD j 0) = e
end Mi
namespace Mi
open DL
theorem eqD_nil {α : Type} (f : α → D) (l : List α) : eqD (.lst (l.map f)) (.lst []) = l.isEmpty := by cases l <;> rfl
theorem ne_nil {α : Type} (f : α → D) (l : List α) (h : ∀ x ∈ l, okD 59 (f x) = true) : opNe (.lst (l.map f)) (.lst []) = some (.bl (!l.isEmpty)) := by
  have h1 : okD 60 (.lst (l.map f)) = true := okDs_map (n := 59) f l h
  rw [opNe_ok h1 rfl, eqD_nil]
theorem real_of_sol {m w : Nat} {T : Nat → Nat → Option Nat} {s : List Nat × List Nat} (h : IsSol m w T s) : isReal m w T = true := by
  rw [isReal_iff]
  intro i hi j hj e he
  apply Nat.dvd_antisymm
  · exact Nat.lcm_dvd (gRow_dvd hj he) (gRow_dvd (f := fun i => T i j) hi he)
  · rw [← h.2.2 i j hi hj e he]
    apply Nat.lcm_dvd
    · refine Nat.dvd_trans ?_ (Nat.dvd_lcm_left _ _)
      rw [dvd_gRow]
      intro j' hj' e' he'
      rw [← h.2.2 i j' hi hj' e' he']
      exact Nat.dvd_lcm_left _ _
    · refine Nat.dvd_trans ?_ (Nat.dvd_lcm_right _ _)
      rw [dvd_gRow]
      intro i' hi' e' he'
      rw [← h.2.2 i' j hi' hj e' he']
      exact Nat.dvd_lcm_right _ _
theorem getD_rmap (f : Nat → Nat) {n i : Nat} (h : i < n) : ((List.range n).map f).getD i 0 = f i := by
  rw [List.getD_eq_getElem?_getD]
  simp [h]
end Mi
namespace Mi
/-- how often p divides n -/
def ex (p n : Nat) : Nat := if h : 2 ≤ p ∧ 0 < n ∧ n % p = 0 then ex p (n / p) + 1 else 0
termination_by n
decreasing_by exact Nat.div_lt_self h.2.1 h.1
end Mi
namespace Mi
open DL
theorem z_nat (n : Nat) : opEq (.int (n : Int)) (.int 0) = some (.bl (decide (n = 0))) := p_eqN n 0
end Mi
namespace Mi
open DL
theorem nodup_fm {α β : Type} (f : α → List β) : ∀ l : List α, l.Nodup → (∀ x ∈ l, (f x).Nodup) → (∀ x ∈ l, ∀ y ∈ l, x ≠ y → ∀ z, z ∈ f x → z ∈ f y → False) → (l.flatMap f).Nodup
  | [], _, _, _ => List.nodup_nil
  | x :: l, h, hf, hd => by
    have h1 := List.nodup_cons.mp h
    rw [List.flatMap_cons, List.nodup_append]
    refine ⟨hf x List.mem_cons_self, nodup_fm f l h1.2 (fun y hy => hf y (List.mem_cons_of_mem _ hy)) (fun y hy z hz => hd y (List.mem_cons_of_mem _ hy) z (List.mem_cons_of_mem _ hz)), ?_⟩
    rintro a ha b hb rfl
    obtain ⟨y, hy, hb⟩ := List.mem_flatMap.mp hb
    exact hd x List.mem_cons_self y (List.mem_cons_of_mem _ hy) (fun e => h1.1 (e ▸ hy)) a ha hb
end Mi
namespace Mi
open DL
end Mi
namespace Mi
open DL
end Mi
namespace Mi
open DL
def Tv (T : Nat → Nat → Option Nat) (q : Nat × Nat) : Nat := (T q.1 q.2).getD 1
/-- what the sure parts are: the least numbers with the prime powers that only they can give -/
structure SureI (T : Nat → Nat → Option Nat) (R C : Nat → Nat) (Dn : Nat → Nat × Nat → Prop) (A B : Nat → Nat) : Prop where
  row : ∀ i d, A i ∣ d ↔ ∀ p q, Dn p q → q.1 = i → ex p (C q.2) < ex p (Tv T q) → p ^ ex p (Tv T q) ∣ d
  col : ∀ j d, B j ∣ d ↔ ∀ p q, Dn p q → q.2 = j → ex p (R q.1) < ex p (Tv T q) → p ^ ex p (Tv T q) ∣ d
def upd1 (A : Nat → Nat) (c : Bool) (i x : Nat) : Nat → Nat := fun k => if c = true ∧ k = i then Nat.lcm (A k) x else A k
theorem upd1_dvd (A : Nat → Nat) (c : Bool) (i x k d : Nat) : upd1 A c i x k ∣ d ↔ A k ∣ d ∧ (c = true → k = i → x ∣ d) := by
  unfold upd1
  by_cases h : c = true ∧ k = i
  · rw [if_pos h, Nat.lcm_dvd_iff]
    constructor
    · rintro ⟨a, b⟩; exact ⟨a, fun _ _ => b⟩
    · rintro ⟨a, b⟩; exact ⟨a, b h.1 h.2⟩
  · rw [if_neg h]
    constructor
    · intro a; exact ⟨a, fun h1 h2 => absurd ⟨h1, h2⟩ h⟩
    · intro a; exact a.1
theorem SureI.step {T : Nat → Nat → Option Nat} {R C A B : Nat → Nat} {Dn : Nat → Nat × Nat → Prop} (h : SureI T R C Dn A B) (p : Nat) (q : Nat × Nat) :
    SureI T R C (fun p' q' => Dn p' q' ∨ (p' = p ∧ q' = q)) (upd1 A (decide (ex p (C q.2) < ex p (Tv T q))) q.1 (p ^ ex p (Tv T q))) (upd1 B (decide (ex p (R q.1) < ex p (Tv T q))) q.2 (p ^ ex p (Tv T q))) := by
  constructor
  · intro i d
    rw [upd1_dvd, h.row]
    constructor
    · rintro ⟨h1, h2⟩ p' q' (hd | ⟨rfl, rfl⟩) hi hl
      · exact h1 p' q' hd hi hl
      · exact h2 (decide_eq_true hl) hi.symm
    · intro h1
      exact ⟨fun p' q' hd => h1 p' q' (Or.inl hd), fun h2 h3 => h1 p q (Or.inr ⟨rfl, rfl⟩) h3.symm (of_decide_eq_true h2)⟩
  · intro j d
    rw [upd1_dvd, h.col]
    constructor
    · rintro ⟨h1, h2⟩ p' q' (hd | ⟨rfl, rfl⟩) hi hl
      · exact h1 p' q' hd hi hl
      · exact h2 (decide_eq_true hl) hi.symm
    · intro h1
      exact ⟨fun p' q' hd => h1 p' q' (Or.inl hd), fun h2 h3 => h1 p q (Or.inr ⟨rfl, rfl⟩) h3.symm (of_decide_eq_true h2)⟩
end Mi
namespace Mi
open DL
end Mi
namespace Mi
open DL
theorem dec_eq {a b : Bool} {P : Prop} (h1 : a = true ↔ P) (h2 : b = true ↔ P) : a = b := by
  rw [Bool.eq_iff_iff, h1, h2]
end Mi
namespace Mi
open DL
end Mi
namespace Mi
open DL
def ePs (S : List (Nat × Nat)) : D := .tup (S.map eP)
def wo (T : Nat → Nat → Option Nat) (S : List (Nat × Nat)) : Nat → Nat → Option Nat := fun i j => if (i, j) ∈ S then none else T i j
theorem eq_eP (p q : Nat × Nat) : eqD (eP p) (eP q) = decide (p = q) := by
  unfold eP eqD eqDs eqDs eqDs eqD
  by_cases h : p = q
  · subst h; simp
  · have : ¬ (p.1 = q.1 ∧ p.2 = q.2) := fun z => h (Prod.ext z.1 z.2)
    by_cases h1 : p.1 = q.1
    · have h2 : ¬ p.2 = q.2 := fun z => this ⟨h1, z⟩
      have h3 : ¬ (p.2 : Int) = (q.2 : Int) := by omega
      simp [h1, h, h3]
    · have h3 : ¬ (p.1 : Int) = (q.1 : Int) := by omega
      simp [h, h3]
theorem ok_eP (n : Nat) (p : Nat × Nat) : okD (n + 1) (eP p) = true := by
  unfold eP okD okDs okDs okDs okD
  rfl
theorem inD_eP (p : Nat × Nat) : ∀ S : List (Nat × Nat), inD (eP p) (S.map eP) = decide (p ∈ S)
  | [] => rfl
  | a :: S => by
    have ih := inD_eP p S
    unfold inD at ih ⊢
    rw [List.map_cons, List.any_cons, ih, eq_eP]
    by_cases h : a = p
    · simp [h]
    · have : ¬ p = a := fun z => h z.symm
      simp [h, this]
theorem in_ePs (p : Nat × Nat) (S : List (Nat × Nat)) : opIn (.tup [.int p.1, .int p.2]) (ePs S) = some (.bl (decide (p ∈ S))) := by
  have h : okD 60 (eP p) = true ∧ okDs 60 (S.map eP) = true := ⟨ok_eP 59 p, okDs_map eP S fun x _ => ok_eP 59 x⟩
  show (if okD 60 (eP p) = true ∧ okDs 60 (S.map eP) = true then some (D.bl (inD (eP p) (S.map eP))) else none) = _
  rw [if_pos h, inD_eP]
theorem wo_some {T : Nat → Nat → Option Nat} {S : List (Nat × Nat)} {i j e : Nat} (h : wo T S i j = some e) : T i j = some e ∧ (i, j) ∉ S := by
  unfold wo at h
  by_cases z : (i, j) ∈ S
  · rw [if_pos z] at h; cases h
  · rw [if_neg z] at h; exact ⟨h, z⟩
theorem Tab.wo {m w : Nat} {T : Nat → Nat → Option Nat} (h : Tab m w T) (S : List (Nat × Nat)) : Tab m w (wo T S) := ⟨h.m0, h.m1, h.w0, h.w1, fun i j e q => h.bd i j e (wo_some q).1⟩
theorem without_m {m w : Nat} {T : Nat → Nat → Option Nat} (h : Tab m w T) {S : List (Nat × Nat)} {dS : D} (hS : ∀ p : Nat × Nat, opIn (.tup [.int p.1, .int p.2]) dS = some (.bl (decide (p ∈ S)))) :
    m_without [eT m w T, dS] = some (eT m w (wo T S)) := by
  have hm := h.m0
  have hm1 := h.m1
  have hw1 := h.w1
  obtain ⟨ρ', h1, x, y, h3⟩ := for_range (g := gN 3) (b := m_without_b1) (fun i : Nat => D.int i)
    (fun (i : Nat) (ρ : Rho) => ∃ x y, ρ = [some (eT m w T), some dS, some (.lst ((List.range i).map fun i => eR w (wo T S i))), x, y, none]) m (by
      rintro i hi ρ ⟨x, y, rfl⟩
      have c1 : m_without_c1 [some (eT m w T), some dS, some (.lst ((List.range i).map fun i => eR w (wo T S i))), some (.int i), y, none] = some (.lst ((List.range w).map fun j => eO (wo T S i j))) := by
        unfold m_without_c1
        refine comp_all (fun j : Nat => D.int j) _ (List.range w) (by simp only [bnd_some, bnd_none, p_dc, p_dv, lk_z, lk_s, st_z, st_s, un_z, un_s, wipe_n, wipe_c, p_d2, p_d1, p_dnil, p_dcons, p_dL, p_asB, p_asI, p_asL, p_asSeqL, p_asSeqT, p_bV, p_dB, p_bAnd, p_bOr, p_bNot, p_dIf, p_dAnd, p_dOr, p_dNot, p_dCh, p_bYes, p_gN, p_gT, p_gsNil, p_gsCons, p_dNx, p_dRet, p_dSet, p_dIfS, p_dAsg, p_dPar, p_dAug, p_dApp, p_dSetIx, p_nLst, p_nRep, p_nOf, p_dSetN, p_dParN1, p_dParNN, p_iSeq, p_iRng1, p_iRng2, p_oNo, p_oIx, p_dSl, p_asIx, p_opTup, p_opLst, p_lenT, p_lenL, p_lenS, p_tupT, p_tupL, p_add, p_sub, p_mul, p_lt, p_le, p_gt, p_ge, p_eqI, p_neI, p_isN, p_isnN, p_isB, p_isnB, p_isNone_n, p_isNone_i, p_isNone_t, p_isNone_l, p_appL, p_appT, b_mc, b_mn, b_ac, b_an, b_rs, b_rz, b_lc, b_ln, b_it, b_if, b_itt, b_iff, p_dSeq, p_eqB, p_neB, len_eT, len_eR, len_eV, isNone_eO, seq_eT, seq_eR, seq_eV, seq_eL, eO_some, eO_none, len_eL, ↓p_eqN, ↓p_neN, ↓p_ltN, ↓p_leN, ↓p_gtN, ↓p_geN, ix_eT0 hm, rng1 (n := w) (by omega)]) (by simp; omega) ?_
        intro j hj
        have hj := List.mem_range.mp hj
        refine ⟨_, rfl, ?_⟩
        have t1 := ix_eT (w := w) (T := T) hi
        have t2 := ix_eR (T := T i) hj
        have i1 : opIn (.tup [.int (i : Nat), .int (j : Nat)]) dS = some (.bl (decide ((i, j) ∈ S))) := hS (i, j)
        by_cases z : (i, j) ∈ S
        · simp only [bnd_some, bnd_none, p_dc, p_dv, lk_z, lk_s, st_z, st_s, un_z, un_s, wipe_n, wipe_c, p_d2, p_d1, p_dnil, p_dcons, p_dL, p_asB, p_asI, p_asL, p_asSeqL, p_asSeqT, p_bV, p_dB, p_bAnd, p_bOr, p_bNot, p_dIf, p_dAnd, p_dOr, p_dNot, p_dCh, p_bYes, p_gN, p_gT, p_gsNil, p_gsCons, p_dNx, p_dRet, p_dSet, p_dIfS, p_dAsg, p_dPar, p_dAug, p_dApp, p_dSetIx, p_nLst, p_nRep, p_nOf, p_dSetN, p_dParN1, p_dParNN, p_iSeq, p_iRng1, p_iRng2, p_oNo, p_oIx, p_dSl, p_asIx, p_opTup, p_opLst, p_lenT, p_lenL, p_lenS, p_tupT, p_tupL, p_add, p_sub, p_mul, p_lt, p_le, p_gt, p_ge, p_eqI, p_neI, p_isN, p_isnN, p_isB, p_isnB, p_isNone_n, p_isNone_i, p_isNone_t, p_isNone_l, p_appL, p_appT, b_mc, b_mn, b_ac, b_an, b_rs, b_rz, b_lc, b_ln, b_it, b_if, b_itt, b_iff, p_dSeq, p_eqB, p_neB, len_eT, len_eR, len_eV, isNone_eO, seq_eT, seq_eR, seq_eV, seq_eL, eO_some, eO_none, len_eL, ↓p_eqN, ↓p_neN, ↓p_ltN, ↓p_leN, ↓p_gtN, ↓p_geN, Nat.reduceAdd, Nat.reduceLeDiff, i1, decide_eq_true z, wo, if_pos z, eO_none]
        · simp only [bnd_some, bnd_none, p_dc, p_dv, lk_z, lk_s, st_z, st_s, un_z, un_s, wipe_n, wipe_c, p_d2, p_d1, p_dnil, p_dcons, p_dL, p_asB, p_asI, p_asL, p_asSeqL, p_asSeqT, p_bV, p_dB, p_bAnd, p_bOr, p_bNot, p_dIf, p_dAnd, p_dOr, p_dNot, p_dCh, p_bYes, p_gN, p_gT, p_gsNil, p_gsCons, p_dNx, p_dRet, p_dSet, p_dIfS, p_dAsg, p_dPar, p_dAug, p_dApp, p_dSetIx, p_nLst, p_nRep, p_nOf, p_dSetN, p_dParN1, p_dParNN, p_iSeq, p_iRng1, p_iRng2, p_oNo, p_oIx, p_dSl, p_asIx, p_opTup, p_opLst, p_lenT, p_lenL, p_lenS, p_tupT, p_tupL, p_add, p_sub, p_mul, p_lt, p_le, p_gt, p_ge, p_eqI, p_neI, p_isN, p_isnN, p_isB, p_isnB, p_isNone_n, p_isNone_i, p_isNone_t, p_isNone_l, p_appL, p_appT, b_mc, b_mn, b_ac, b_an, b_rs, b_rz, b_lc, b_ln, b_it, b_if, b_itt, b_iff, p_dSeq, p_eqB, p_neB, len_eT, len_eR, len_eV, isNone_eO, seq_eT, seq_eR, seq_eV, seq_eL, eO_some, eO_none, len_eL, ↓p_eqN, ↓p_neN, ↓p_ltN, ↓p_leN, ↓p_gtN, ↓p_geN, Nat.reduceAdd, Nat.reduceLeDiff, i1, decide_eq_false z, t1, t2, wo, if_neg z]
      have hl : ((List.range i).map fun i => eR w (wo T S i)).length < 16777216 := by simp; omega
      refine ⟨_, rfl, [some (eT m w T), some dS, some (.lst ((List.range (i + 1)).map fun i => eR w (wo T S i))), some (.int i), some (.lst ((List.range w).map fun j => eO (wo T S i j))), none], ?_, _, _, rfl⟩
      rw [List.range_succ, List.map_append]
      simp only [m_without_b1, bnd_some, bnd_none, p_dc, p_dv, lk_z, lk_s, st_z, st_s, un_z, un_s, wipe_n, wipe_c, p_d2, p_d1, p_dnil, p_dcons, p_dL, p_asB, p_asI, p_asL, p_asSeqL, p_asSeqT, p_bV, p_dB, p_bAnd, p_bOr, p_bNot, p_dIf, p_dAnd, p_dOr, p_dNot, p_dCh, p_bYes, p_gN, p_gT, p_gsNil, p_gsCons, p_dNx, p_dRet, p_dSet, p_dIfS, p_dAsg, p_dPar, p_dAug, p_dApp, p_dSetIx, p_nLst, p_nRep, p_nOf, p_dSetN, p_dParN1, p_dParNN, p_iSeq, p_iRng1, p_iRng2, p_oNo, p_oIx, p_dSl, p_asIx, p_opTup, p_opLst, p_lenT, p_lenL, p_lenS, p_tupT, p_tupL, p_add, p_sub, p_mul, p_lt, p_le, p_gt, p_ge, p_eqI, p_neI, p_isN, p_isnN, p_isB, p_isnB, p_isNone_n, p_isNone_i, p_isNone_t, p_isNone_l, p_appL, p_appT, b_mc, b_mn, b_ac, b_an, b_rs, b_rz, b_lc, b_ln, b_it, b_if, b_itt, b_iff, p_dSeq, p_eqB, p_neB, len_eT, len_eR, len_eV, isNone_eO, seq_eT, seq_eR, seq_eV, seq_eL, eO_some, eO_none, len_eL, ↓p_eqN, ↓p_neN, ↓p_ltN, ↓p_leN, ↓p_gtN, ↓p_geN, c1, if_pos hl]
      rfl) (ρ := [some (eT m w T), some dS, some (.lst []), none, none, none]) ⟨none, none, rfl⟩
  subst h3
  have f := (for_eq (it := iRng1 (dcons (dL opLen (dcons (dv 0) dnil)) dnil)) (ρ := [some (eT m w T), some dS, some (.lst []), none, none, none]) (by simp only [bnd_some, bnd_none, p_dc, p_dv, lk_z, lk_s, st_z, st_s, un_z, un_s, wipe_n, wipe_c, p_d2, p_d1, p_dnil, p_dcons, p_dL, p_asB, p_asI, p_asL, p_asSeqL, p_asSeqT, p_bV, p_dB, p_bAnd, p_bOr, p_bNot, p_dIf, p_dAnd, p_dOr, p_dNot, p_dCh, p_bYes, p_gN, p_gT, p_gsNil, p_gsCons, p_dNx, p_dRet, p_dSet, p_dIfS, p_dAsg, p_dPar, p_dAug, p_dApp, p_dSetIx, p_nLst, p_nRep, p_nOf, p_dSetN, p_dParN1, p_dParNN, p_iSeq, p_iRng1, p_iRng2, p_oNo, p_oIx, p_dSl, p_asIx, p_opTup, p_opLst, p_lenT, p_lenL, p_lenS, p_tupT, p_tupL, p_add, p_sub, p_mul, p_lt, p_le, p_gt, p_ge, p_eqI, p_neI, p_isN, p_isnN, p_isB, p_isnB, p_isNone_n, p_isNone_i, p_isNone_t, p_isNone_l, p_appL, p_appT, b_mc, b_mn, b_ac, b_an, b_rs, b_rz, b_lc, b_ln, b_it, b_if, b_itt, b_iff, p_dSeq, p_eqB, p_neB, len_eT, len_eR, len_eV, isNone_eO, seq_eT, seq_eR, seq_eV, seq_eL, eO_some, eO_none, len_eL, ↓p_eqN, ↓p_neN, ↓p_ltN, ↓p_leN, ↓p_gtN, ↓p_geN, rng1 (n := m) (by omega)])).trans h1
  exact run_rt rfl (by simp only [bnd_some, bnd_none, p_dc, p_dv, lk_z, lk_s, st_z, st_s, un_z, un_s, wipe_n, wipe_c, p_d2, p_d1, p_dnil, p_dcons, p_dL, p_asB, p_asI, p_asL, p_asSeqL, p_asSeqT, p_bV, p_dB, p_bAnd, p_bOr, p_bNot, p_dIf, p_dAnd, p_dOr, p_dNot, p_dCh, p_bYes, p_gN, p_gT, p_gsNil, p_gsCons, p_dNx, p_dRet, p_dSet, p_dIfS, p_dAsg, p_dPar, p_dAug, p_dApp, p_dSetIx, p_nLst, p_nRep, p_nOf, p_dSetN, p_dParN1, p_dParNN, p_iSeq, p_iRng1, p_iRng2, p_oNo, p_oIx, p_dSl, p_asIx, p_opTup, p_opLst, p_lenT, p_lenL, p_lenS, p_tupT, p_tupL, p_add, p_sub, p_mul, p_lt, p_le, p_gt, p_ge, p_eqI, p_neI, p_isN, p_isnN, p_isB, p_isnB, p_isNone_n, p_isNone_i, p_isNone_t, p_isNone_l, p_appL, p_appT, b_mc, b_mn, b_ac, b_an, b_rs, b_rz, b_lc, b_ln, b_it, b_if, b_itt, b_iff, p_dSeq, p_eqB, p_neB, len_eT, len_eR, len_eV, isNone_eO, seq_eT, seq_eR, seq_eV, seq_eL, eO_some, eO_none, len_eL, ↓p_eqN, ↓p_neN, ↓p_ltN, ↓p_leN, ↓p_gtN, ↓p_geN, Nat.reduceSub, Nat.zero_le, f]; rfl)
def ltP (p q : Nat × Nat) : Prop := p.1 < q.1 ∨ (p.1 = q.1 ∧ p.2 < q.2)
instance (p q : Nat × Nat) : Decidable (ltP p q) := inferInstanceAs (Decidable (_ ∨ _))
theorem ltP_trans {a b c : Nat × Nat} (h1 : ltP a b) (h2 : ltP b c) : ltP a c := by unfold ltP at *; omega
theorem ltP_irrefl (a : Nat × Nat) : ¬ ltP a a := by unfold ltP; omega
theorem gt_eP (p q : Nat × Nat) : opGt (eP p) (eP q) = some (.bl (decide (ltP q p))) := by
  show some (D.bl (lexI [(q.1 : Int), (q.2 : Int)] [(p.1 : Int), (p.2 : Int)])) = _
  unfold lexI
  by_cases h : (q.1 : Int) = (p.1 : Int)
  · rw [if_pos h]
    unfold lexI
    by_cases h2 : (q.2 : Int) = (p.2 : Int)
    · rw [if_pos h2]
      unfold lexI
      have : ¬ ltP q p := by unfold ltP; omega
      simp [this]
    · rw [if_neg h2]
      congr 2
      rw [decide_eq_decide]
      unfold ltP
      omega
  · rw [if_neg h]
    congr 2
    rw [decide_eq_decide]
    unfold ltP
    omega
theorem kp_asc (w : Nat) (T : Nat → Nat → Option Nat) : ∀ m, (kp m w T).Pairwise ltP
  | 0 => by unfold kp; exact List.Pairwise.nil
  | m + 1 => by
    rw [kp_succ, List.pairwise_append]
    refine ⟨kp_asc w T m, ?_, ?_⟩
    · unfold kpRow
      have : ((List.range w).filter fun j => (T m j).isSome).Pairwise (· < ·) := List.Pairwise.sublist List.filter_sublist List.pairwise_lt_range
      exact List.Pairwise.map _ (fun a b (h : a < b) => Or.inr ⟨rfl, h⟩) this
    · intro a ha b hb
      have h1 := (mem_kp.mp ha).1
      unfold kpRow at hb
      obtain ⟨j, _, e⟩ := List.mem_map.mp hb
      rw [← e]
      exact Or.inl h1
/-- an ascending list of places of l -/
def AscIn (l S : List (Nat × Nat)) : Prop := S.Pairwise ltP ∧ ∀ p ∈ S, p ∈ l
theorem AscIn.nodup {l S : List (Nat × Nat)} (h : AscIn l S) : S.Nodup := h.1.imp fun {a b} (z : ltP a b) (e : a = b) => ltP_irrefl a (by rw [← e] at z; exact z)
end Mi
namespace Mi
open DL
def subs (l : List (Nat × Nat)) : List (List (Nat × Nat)) := l.foldl (fun sets p => sets ++ sets.map fun S => S ++ [p]) [[]]
theorem subs_snoc (l : List (Nat × Nat)) (p : Nat × Nat) : subs (l ++ [p]) = subs l ++ (subs l).map fun S => S ++ [p] := by
  unfold subs
  rw [List.foldl_append]
  rfl
theorem subs_len : ∀ (r l : List (Nat × Nat)), l = r.reverse → (subs l).length = 2 ^ l.length
  | [], l, e => by subst e; rfl
  | p :: r, l, e => by
    rw [List.reverse_cons] at e
    subst e
    have ih := subs_len r r.reverse rfl
    rw [subs_snoc, List.length_append, List.length_map, ih, List.length_append, List.length_singleton, Nat.pow_succ]
    omega
theorem concat_cases {α : Type} (S : List α) : S = [] ∨ ∃ S' x, S = S' ++ [x] := by
  rcases List.eq_nil_or_concat S with h | ⟨S', x, h⟩
  · exact Or.inl h
  · exact Or.inr ⟨S', x, by rw [h, List.concat_eq_append]⟩
theorem mem_subs : ∀ (r l : List (Nat × Nat)), l = r.reverse → l.Pairwise ltP → ∀ S, S ∈ subs l ↔ AscIn l S
  | [], l, e, _, S => by
    subst e
    show S ∈ [[]] ↔ _
    rw [List.mem_singleton]
    constructor
    · intro h; subst h; exact ⟨List.Pairwise.nil, by simp⟩
    · intro h
      rcases concat_cases S with q | ⟨S', x, q⟩
      · exact q
      · exact absurd (h.2 x (by rw [q]; simp)) (by simp)
  | p :: r, l, e, hl, S => by
    rw [List.reverse_cons] at e
    subst e
    have h1 := List.pairwise_append.mp hl
    have ih := mem_subs r r.reverse rfl h1.1
    have last : ∀ a ∈ r.reverse, ltP a p := fun a ha => h1.2.2 a ha p (by simp)
    rw [subs_snoc, List.mem_append, List.mem_map]
    constructor
    · rintro (h | ⟨S', h, rfl⟩)
      · have := (ih S).mp h
        exact ⟨this.1, fun q hq => List.mem_append_left _ (this.2 q hq)⟩
      · have := (ih S').mp h
        refine ⟨?_, fun q hq => ?_⟩
        · rw [List.pairwise_append]
          exact ⟨this.1, List.pairwise_singleton _ _, fun a ha b hb => by rw [List.mem_singleton.mp hb]; exact last a (this.2 a ha)⟩
        · rcases List.mem_append.mp hq with z | z
          · exact List.mem_append_left _ (this.2 q z)
          · exact List.mem_append_right _ z
    · intro h
      by_cases hp : p ∈ S
      · right
        rcases concat_cases S with q | ⟨S', x, q⟩
        · rw [q] at hp; cases hp
        · subst q
          have h2 := List.pairwise_append.mp h.1
          have hx : x = p := by
            rcases List.mem_append.mp hp with z | z
            · have l1 := h2.2.2 p z x (by simp)
              rcases List.mem_append.mp (h.2 x (by simp)) with y | y
              · exact absurd (ltP_trans l1 (last x y)) (ltP_irrefl p)
              · exact List.mem_singleton.mp y
            · exact (List.mem_singleton.mp z).symm
          subst hx
          refine ⟨S', (ih S').mpr ⟨h2.1, fun q hq => ?_⟩, rfl⟩
          rcases List.mem_append.mp (h.2 q (List.mem_append_left _ hq)) with y | y
          · exact y
          · have := h2.2.2 q hq x (by simp)
            rw [List.mem_singleton.mp y] at this
            exact absurd this (ltP_irrefl x)
      · left
        refine (ih S).mpr ⟨h.1, fun q hq => ?_⟩
        rcases List.mem_append.mp (h.2 q hq) with y | y
        · exact y
        · rw [List.mem_singleton.mp y] at hq
          exact absurd hq hp
theorem mem_subs' {l : List (Nat × Nat)} (h : l.Pairwise ltP) (S : List (Nat × Nat)) : S ∈ subs l ↔ AscIn l S := mem_subs l.reverse l (by simp) h S
theorem foldl_min : ∀ (l : List Int) (a : Int), (l.foldl (fun x y => if y < x then y else x) a ∈ a :: l) ∧ ∀ x ∈ a :: l, l.foldl (fun x y => if y < x then y else x) a ≤ x
  | [], a => ⟨by simp, by simp⟩
  | b :: l, a => by
    rw [List.foldl_cons]
    have ih := foldl_min l (if b < a then b else a)
    constructor
    · rcases List.mem_cons.mp ih.1 with q | q
      · rw [q]
        by_cases z : b < a
        · rw [if_pos z]; simp
        · rw [if_neg z]; simp
      · exact List.mem_cons_of_mem _ (List.mem_cons_of_mem _ q)
    · have h1 := ih.2 (if b < a then b else a) List.mem_cons_self
      intro x hx
      rcases List.mem_cons.mp hx with q | q
      · rw [q]
        by_cases z : b < a
        · rw [if_pos z] at h1 ⊢; omega
        · rw [if_neg z] at h1 ⊢; exact h1
      · rcases List.mem_cons.mp q with q | q
        · rw [q]
          by_cases z : b < a
          · rw [if_pos z] at h1 ⊢; exact h1
          · rw [if_neg z] at h1 ⊢; omega
        · exact ih.2 x (List.mem_cons_of_mem _ q)
theorem opMin_m {α : Type} (f : α → Nat) (l : List α) (h : l ≠ []) : ∃ x ∈ l, (∀ y ∈ l, f x ≤ f y) ∧ opMin [.lst (l.map fun x => .int (f x : Nat))] = some (.int (f x)) := by
  obtain ⟨a, r, rfl⟩ := List.exists_cons_of_ne_nil h
  have h1 := asInts_map (fun x => ((f x : Nat) : Int)) (a :: r)
  have fm := foldl_min (r.map fun x => ((f x : Nat) : Int)) (f a)
  have : ((f a : Nat) : Int) :: r.map (fun x => ((f x : Nat) : Int)) = (a :: r).map fun x => ((f x : Nat) : Int) := rfl
  rw [this] at fm
  obtain ⟨x, hx, e⟩ := List.mem_map.mp fm.1
  refine ⟨x, hx, fun y hy => ?_, ?_⟩
  · have := fm.2 _ (List.mem_map.mpr ⟨y, hy, rfl⟩)
    rw [← e] at this
    omega
  · show (asInts _).bind _ = _
    rw [h1]
    show (some _ : Option D) = _
    rw [e]
/-- n entries are enough, and no fewer -/
def LeastW (m w : Nat) (T : Nat → Nat → Option Nat) (n : Nat) : Prop := (∃ S, AscIn (kp m w T) S ∧ isReal m w (wo T S) = true ∧ S.length = n) ∧ ∀ S, AscIn (kp m w T) S → isReal m w (wo T S) = true → n ≤ S.length
theorem LeastW.uniq {m w : Nat} {T : Nat → Nat → Option Nat} {a b : Nat} (h1 : LeastW m w T a) (h2 : LeastW m w T b) : a = b := by
  obtain ⟨⟨S1, x1, y1, z1⟩, m1⟩ := h1
  obtain ⟨⟨S2, x2, y2, z2⟩, m2⟩ := h2
  have := m1 S2 x2 y2
  have := m2 S1 x1 y1
  omega
theorem real_all (m w : Nat) (T : Nat → Nat → Option Nat) : AscIn (kp m w T) (kp m w T) ∧ isReal m w (wo T (kp m w T)) = true := by
  refine ⟨⟨kp_asc w T m, fun p hp => hp⟩, isReal_iff.mpr fun i hi j hj e he => ?_⟩
  have := wo_some he
  exact absurd (mem_kp.mpr ⟨hi, hj, by simp [this.1]⟩) this.2
theorem add_ePs (S : List (Nat × Nat)) (p : Nat × Nat) (h : S.length ≤ 1000) : opAdd (ePs S) (.tup [eP p]) = some (ePs (S ++ [p])) := by
  have hl : (S.map eP).length + [eP p].length ≤ 16777216 := by simp; omega
  show opAdd (.tup _) (.tup _) = _
  rw [p_appT, if_pos hl]
  unfold ePs
  rw [List.map_append]
  rfl
theorem asc_len {l S : List (Nat × Nat)} (h : AscIn l S) : S.length ≤ l.length := List.Nodup.length_le_of_subset h.nodup h.2
theorem fewest_wrong_m {m w : Nat} {T : Nat → Nat → Option Nat} (h : Tab m w T) (hk9 : (kp m w T).length ≤ 9) : ∃ n, LeastW m w T n ∧ m_fewest_wrong [eT m w T] = some (.int n) := by
  have hk := known_places_m h
  have asc := kp_asc w T m
  let eSS : List (List (Nat × Nat)) → D := fun L => .lst (L.map ePs)
  have asS : ∀ L, asSeq (eSS L) = some (L.map ePs) := fun _ => rfl
  have bnd9 : ∀ pre r, kp m w T = pre ++ r → (subs pre).length ≤ 512 ∧ ∀ S ∈ subs pre, S.length ≤ 9 := by
    intro pre r e
    have l1 : pre.length ≤ 9 := by
      have : (kp m w T).length = pre.length + r.length := by rw [e, List.length_append]
      omega
    have l2 : (2 : Nat) ^ pre.length ≤ 2 ^ 9 := Nat.pow_le_pow_right (by decide) l1
    refine ⟨?_, fun S hS => ?_⟩
    · rw [subs_len pre.reverse pre (by simp)]
      exact l2
    · have pa : pre.Pairwise ltP := by rw [e] at asc; exact (List.pairwise_append.mp asc).1
      exact Nat.le_trans (asc_len ((mem_subs' pa S).mp hS)) l1
  obtain ⟨ρ', h1, x, h2⟩ := for_pre (g := gN 2) (b := m_fewest_wrong_b1) eP
    (fun pre ρ => ∃ x, ρ = [some (eT m w T), some (eSS (subs pre)), x, none]) (kp m w T) (ρ := [some (eT m w T), some (eSS [[]]), none, none]) (by
      rintro pre p r e ρ ⟨x, rfl⟩
      have b := bnd9 pre (p :: r) e
      have c1 : m_fewest_wrong_c1 [some (eT m w T), some (eSS (subs pre)), some (eP p), none] = some (.lst ((subs pre).map fun S => ePs (S ++ [p]))) := by
        unfold m_fewest_wrong_c1
        refine comp_all ePs _ (subs pre) (by simp only [bnd_some, bnd_none, p_dc, p_dv, lk_z, lk_s, st_z, st_s, un_z, un_s, wipe_n, wipe_c, p_d2, p_d1, p_dnil, p_dcons, p_dL, p_asB, p_asI, p_asL, p_asSeqL, p_asSeqT, p_bV, p_dB, p_bAnd, p_bOr, p_bNot, p_dIf, p_dAnd, p_dOr, p_dNot, p_dCh, p_bYes, p_gN, p_gT, p_gsNil, p_gsCons, p_dNx, p_dRet, p_dSet, p_dIfS, p_dAsg, p_dPar, p_dAug, p_dApp, p_dSetIx, p_nLst, p_nRep, p_nOf, p_dSetN, p_dParN1, p_dParNN, p_iSeq, p_iRng1, p_iRng2, p_oNo, p_oIx, p_dSl, p_asIx, p_opTup, p_opLst, p_lenT, p_lenL, p_lenS, p_tupT, p_tupL, p_add, p_sub, p_mul, p_lt, p_le, p_gt, p_ge, p_eqI, p_neI, p_isN, p_isnN, p_isB, p_isnB, p_isNone_n, p_isNone_i, p_isNone_t, p_isNone_l, p_appL, p_appT, b_mc, b_mn, b_ac, b_an, b_rs, b_rz, b_lc, b_ln, b_it, b_if, b_itt, b_iff, p_dSeq, p_eqB, p_neB, len_eT, len_eR, len_eV, isNone_eO, seq_eT, seq_eR, seq_eV, seq_eL, eO_some, eO_none, len_eL, ↓p_eqN, ↓p_neN, ↓p_ltN, ↓p_leN, ↓p_gtN, ↓p_geN, asS]) (by omega) ?_
        intro S hS
        have := b.2 S hS
        refine ⟨_, rfl, ?_⟩
        simp only [bnd_some, bnd_none, p_dc, p_dv, lk_z, lk_s, st_z, st_s, un_z, un_s, wipe_n, wipe_c, p_d2, p_d1, p_dnil, p_dcons, p_dL, p_asB, p_asI, p_asL, p_asSeqL, p_asSeqT, p_bV, p_dB, p_bAnd, p_bOr, p_bNot, p_dIf, p_dAnd, p_dOr, p_dNot, p_dCh, p_bYes, p_gN, p_gT, p_gsNil, p_gsCons, p_dNx, p_dRet, p_dSet, p_dIfS, p_dAsg, p_dPar, p_dAug, p_dApp, p_dSetIx, p_nLst, p_nRep, p_nOf, p_dSetN, p_dParN1, p_dParNN, p_iSeq, p_iRng1, p_iRng2, p_oNo, p_oIx, p_dSl, p_asIx, p_opTup, p_opLst, p_lenT, p_lenL, p_lenS, p_tupT, p_tupL, p_add, p_sub, p_mul, p_lt, p_le, p_gt, p_ge, p_eqI, p_neI, p_isN, p_isnN, p_isB, p_isnB, p_isNone_n, p_isNone_i, p_isNone_t, p_isNone_l, p_appL, p_appT, b_mc, b_mn, b_ac, b_an, b_rs, b_rz, b_lc, b_ln, b_it, b_if, b_itt, b_iff, p_dSeq, p_eqB, p_neB, len_eT, len_eR, len_eV, isNone_eO, seq_eT, seq_eR, seq_eV, seq_eL, eO_some, eO_none, len_eL, ↓p_eqN, ↓p_neN, ↓p_ltN, ↓p_leN, ↓p_gtN, ↓p_geN, Nat.reduceAdd, Nat.reduceLeDiff, add_ePs S p (by omega)]
      have ad : opAdd (eSS (subs pre)) (.lst ((subs pre).map fun S => ePs (S ++ [p]))) = some (eSS (subs (pre ++ [p]))) := by
        have hl : ((subs pre).map ePs).length + ((subs pre).map fun S => ePs (S ++ [p])).length ≤ 16777216 := by rw [List.length_map, List.length_map]; omega
        show opAdd (.lst _) (.lst _) = _
        rw [p_appL, if_pos hl, subs_snoc]
        show _ = some (D.lst (((subs pre) ++ (subs pre).map fun S => S ++ [p]).map ePs))
        rw [List.map_append, List.map_map]
        rfl
      exact ⟨_, rfl, [some (eT m w T), some (eSS (subs (pre ++ [p]))), some (eP p), none], by simp only [m_fewest_wrong_b1, bnd_some, bnd_none, p_dc, p_dv, lk_z, lk_s, st_z, st_s, un_z, un_s, wipe_n, wipe_c, p_d2, p_d1, p_dnil, p_dcons, p_dL, p_asB, p_asI, p_asL, p_asSeqL, p_asSeqT, p_bV, p_dB, p_bAnd, p_bOr, p_bNot, p_dIf, p_dAnd, p_dOr, p_dNot, p_dCh, p_bYes, p_gN, p_gT, p_gsNil, p_gsCons, p_dNx, p_dRet, p_dSet, p_dIfS, p_dAsg, p_dPar, p_dAug, p_dApp, p_dSetIx, p_nLst, p_nRep, p_nOf, p_dSetN, p_dParN1, p_dParNN, p_iSeq, p_iRng1, p_iRng2, p_oNo, p_oIx, p_dSl, p_asIx, p_opTup, p_opLst, p_lenT, p_lenL, p_lenS, p_tupT, p_tupL, p_add, p_sub, p_mul, p_lt, p_le, p_gt, p_ge, p_eqI, p_neI, p_isN, p_isnN, p_isB, p_isnB, p_isNone_n, p_isNone_i, p_isNone_t, p_isNone_l, p_appL, p_appT, b_mc, b_mn, b_ac, b_an, b_rs, b_rz, b_lc, b_ln, b_it, b_if, b_itt, b_iff, p_dSeq, p_eqB, p_neB, len_eT, len_eR, len_eV, isNone_eO, seq_eT, seq_eR, seq_eV, seq_eL, eO_some, eO_none, len_eL, ↓p_eqN, ↓p_neN, ↓p_ltN, ↓p_leN, ↓p_gtN, ↓p_geN, c1, ad], _, rfl⟩) ⟨none, rfl⟩
  subst h2
  have b := bnd9 (kp m w T) [] (by simp)
  have f := (for_eq (it := iSeq (dL m_known_places (dcons (dv 0) dnil))) (ρ := [some (eT m w T), some (eSS [[]]), none, none]) (by simp only [bnd_some, bnd_none, p_dc, p_dv, lk_z, lk_s, st_z, st_s, un_z, un_s, wipe_n, wipe_c, p_d2, p_d1, p_dnil, p_dcons, p_dL, p_asB, p_asI, p_asL, p_asSeqL, p_asSeqT, p_bV, p_dB, p_bAnd, p_bOr, p_bNot, p_dIf, p_dAnd, p_dOr, p_dNot, p_dCh, p_bYes, p_gN, p_gT, p_gsNil, p_gsCons, p_dNx, p_dRet, p_dSet, p_dIfS, p_dAsg, p_dPar, p_dAug, p_dApp, p_dSetIx, p_nLst, p_nRep, p_nOf, p_dSetN, p_dParN1, p_dParNN, p_iSeq, p_iRng1, p_iRng2, p_oNo, p_oIx, p_dSl, p_asIx, p_opTup, p_opLst, p_lenT, p_lenL, p_lenS, p_tupT, p_tupL, p_add, p_sub, p_mul, p_lt, p_le, p_gt, p_ge, p_eqI, p_neI, p_isN, p_isnN, p_isB, p_isnB, p_isNone_n, p_isNone_i, p_isNone_t, p_isNone_l, p_appL, p_appT, b_mc, b_mn, b_ac, b_an, b_rs, b_rz, b_lc, b_ln, b_it, b_if, b_itt, b_iff, p_dSeq, p_eqB, p_neB, len_eT, len_eR, len_eV, isNone_eO, seq_eT, seq_eR, seq_eV, seq_eL, eO_some, eO_none, len_eL, ↓p_eqN, ↓p_neN, ↓p_ltN, ↓p_leN, ↓p_gtN, ↓p_geN, hk])).trans h1
  have c2 : m_fewest_wrong_c2 [some (eT m w T), some (eSS (subs (kp m w T))), x, none] = some (.lst (((subs (kp m w T)).filter fun S => isReal m w (wo T S)).map fun S => .int (S.length : Nat))) := by
    unfold m_fewest_wrong_c2
    refine comp_if ePs _ _ (subs (kp m w T)) (by simp only [bnd_some, bnd_none, p_dc, p_dv, lk_z, lk_s, st_z, st_s, un_z, un_s, wipe_n, wipe_c, p_d2, p_d1, p_dnil, p_dcons, p_dL, p_asB, p_asI, p_asL, p_asSeqL, p_asSeqT, p_bV, p_dB, p_bAnd, p_bOr, p_bNot, p_dIf, p_dAnd, p_dOr, p_dNot, p_dCh, p_bYes, p_gN, p_gT, p_gsNil, p_gsCons, p_dNx, p_dRet, p_dSet, p_dIfS, p_dAsg, p_dPar, p_dAug, p_dApp, p_dSetIx, p_nLst, p_nRep, p_nOf, p_dSetN, p_dParN1, p_dParNN, p_iSeq, p_iRng1, p_iRng2, p_oNo, p_oIx, p_dSl, p_asIx, p_opTup, p_opLst, p_lenT, p_lenL, p_lenS, p_tupT, p_tupL, p_add, p_sub, p_mul, p_lt, p_le, p_gt, p_ge, p_eqI, p_neI, p_isN, p_isnN, p_isB, p_isnB, p_isNone_n, p_isNone_i, p_isNone_t, p_isNone_l, p_appL, p_appT, b_mc, b_mn, b_ac, b_an, b_rs, b_rz, b_lc, b_ln, b_it, b_if, b_itt, b_iff, p_dSeq, p_eqB, p_neB, len_eT, len_eR, len_eV, isNone_eO, seq_eT, seq_eR, seq_eV, seq_eL, eO_some, eO_none, len_eL, ↓p_eqN, ↓p_neN, ↓p_ltN, ↓p_leN, ↓p_gtN, ↓p_geN, asS]) (by omega) ?_
    intro S hS
    have wm := without_m h (S := S) (dS := ePs S) fun p => in_ePs p S
    have ir := is_real_m (h.wo S)
    have ln : opLen [ePs S] = some (.int S.length) := by simp [ePs]
    refine ⟨_, rfl, ?_, fun _ => ?_⟩
    · simp only [bnd_some, bnd_none, p_dc, p_dv, lk_z, lk_s, st_z, st_s, un_z, un_s, wipe_n, wipe_c, p_d2, p_d1, p_dnil, p_dcons, p_dL, p_asB, p_asI, p_asL, p_asSeqL, p_asSeqT, p_bV, p_dB, p_bAnd, p_bOr, p_bNot, p_dIf, p_dAnd, p_dOr, p_dNot, p_dCh, p_bYes, p_gN, p_gT, p_gsNil, p_gsCons, p_dNx, p_dRet, p_dSet, p_dIfS, p_dAsg, p_dPar, p_dAug, p_dApp, p_dSetIx, p_nLst, p_nRep, p_nOf, p_dSetN, p_dParN1, p_dParNN, p_iSeq, p_iRng1, p_iRng2, p_oNo, p_oIx, p_dSl, p_asIx, p_opTup, p_opLst, p_lenT, p_lenL, p_lenS, p_tupT, p_tupL, p_add, p_sub, p_mul, p_lt, p_le, p_gt, p_ge, p_eqI, p_neI, p_isN, p_isnN, p_isB, p_isnB, p_isNone_n, p_isNone_i, p_isNone_t, p_isNone_l, p_appL, p_appT, b_mc, b_mn, b_ac, b_an, b_rs, b_rz, b_lc, b_ln, b_it, b_if, b_itt, b_iff, p_dSeq, p_eqB, p_neB, len_eT, len_eR, len_eV, isNone_eO, seq_eT, seq_eR, seq_eV, seq_eL, eO_some, eO_none, len_eL, ↓p_eqN, ↓p_neN, ↓p_ltN, ↓p_leN, ↓p_gtN, ↓p_geN, wm, ir]
    · simp only [bnd_some, bnd_none, p_dc, p_dv, lk_z, lk_s, st_z, st_s, un_z, un_s, wipe_n, wipe_c, p_d2, p_d1, p_dnil, p_dcons, p_dL, p_asB, p_asI, p_asL, p_asSeqL, p_asSeqT, p_bV, p_dB, p_bAnd, p_bOr, p_bNot, p_dIf, p_dAnd, p_dOr, p_dNot, p_dCh, p_bYes, p_gN, p_gT, p_gsNil, p_gsCons, p_dNx, p_dRet, p_dSet, p_dIfS, p_dAsg, p_dPar, p_dAug, p_dApp, p_dSetIx, p_nLst, p_nRep, p_nOf, p_dSetN, p_dParN1, p_dParNN, p_iSeq, p_iRng1, p_iRng2, p_oNo, p_oIx, p_dSl, p_asIx, p_opTup, p_opLst, p_lenT, p_lenL, p_lenS, p_tupT, p_tupL, p_add, p_sub, p_mul, p_lt, p_le, p_gt, p_ge, p_eqI, p_neI, p_isN, p_isnN, p_isB, p_isnB, p_isNone_n, p_isNone_i, p_isNone_t, p_isNone_l, p_appL, p_appT, b_mc, b_mn, b_ac, b_an, b_rs, b_rz, b_lc, b_ln, b_it, b_if, b_itt, b_iff, p_dSeq, p_eqB, p_neB, len_eT, len_eR, len_eV, isNone_eO, seq_eT, seq_eR, seq_eV, seq_eL, eO_some, eO_none, len_eL, ↓p_eqN, ↓p_neN, ↓p_ltN, ↓p_leN, ↓p_gtN, ↓p_geN, ln]
  have ra := real_all m w T
  have ne : ((subs (kp m w T)).filter fun S => isReal m w (wo T S)) ≠ [] := fun q => by
    have : kp m w T ∈ (subs (kp m w T)).filter fun S => isReal m w (wo T S) := List.mem_filter.mpr ⟨(mem_subs' asc _).mpr ra.1, ra.2⟩
    rw [q] at this
    cases this
  obtain ⟨S, hS, hmin, hv⟩ := opMin_m List.length _ ne
  have hS := List.mem_filter.mp hS
  have e0 : D.lst [.tup []] = eSS [[]] := rfl
  refine ⟨S.length, ⟨⟨S, (mem_subs' asc S).mp hS.1, hS.2, rfl⟩, fun S' h1 h2 => hmin S' (List.mem_filter.mpr ⟨(mem_subs' asc S').mpr h1, h2⟩)⟩, run_rt rfl (by simp only [bnd_some, bnd_none, p_dc, p_dv, lk_z, lk_s, st_z, st_s, un_z, un_s, wipe_n, wipe_c, p_d2, p_d1, p_dnil, p_dcons, p_dL, p_asB, p_asI, p_asL, p_asSeqL, p_asSeqT, p_bV, p_dB, p_bAnd, p_bOr, p_bNot, p_dIf, p_dAnd, p_dOr, p_dNot, p_dCh, p_bYes, p_gN, p_gT, p_gsNil, p_gsCons, p_dNx, p_dRet, p_dSet, p_dIfS, p_dAsg, p_dPar, p_dAug, p_dApp, p_dSetIx, p_nLst, p_nRep, p_nOf, p_dSetN, p_dParN1, p_dParNN, p_iSeq, p_iRng1, p_iRng2, p_oNo, p_oIx, p_dSl, p_asIx, p_opTup, p_opLst, p_lenT, p_lenL, p_lenS, p_tupT, p_tupL, p_add, p_sub, p_mul, p_lt, p_le, p_gt, p_ge, p_eqI, p_neI, p_isN, p_isnN, p_isB, p_isnB, p_isNone_n, p_isNone_i, p_isNone_t, p_isNone_l, p_appL, p_appT, b_mc, b_mn, b_ac, b_an, b_rs, b_rz, b_lc, b_ln, b_it, b_if, b_itt, b_iff, p_dSeq, p_eqB, p_neB, len_eT, len_eR, len_eV, isNone_eO, seq_eT, seq_eR, seq_eV, seq_eL, eO_some, eO_none, len_eL, ↓p_eqN, ↓p_neN, ↓p_ltN, ↓p_leN, ↓p_gtN, ↓p_geN, Nat.reduceSub, Nat.reduceAdd, Nat.reduceLeDiff, Nat.zero_le, e0, f, c2, hv])⟩
end Mi
namespace Mi
open DL
theorem real2_m {m w : Nat} {T : Nat → Nat → Option Nat} (h : Tab m w T) (hB : ∀ i j e, T i j = some e → e ≤ 1000000000) : m_law_real_2 [eT m w T] = some (.bl (isReal m w T)) := by
  let l := kp m w T
  let kn : D := .lst (l.map (eK T))
  have hk : m_law_known [eT m w T] = some kn := known_m h
  have kk : asSeq kn = some (l.map (eK T)) := rfl
  have kl : l.length ≤ 10000 := kp_len1 h
  let Lb : Nat × Nat → List (Nat × Nat) := fun p => l.filter fun q => decide (q.1 = p.1) && !decide (q.2 = p.2)
  let La : Nat × Nat → List (Nat × Nat) := fun p => l.filter fun q => !decide (q.1 = p.1) && decide (q.2 = p.2)
  let ent : Nat × Nat → D := fun q => eO (T q.1 q.2)
  have c1 : ∀ (p : Nat × Nat) (v x5 x6 x7 : Option D), m_law_real_2_c1 [some (eT m w T), some kn, some (.int p.1), some (.int p.2), v, x5, x6, x7, none, none, none] = some (.lst ((Lb p).map ent)) := by
    intro p v x5 x6 x7
    unfold m_law_real_2_c1
    refine comp_if (eK T) _ _ l (by simp only [bnd_some, bnd_none, p_dc, p_dv, lk_z, lk_s, st_z, st_s, un_z, un_s, wipe_n, wipe_c, p_d2, p_d1, p_dnil, p_dcons, p_dL, p_asB, p_asI, p_asL, p_asSeqL, p_asSeqT, p_bV, p_dB, p_bAnd, p_bOr, p_bNot, p_dIf, p_dAnd, p_dOr, p_dNot, p_dCh, p_bYes, p_gN, p_gT, p_gsNil, p_gsCons, p_dNx, p_dRet, p_dSet, p_dIfS, p_dAsg, p_dPar, p_dAug, p_dApp, p_dSetIx, p_nLst, p_nRep, p_nOf, p_dSetN, p_dParN1, p_dParNN, p_iSeq, p_iRng1, p_iRng2, p_oNo, p_oIx, p_dSl, p_asIx, p_opTup, p_opLst, p_lenT, p_lenL, p_lenS, p_tupT, p_tupL, p_add, p_sub, p_mul, p_lt, p_le, p_gt, p_ge, p_eqI, p_neI, p_isN, p_isnN, p_isB, p_isnB, p_isNone_n, p_isNone_i, p_isNone_t, p_isNone_l, p_appL, p_appT, b_mc, b_mn, b_ac, b_an, b_rs, b_rz, b_lc, b_ln, b_it, b_if, b_itt, b_iff, p_dSeq, p_eqB, p_neB, len_eT, len_eR, len_eV, isNone_eO, seq_eT, seq_eR, seq_eV, seq_eL, eO_some, eO_none, len_eL, ↓p_eqN, ↓p_neN, ↓p_ltN, ↓p_leN, ↓p_gtN, ↓p_geN, kk]) (by omega) ?_
    intro q hq
    refine ⟨_, rfl, ?_, fun _ => ?_⟩
    · by_cases d1 : q.1 = p.1
      · simp only [bnd_some, bnd_none, p_dc, p_dv, lk_z, lk_s, st_z, st_s, un_z, un_s, wipe_n, wipe_c, p_d2, p_d1, p_dnil, p_dcons, p_dL, p_asB, p_asI, p_asL, p_asSeqL, p_asSeqT, p_bV, p_dB, p_bAnd, p_bOr, p_bNot, p_dIf, p_dAnd, p_dOr, p_dNot, p_dCh, p_bYes, p_gN, p_gT, p_gsNil, p_gsCons, p_dNx, p_dRet, p_dSet, p_dIfS, p_dAsg, p_dPar, p_dAug, p_dApp, p_dSetIx, p_nLst, p_nRep, p_nOf, p_dSetN, p_dParN1, p_dParNN, p_iSeq, p_iRng1, p_iRng2, p_oNo, p_oIx, p_dSl, p_asIx, p_opTup, p_opLst, p_lenT, p_lenL, p_lenS, p_tupT, p_tupL, p_add, p_sub, p_mul, p_lt, p_le, p_gt, p_ge, p_eqI, p_neI, p_isN, p_isnN, p_isB, p_isnB, p_isNone_n, p_isNone_i, p_isNone_t, p_isNone_l, p_appL, p_appT, b_mc, b_mn, b_ac, b_an, b_rs, b_rz, b_lc, b_ln, b_it, b_if, b_itt, b_iff, p_dSeq, p_eqB, p_neB, len_eT, len_eR, len_eV, isNone_eO, seq_eT, seq_eR, seq_eV, seq_eL, eO_some, eO_none, len_eL, ↓p_eqN, ↓p_neN, ↓p_ltN, ↓p_leN, ↓p_gtN, ↓p_geN, d1, decide_true, Bool.true_and]
      · simp only [bnd_some, bnd_none, p_dc, p_dv, lk_z, lk_s, st_z, st_s, un_z, un_s, wipe_n, wipe_c, p_d2, p_d1, p_dnil, p_dcons, p_dL, p_asB, p_asI, p_asL, p_asSeqL, p_asSeqT, p_bV, p_dB, p_bAnd, p_bOr, p_bNot, p_dIf, p_dAnd, p_dOr, p_dNot, p_dCh, p_bYes, p_gN, p_gT, p_gsNil, p_gsCons, p_dNx, p_dRet, p_dSet, p_dIfS, p_dAsg, p_dPar, p_dAug, p_dApp, p_dSetIx, p_nLst, p_nRep, p_nOf, p_dSetN, p_dParN1, p_dParNN, p_iSeq, p_iRng1, p_iRng2, p_oNo, p_oIx, p_dSl, p_asIx, p_opTup, p_opLst, p_lenT, p_lenL, p_lenS, p_tupT, p_tupL, p_add, p_sub, p_mul, p_lt, p_le, p_gt, p_ge, p_eqI, p_neI, p_isN, p_isnN, p_isB, p_isnB, p_isNone_n, p_isNone_i, p_isNone_t, p_isNone_l, p_appL, p_appT, b_mc, b_mn, b_ac, b_an, b_rs, b_rz, b_lc, b_ln, b_it, b_if, b_itt, b_iff, p_dSeq, p_eqB, p_neB, len_eT, len_eR, len_eV, isNone_eO, seq_eT, seq_eR, seq_eV, seq_eL, eO_some, eO_none, len_eL, ↓p_eqN, ↓p_neN, ↓p_ltN, ↓p_leN, ↓p_gtN, ↓p_geN, d1, decide_false, Bool.false_and]
    · simp only [bnd_some, bnd_none, p_dc, p_dv, lk_z, lk_s, st_z, st_s, un_z, un_s, wipe_n, wipe_c, p_d2, p_d1, p_dnil, p_dcons, p_dL, p_asB, p_asI, p_asL, p_asSeqL, p_asSeqT, p_bV, p_dB, p_bAnd, p_bOr, p_bNot, p_dIf, p_dAnd, p_dOr, p_dNot, p_dCh, p_bYes, p_gN, p_gT, p_gsNil, p_gsCons, p_dNx, p_dRet, p_dSet, p_dIfS, p_dAsg, p_dPar, p_dAug, p_dApp, p_dSetIx, p_nLst, p_nRep, p_nOf, p_dSetN, p_dParN1, p_dParNN, p_iSeq, p_iRng1, p_iRng2, p_oNo, p_oIx, p_dSl, p_asIx, p_opTup, p_opLst, p_lenT, p_lenL, p_lenS, p_tupT, p_tupL, p_add, p_sub, p_mul, p_lt, p_le, p_gt, p_ge, p_eqI, p_neI, p_isN, p_isnN, p_isB, p_isnB, p_isNone_n, p_isNone_i, p_isNone_t, p_isNone_l, p_appL, p_appT, b_mc, b_mn, b_ac, b_an, b_rs, b_rz, b_lc, b_ln, b_it, b_if, b_itt, b_iff, p_dSeq, p_eqB, p_neB, len_eT, len_eR, len_eV, isNone_eO, seq_eT, seq_eR, seq_eV, seq_eL, eO_some, eO_none, len_eL, ↓p_eqN, ↓p_neN, ↓p_ltN, ↓p_leN, ↓p_gtN, ↓p_geN, ent]
  have c2 : ∀ (p : Nat × Nat) (v x5 x6 x7 : Option D), m_law_real_2_c2 [some (eT m w T), some kn, some (.int p.1), some (.int p.2), v, x5, x6, x7, none, none, none] = some (.lst ((La p).map ent)) := by
    intro p v x5 x6 x7
    unfold m_law_real_2_c2
    refine comp_if (eK T) _ _ l (by simp only [bnd_some, bnd_none, p_dc, p_dv, lk_z, lk_s, st_z, st_s, un_z, un_s, wipe_n, wipe_c, p_d2, p_d1, p_dnil, p_dcons, p_dL, p_asB, p_asI, p_asL, p_asSeqL, p_asSeqT, p_bV, p_dB, p_bAnd, p_bOr, p_bNot, p_dIf, p_dAnd, p_dOr, p_dNot, p_dCh, p_bYes, p_gN, p_gT, p_gsNil, p_gsCons, p_dNx, p_dRet, p_dSet, p_dIfS, p_dAsg, p_dPar, p_dAug, p_dApp, p_dSetIx, p_nLst, p_nRep, p_nOf, p_dSetN, p_dParN1, p_dParNN, p_iSeq, p_iRng1, p_iRng2, p_oNo, p_oIx, p_dSl, p_asIx, p_opTup, p_opLst, p_lenT, p_lenL, p_lenS, p_tupT, p_tupL, p_add, p_sub, p_mul, p_lt, p_le, p_gt, p_ge, p_eqI, p_neI, p_isN, p_isnN, p_isB, p_isnB, p_isNone_n, p_isNone_i, p_isNone_t, p_isNone_l, p_appL, p_appT, b_mc, b_mn, b_ac, b_an, b_rs, b_rz, b_lc, b_ln, b_it, b_if, b_itt, b_iff, p_dSeq, p_eqB, p_neB, len_eT, len_eR, len_eV, isNone_eO, seq_eT, seq_eR, seq_eV, seq_eL, eO_some, eO_none, len_eL, ↓p_eqN, ↓p_neN, ↓p_ltN, ↓p_leN, ↓p_gtN, ↓p_geN, kk]) (by omega) ?_
    intro q hq
    refine ⟨_, rfl, ?_, fun _ => ?_⟩
    · by_cases d1 : q.1 = p.1
      · simp only [bnd_some, bnd_none, p_dc, p_dv, lk_z, lk_s, st_z, st_s, un_z, un_s, wipe_n, wipe_c, p_d2, p_d1, p_dnil, p_dcons, p_dL, p_asB, p_asI, p_asL, p_asSeqL, p_asSeqT, p_bV, p_dB, p_bAnd, p_bOr, p_bNot, p_dIf, p_dAnd, p_dOr, p_dNot, p_dCh, p_bYes, p_gN, p_gT, p_gsNil, p_gsCons, p_dNx, p_dRet, p_dSet, p_dIfS, p_dAsg, p_dPar, p_dAug, p_dApp, p_dSetIx, p_nLst, p_nRep, p_nOf, p_dSetN, p_dParN1, p_dParNN, p_iSeq, p_iRng1, p_iRng2, p_oNo, p_oIx, p_dSl, p_asIx, p_opTup, p_opLst, p_lenT, p_lenL, p_lenS, p_tupT, p_tupL, p_add, p_sub, p_mul, p_lt, p_le, p_gt, p_ge, p_eqI, p_neI, p_isN, p_isnN, p_isB, p_isnB, p_isNone_n, p_isNone_i, p_isNone_t, p_isNone_l, p_appL, p_appT, b_mc, b_mn, b_ac, b_an, b_rs, b_rz, b_lc, b_ln, b_it, b_if, b_itt, b_iff, p_dSeq, p_eqB, p_neB, len_eT, len_eR, len_eV, isNone_eO, seq_eT, seq_eR, seq_eV, seq_eL, eO_some, eO_none, len_eL, ↓p_eqN, ↓p_neN, ↓p_ltN, ↓p_leN, ↓p_gtN, ↓p_geN, d1, decide_true, Bool.not_true, Bool.false_and]
      · simp only [bnd_some, bnd_none, p_dc, p_dv, lk_z, lk_s, st_z, st_s, un_z, un_s, wipe_n, wipe_c, p_d2, p_d1, p_dnil, p_dcons, p_dL, p_asB, p_asI, p_asL, p_asSeqL, p_asSeqT, p_bV, p_dB, p_bAnd, p_bOr, p_bNot, p_dIf, p_dAnd, p_dOr, p_dNot, p_dCh, p_bYes, p_gN, p_gT, p_gsNil, p_gsCons, p_dNx, p_dRet, p_dSet, p_dIfS, p_dAsg, p_dPar, p_dAug, p_dApp, p_dSetIx, p_nLst, p_nRep, p_nOf, p_dSetN, p_dParN1, p_dParNN, p_iSeq, p_iRng1, p_iRng2, p_oNo, p_oIx, p_dSl, p_asIx, p_opTup, p_opLst, p_lenT, p_lenL, p_lenS, p_tupT, p_tupL, p_add, p_sub, p_mul, p_lt, p_le, p_gt, p_ge, p_eqI, p_neI, p_isN, p_isnN, p_isB, p_isnB, p_isNone_n, p_isNone_i, p_isNone_t, p_isNone_l, p_appL, p_appT, b_mc, b_mn, b_ac, b_an, b_rs, b_rz, b_lc, b_ln, b_it, b_if, b_itt, b_iff, p_dSeq, p_eqB, p_neB, len_eT, len_eR, len_eV, isNone_eO, seq_eT, seq_eR, seq_eV, seq_eL, eO_some, eO_none, len_eL, ↓p_eqN, ↓p_neN, ↓p_ltN, ↓p_leN, ↓p_gtN, ↓p_geN, d1, decide_false, Bool.not_false, Bool.true_and]
    · simp only [bnd_some, bnd_none, p_dc, p_dv, lk_z, lk_s, st_z, st_s, un_z, un_s, wipe_n, wipe_c, p_d2, p_d1, p_dnil, p_dcons, p_dL, p_asB, p_asI, p_asL, p_asSeqL, p_asSeqT, p_bV, p_dB, p_bAnd, p_bOr, p_bNot, p_dIf, p_dAnd, p_dOr, p_dNot, p_dCh, p_bYes, p_gN, p_gT, p_gsNil, p_gsCons, p_dNx, p_dRet, p_dSet, p_dIfS, p_dAsg, p_dPar, p_dAug, p_dApp, p_dSetIx, p_nLst, p_nRep, p_nOf, p_dSetN, p_dParN1, p_dParNN, p_iSeq, p_iRng1, p_iRng2, p_oNo, p_oIx, p_dSl, p_asIx, p_opTup, p_opLst, p_lenT, p_lenL, p_lenS, p_tupT, p_tupL, p_add, p_sub, p_mul, p_lt, p_le, p_gt, p_ge, p_eqI, p_neI, p_isN, p_isnN, p_isB, p_isnB, p_isNone_n, p_isNone_i, p_isNone_t, p_isNone_l, p_appL, p_appT, b_mc, b_mn, b_ac, b_an, b_rs, b_rz, b_lc, b_ln, b_it, b_if, b_itt, b_iff, p_dSeq, p_eqB, p_neB, len_eT, len_eR, len_eV, isNone_eO, seq_eT, seq_eR, seq_eV, seq_eL, eO_some, eO_none, len_eL, ↓p_eqN, ↓p_neN, ↓p_ltN, ↓p_leN, ↓p_gtN, ↓p_geN, ent]
  let N : Nat × Nat → Prop := fun p => ∀ q ∈ Lb p, ∀ u ∈ La p, ∀ e a b, T p.1 p.2 = some e → T q.1 q.2 = some a → T u.1 u.2 = some b → e ∣ Nat.lcm a b
  let Q : D → Prop := fun d => d = .bl false ∧ ¬ NoClash m w T
  have inner : ∀ p ∈ l, ∀ (x7 : Option D), let ρ0 : Rho := [some (eT m w T), some kn, some (.int p.1), some (.int p.2), some (ent p), some (.lst ((Lb p).map ent)), some (.lst ((La p).map ent)), x7, none, none, none]
      (∃ d, forL (gN 7) m_law_real_2_b1 ((Lb p).map ent) ρ0 = some (.rt d) ∧ Q d) ∨ (∃ ρ', forL (gN 7) m_law_real_2_b1 ((Lb p).map ent) ρ0 = some (.nx ρ') ∧ (∃ x7, ρ' = [some (eT m w T), some kn, some (.int p.1), some (.int p.2), some (ent p), some (.lst ((Lb p).map ent)), some (.lst ((La p).map ent)), x7, none, none, none]) ∧
        ∀ q ∈ Lb p, ∀ u ∈ La p, ∀ e a b, T p.1 p.2 = some e → T q.1 q.2 = some a → T u.1 u.2 = some b → e ∣ Nat.lcm a b) := by
    intro p hp x7 ρ0
    obtain ⟨e, he, p1, p2⟩ := kp_some hp
    have be := h.bd _ _ _ he
    refine for_q ent (fun ρ => ∃ x7, ρ = [some (eT m w T), some kn, some (.int p.1), some (.int p.2), some (ent p), some (.lst ((Lb p).map ent)), some (.lst ((La p).map ent)), x7, none, none, none]) Q _ (Lb p) ρ0 ?_ ⟨x7, rfl⟩
    rintro q hq ρ ⟨x7, rfl⟩
    have hq' := List.mem_filter.mp hq
    obtain ⟨a, ha, q1, q2⟩ := kp_some hq'.1
    have ba := h.bd _ _ _ ha
    have la := hB _ _ _ ha
    let bad : Nat × Nat → Bool := fun u => !decide (Nat.lcm a ((T u.1 u.2).getD 0) % e = 0)
    have c3 : m_law_real_2_c3 [some (eT m w T), some kn, some (.int p.1), some (.int p.2), some (ent p), some (.lst ((Lb p).map ent)), some (.lst ((La p).map ent)), some (ent q), none, none, none] = some (.lst (((La p).filter bad).map ent)) := by
      unfold m_law_real_2_c3
      refine comp_if ent bad ent (La p) (by simp only [bnd_some, bnd_none, p_dc, p_dv, lk_z, lk_s, st_z, st_s, un_z, un_s, wipe_n, wipe_c, p_d2, p_d1, p_dnil, p_dcons, p_dL, p_asB, p_asI, p_asL, p_asSeqL, p_asSeqT, p_bV, p_dB, p_bAnd, p_bOr, p_bNot, p_dIf, p_dAnd, p_dOr, p_dNot, p_dCh, p_bYes, p_gN, p_gT, p_gsNil, p_gsCons, p_dNx, p_dRet, p_dSet, p_dIfS, p_dAsg, p_dPar, p_dAug, p_dApp, p_dSetIx, p_nLst, p_nRep, p_nOf, p_dSetN, p_dParN1, p_dParNN, p_iSeq, p_iRng1, p_iRng2, p_oNo, p_oIx, p_dSl, p_asIx, p_opTup, p_opLst, p_lenT, p_lenL, p_lenS, p_tupT, p_tupL, p_add, p_sub, p_mul, p_lt, p_le, p_gt, p_ge, p_eqI, p_neI, p_isN, p_isnN, p_isB, p_isnB, p_isNone_n, p_isNone_i, p_isNone_t, p_isNone_l, p_appL, p_appT, b_mc, b_mn, b_ac, b_an, b_rs, b_rz, b_lc, b_ln, b_it, b_if, b_itt, b_iff, p_dSeq, p_eqB, p_neB, len_eT, len_eR, len_eV, isNone_eO, seq_eT, seq_eR, seq_eV, seq_eL, eO_some, eO_none, len_eL, ↓p_eqN, ↓p_neN, ↓p_ltN, ↓p_leN, ↓p_gtN, ↓p_geN]) (Nat.le_trans (List.length_filter_le _ _) (by omega)) ?_
      intro u hu
      have hu' := List.mem_filter.mp hu
      obtain ⟨b, hb, u1, u2⟩ := kp_some hu'.1
      have bb := h.bd _ _ _ hb
      have lb := hB _ _ _ hb
      have l := llcm_m ba.1 (b := b) (by omega) (Nat.lt_of_le_of_lt (Nat.gcd_le_left _ ba.1) (by omega))
      have md := mod_n (a := Nat.lcm a b) be.1
      have nz : opNe (.int ((Nat.lcm a b % e : Nat) : Int)) (.int 0) = some (.bl (!decide (Nat.lcm a b % e = 0))) := p_neN _ 0
      refine ⟨_, rfl, ?_, fun _ => ?_⟩
      · simp only [bnd_some, bnd_none, p_dc, p_dv, lk_z, lk_s, st_z, st_s, un_z, un_s, wipe_n, wipe_c, p_d2, p_d1, p_dnil, p_dcons, p_dL, p_asB, p_asI, p_asL, p_asSeqL, p_asSeqT, p_bV, p_dB, p_bAnd, p_bOr, p_bNot, p_dIf, p_dAnd, p_dOr, p_dNot, p_dCh, p_bYes, p_gN, p_gT, p_gsNil, p_gsCons, p_dNx, p_dRet, p_dSet, p_dIfS, p_dAsg, p_dPar, p_dAug, p_dApp, p_dSetIx, p_nLst, p_nRep, p_nOf, p_dSetN, p_dParN1, p_dParNN, p_iSeq, p_iRng1, p_iRng2, p_oNo, p_oIx, p_dSl, p_asIx, p_opTup, p_opLst, p_lenT, p_lenL, p_lenS, p_tupT, p_tupL, p_add, p_sub, p_mul, p_lt, p_le, p_gt, p_ge, p_eqI, p_neI, p_isN, p_isnN, p_isB, p_isnB, p_isNone_n, p_isNone_i, p_isNone_t, p_isNone_l, p_appL, p_appT, b_mc, b_mn, b_ac, b_an, b_rs, b_rz, b_lc, b_ln, b_it, b_if, b_itt, b_iff, p_dSeq, p_eqB, p_neB, len_eT, len_eR, len_eV, isNone_eO, seq_eT, seq_eR, seq_eV, seq_eL, eO_some, eO_none, len_eL, ↓p_eqN, ↓p_neN, ↓p_ltN, ↓p_leN, ↓p_gtN, ↓p_geN, ent, bad, ha, hb, he, eO_some, l, md, ↓nz, Option.getD_some]
      · simp only [bnd_some, bnd_none, p_dc, p_dv, lk_z, lk_s, st_z, st_s, un_z, un_s, wipe_n, wipe_c, p_d2, p_d1, p_dnil, p_dcons, p_dL, p_asB, p_asI, p_asL, p_asSeqL, p_asSeqT, p_bV, p_dB, p_bAnd, p_bOr, p_bNot, p_dIf, p_dAnd, p_dOr, p_dNot, p_dCh, p_bYes, p_gN, p_gT, p_gsNil, p_gsCons, p_dNx, p_dRet, p_dSet, p_dIfS, p_dAsg, p_dPar, p_dAug, p_dApp, p_dSetIx, p_nLst, p_nRep, p_nOf, p_dSetN, p_dParN1, p_dParNN, p_iSeq, p_iRng1, p_iRng2, p_oNo, p_oIx, p_dSl, p_asIx, p_opTup, p_opLst, p_lenT, p_lenL, p_lenS, p_tupT, p_tupL, p_add, p_sub, p_mul, p_lt, p_le, p_gt, p_ge, p_eqI, p_neI, p_isN, p_isnN, p_isB, p_isnB, p_isNone_n, p_isNone_i, p_isNone_t, p_isNone_l, p_appL, p_appT, b_mc, b_mn, b_ac, b_an, b_rs, b_rz, b_lc, b_ln, b_it, b_if, b_itt, b_iff, p_dSeq, p_eqB, p_neB, len_eT, len_eR, len_eV, isNone_eO, seq_eT, seq_eR, seq_eV, seq_eL, eO_some, eO_none, len_eL, ↓p_eqN, ↓p_neN, ↓p_ltN, ↓p_leN, ↓p_gtN, ↓p_geN]
    have nn := ne_nil ent ((La p).filter bad) fun u _ => ok_eO _ _
    refine ⟨_, rfl, ?_⟩
    cases z : ((La p).filter bad).isEmpty with
    | true =>
      right
      rw [z] at nn
      refine ⟨[some (eT m w T), some kn, some (.int p.1), some (.int p.2), some (ent p), some (.lst ((Lb p).map ent)), some (.lst ((La p).map ent)), some (ent q), none, none, none], ?_, ⟨_, rfl⟩, ?_⟩
      · simp only [m_law_real_2_b1, bnd_some, bnd_none, p_dc, p_dv, lk_z, lk_s, st_z, st_s, un_z, un_s, wipe_n, wipe_c, p_d2, p_d1, p_dnil, p_dcons, p_dL, p_asB, p_asI, p_asL, p_asSeqL, p_asSeqT, p_bV, p_dB, p_bAnd, p_bOr, p_bNot, p_dIf, p_dAnd, p_dOr, p_dNot, p_dCh, p_bYes, p_gN, p_gT, p_gsNil, p_gsCons, p_dNx, p_dRet, p_dSet, p_dIfS, p_dAsg, p_dPar, p_dAug, p_dApp, p_dSetIx, p_nLst, p_nRep, p_nOf, p_dSetN, p_dParN1, p_dParNN, p_iSeq, p_iRng1, p_iRng2, p_oNo, p_oIx, p_dSl, p_asIx, p_opTup, p_opLst, p_lenT, p_lenL, p_lenS, p_tupT, p_tupL, p_add, p_sub, p_mul, p_lt, p_le, p_gt, p_ge, p_eqI, p_neI, p_isN, p_isnN, p_isB, p_isnB, p_isNone_n, p_isNone_i, p_isNone_t, p_isNone_l, p_appL, p_appT, b_mc, b_mn, b_ac, b_an, b_rs, b_rz, b_lc, b_ln, b_it, b_if, b_itt, b_iff, p_dSeq, p_eqB, p_neB, len_eT, len_eR, len_eV, isNone_eO, seq_eT, seq_eR, seq_eV, seq_eL, eO_some, eO_none, len_eL, ↓p_eqN, ↓p_neN, ↓p_ltN, ↓p_leN, ↓p_gtN, ↓p_geN, c3, Nat.zero_le, nn, Bool.not_true]
      · intro u hu e' a' b' h1 h2 h3
        rw [he] at h1; rw [ha] at h2
        cases h1; cases h2
        rw [List.isEmpty_iff, List.filter_eq_nil_iff] at z
        have := z u hu
        simp only [bad, h3, Option.getD_some] at this
        have : Nat.lcm a b' % e = 0 := by simpa using this
        exact Nat.dvd_of_mod_eq_zero this
    | false =>
      left
      rw [z] at nn
      refine ⟨.bl false, by simp only [m_law_real_2_b1, bnd_some, bnd_none, p_dc, p_dv, lk_z, lk_s, st_z, st_s, un_z, un_s, wipe_n, wipe_c, p_d2, p_d1, p_dnil, p_dcons, p_dL, p_asB, p_asI, p_asL, p_asSeqL, p_asSeqT, p_bV, p_dB, p_bAnd, p_bOr, p_bNot, p_dIf, p_dAnd, p_dOr, p_dNot, p_dCh, p_bYes, p_gN, p_gT, p_gsNil, p_gsCons, p_dNx, p_dRet, p_dSet, p_dIfS, p_dAsg, p_dPar, p_dAug, p_dApp, p_dSetIx, p_nLst, p_nRep, p_nOf, p_dSetN, p_dParN1, p_dParNN, p_iSeq, p_iRng1, p_iRng2, p_oNo, p_oIx, p_dSl, p_asIx, p_opTup, p_opLst, p_lenT, p_lenL, p_lenS, p_tupT, p_tupL, p_add, p_sub, p_mul, p_lt, p_le, p_gt, p_ge, p_eqI, p_neI, p_isN, p_isnN, p_isB, p_isnB, p_isNone_n, p_isNone_i, p_isNone_t, p_isNone_l, p_appL, p_appT, b_mc, b_mn, b_ac, b_an, b_rs, b_rz, b_lc, b_ln, b_it, b_if, b_itt, b_iff, p_dSeq, p_eqB, p_neB, len_eT, len_eR, len_eV, isNone_eO, seq_eT, seq_eR, seq_eV, seq_eL, eO_some, eO_none, len_eL, ↓p_eqN, ↓p_neN, ↓p_ltN, ↓p_leN, ↓p_gtN, ↓p_geN, c3, Nat.zero_le, nn, Bool.not_false], rfl, ?_⟩
      intro nc
      have ne : (La p).filter bad ≠ [] := fun y => by rw [y] at z; cases z
      obtain ⟨u, r, hu⟩ := List.exists_cons_of_ne_nil ne
      have hu : u ∈ (La p).filter bad := by rw [hu]; exact List.mem_cons_self
      have hu2 := List.mem_filter.mp hu
      have hu3 := List.mem_filter.mp hu2.1
      obtain ⟨b, hb, u1, u2⟩ := kp_some hu3.1
      have f1 := hq'.2
      have f2 := hu3.2
      simp only [Bool.and_eq_true, decide_eq_true_eq, Bool.not_eq_true', decide_eq_false_iff_not] at f1 f2
      have := nc p.1 p.2 q.2 u.1 p1 p2 q2 u1 e a b he (by rw [← f1.1]; exact ha) (by rw [← f2.2]; exact hb) f1.2 f2.1
      have hb2 := hu2.2
      simp only [bad, hb, Option.getD_some] at hb2
      rw [Nat.mod_eq_zero_of_dvd this] at hb2
      cases hb2
  have outer := for_q (g := gT (gsCons (gN 2) (gsCons (gN 3) (gsCons (gN 4) gsNil)))) (b := m_law_real_2_b2) (eK T) (fun ρ => ∃ r c v x5 x6 x7, ρ = [some (eT m w T), some kn, r, c, v, x5, x6, x7, none, none, none]) Q N l [some (eT m w T), some kn, none, none, none, none, none, none, none, none, none] (by
    rintro p hp ρ ⟨r, c, v, x5, x6, x7, rfl⟩
    refine ⟨_, rfl, ?_⟩
    have f := for_eq (it := iSeq (dv 5)) (g := gN 7) (b := m_law_real_2_b1) (ds := (Lb p).map ent) (ρ := [some (eT m w T), some kn, some (.int p.1), some (.int p.2), some (ent p), some (.lst ((Lb p).map ent)), some (.lst ((La p).map ent)), x7, none, none, none]) (by simp only [bnd_some, bnd_none, p_dc, p_dv, lk_z, lk_s, st_z, st_s, un_z, un_s, wipe_n, wipe_c, p_d2, p_d1, p_dnil, p_dcons, p_dL, p_asB, p_asI, p_asL, p_asSeqL, p_asSeqT, p_bV, p_dB, p_bAnd, p_bOr, p_bNot, p_dIf, p_dAnd, p_dOr, p_dNot, p_dCh, p_bYes, p_gN, p_gT, p_gsNil, p_gsCons, p_dNx, p_dRet, p_dSet, p_dIfS, p_dAsg, p_dPar, p_dAug, p_dApp, p_dSetIx, p_nLst, p_nRep, p_nOf, p_dSetN, p_dParN1, p_dParNN, p_iSeq, p_iRng1, p_iRng2, p_oNo, p_oIx, p_dSl, p_asIx, p_opTup, p_opLst, p_lenT, p_lenL, p_lenS, p_tupT, p_tupL, p_add, p_sub, p_mul, p_lt, p_le, p_gt, p_ge, p_eqI, p_neI, p_isN, p_isnN, p_isB, p_isnB, p_isNone_n, p_isNone_i, p_isNone_t, p_isNone_l, p_appL, p_appT, b_mc, b_mn, b_ac, b_an, b_rs, b_rz, b_lc, b_ln, b_it, b_if, b_itt, b_iff, p_dSeq, p_eqB, p_neB, len_eT, len_eR, len_eV, isNone_eO, seq_eT, seq_eR, seq_eV, seq_eL, eO_some, eO_none, len_eL, ↓p_eqN, ↓p_neN, ↓p_ltN, ↓p_leN, ↓p_gtN, ↓p_geN])
    have d1 := c1 p (some (ent p)) x5 x6 x7
    have d2 := c2 p (some (ent p)) (some (.lst ((Lb p).map ent))) x6 x7
    rcases inner p hp x7 with ⟨d, h1, h2⟩ | ⟨ρ', h1, ⟨x7', h2⟩, h3⟩
    · left
      rw [← f] at h1
      refine ⟨d, ?_, h2⟩
      show m_law_real_2_b2 [some (eT m w T), some kn, some (.int p.1), some (.int p.2), some (ent p), x5, x6, x7, none, none, none] = _
      simp only [m_law_real_2_b2, bnd_some, bnd_none, p_dc, p_dv, lk_z, lk_s, st_z, st_s, un_z, un_s, wipe_n, wipe_c, p_d2, p_d1, p_dnil, p_dcons, p_dL, p_asB, p_asI, p_asL, p_asSeqL, p_asSeqT, p_bV, p_dB, p_bAnd, p_bOr, p_bNot, p_dIf, p_dAnd, p_dOr, p_dNot, p_dCh, p_bYes, p_gN, p_gT, p_gsNil, p_gsCons, p_dNx, p_dRet, p_dSet, p_dIfS, p_dAsg, p_dPar, p_dAug, p_dApp, p_dSetIx, p_nLst, p_nRep, p_nOf, p_dSetN, p_dParN1, p_dParNN, p_iSeq, p_iRng1, p_iRng2, p_oNo, p_oIx, p_dSl, p_asIx, p_opTup, p_opLst, p_lenT, p_lenL, p_lenS, p_tupT, p_tupL, p_add, p_sub, p_mul, p_lt, p_le, p_gt, p_ge, p_eqI, p_neI, p_isN, p_isnN, p_isB, p_isnB, p_isNone_n, p_isNone_i, p_isNone_t, p_isNone_l, p_appL, p_appT, b_mc, b_mn, b_ac, b_an, b_rs, b_rz, b_lc, b_ln, b_it, b_if, b_itt, b_iff, p_dSeq, p_eqB, p_neB, len_eT, len_eR, len_eV, isNone_eO, seq_eT, seq_eR, seq_eV, seq_eL, eO_some, eO_none, len_eL, ↓p_eqN, ↓p_neN, ↓p_ltN, ↓p_leN, ↓p_gtN, ↓p_geN, d1, d2, h1]
    · right
      rw [← f] at h1
      subst h2
      refine ⟨[some (eT m w T), some kn, some (.int p.1), some (.int p.2), some (ent p), some (.lst ((Lb p).map ent)), some (.lst ((La p).map ent)), x7', none, none, none], ?_, ⟨_, _, _, _, _, _, rfl⟩, h3⟩
      show m_law_real_2_b2 [some (eT m w T), some kn, some (.int p.1), some (.int p.2), some (ent p), x5, x6, x7, none, none, none] = _
      simp only [m_law_real_2_b2, bnd_some, bnd_none, p_dc, p_dv, lk_z, lk_s, st_z, st_s, un_z, un_s, wipe_n, wipe_c, p_d2, p_d1, p_dnil, p_dcons, p_dL, p_asB, p_asI, p_asL, p_asSeqL, p_asSeqT, p_bV, p_dB, p_bAnd, p_bOr, p_bNot, p_dIf, p_dAnd, p_dOr, p_dNot, p_dCh, p_bYes, p_gN, p_gT, p_gsNil, p_gsCons, p_dNx, p_dRet, p_dSet, p_dIfS, p_dAsg, p_dPar, p_dAug, p_dApp, p_dSetIx, p_nLst, p_nRep, p_nOf, p_dSetN, p_dParN1, p_dParNN, p_iSeq, p_iRng1, p_iRng2, p_oNo, p_oIx, p_dSl, p_asIx, p_opTup, p_opLst, p_lenT, p_lenL, p_lenS, p_tupT, p_tupL, p_add, p_sub, p_mul, p_lt, p_le, p_gt, p_ge, p_eqI, p_neI, p_isN, p_isnN, p_isB, p_isnB, p_isNone_n, p_isNone_i, p_isNone_t, p_isNone_l, p_appL, p_appT, b_mc, b_mn, b_ac, b_an, b_rs, b_rz, b_lc, b_ln, b_it, b_if, b_itt, b_iff, p_dSeq, p_eqB, p_neB, len_eT, len_eR, len_eV, isNone_eO, seq_eT, seq_eR, seq_eV, seq_eL, eO_some, eO_none, len_eL, ↓p_eqN, ↓p_neN, ↓p_ltN, ↓p_leN, ↓p_gtN, ↓p_geN, d1, d2, h1]) ⟨_, _, _, _, _, _, rfl⟩
  have f := for_eq (it := iSeq (dv 1)) (g := gT (gsCons (gN 2) (gsCons (gN 3) (gsCons (gN 4) gsNil)))) (b := m_law_real_2_b2) (ds := l.map (eK T)) (ρ := [some (eT m w T), some kn, none, none, none, none, none, none, none, none, none]) (by simp only [bnd_some, bnd_none, p_dc, p_dv, lk_z, lk_s, st_z, st_s, un_z, un_s, wipe_n, wipe_c, p_d2, p_d1, p_dnil, p_dcons, p_dL, p_asB, p_asI, p_asL, p_asSeqL, p_asSeqT, p_bV, p_dB, p_bAnd, p_bOr, p_bNot, p_dIf, p_dAnd, p_dOr, p_dNot, p_dCh, p_bYes, p_gN, p_gT, p_gsNil, p_gsCons, p_dNx, p_dRet, p_dSet, p_dIfS, p_dAsg, p_dPar, p_dAug, p_dApp, p_dSetIx, p_nLst, p_nRep, p_nOf, p_dSetN, p_dParN1, p_dParNN, p_iSeq, p_iRng1, p_iRng2, p_oNo, p_oIx, p_dSl, p_asIx, p_opTup, p_opLst, p_lenT, p_lenL, p_lenS, p_tupT, p_tupL, p_add, p_sub, p_mul, p_lt, p_le, p_gt, p_ge, p_eqI, p_neI, p_isN, p_isnN, p_isB, p_isnB, p_isNone_n, p_isNone_i, p_isNone_t, p_isNone_l, p_appL, p_appT, b_mc, b_mn, b_ac, b_an, b_rs, b_rz, b_lc, b_ln, b_it, b_if, b_itt, b_iff, p_dSeq, p_eqB, p_neB, len_eT, len_eR, len_eV, isNone_eO, seq_eT, seq_eR, seq_eV, seq_eL, eO_some, eO_none, len_eL, ↓p_eqN, ↓p_neN, ↓p_ltN, ↓p_leN, ↓p_gtN, ↓p_geN, kk])
  rcases outer with ⟨d, h1, h2, h3⟩ | ⟨ρ', h1, ⟨r, c, v, x5, x6, x7, h2⟩, h3⟩
  · rw [← f] at h1
    have : isReal m w T = false := by
      cases q : isReal m w T with
      | false => rfl
      | true => exact absurd (real_iff_noClash.mp q) h3
    rw [this, ← h2]
    exact run_rt rfl (by simp only [bnd_some, bnd_none, p_dc, p_dv, lk_z, lk_s, st_z, st_s, un_z, un_s, wipe_n, wipe_c, p_d2, p_d1, p_dnil, p_dcons, p_dL, p_asB, p_asI, p_asL, p_asSeqL, p_asSeqT, p_bV, p_dB, p_bAnd, p_bOr, p_bNot, p_dIf, p_dAnd, p_dOr, p_dNot, p_dCh, p_bYes, p_gN, p_gT, p_gsNil, p_gsCons, p_dNx, p_dRet, p_dSet, p_dIfS, p_dAsg, p_dPar, p_dAug, p_dApp, p_dSetIx, p_nLst, p_nRep, p_nOf, p_dSetN, p_dParN1, p_dParNN, p_iSeq, p_iRng1, p_iRng2, p_oNo, p_oIx, p_dSl, p_asIx, p_opTup, p_opLst, p_lenT, p_lenL, p_lenS, p_tupT, p_tupL, p_add, p_sub, p_mul, p_lt, p_le, p_gt, p_ge, p_eqI, p_neI, p_isN, p_isnN, p_isB, p_isnB, p_isNone_n, p_isNone_i, p_isNone_t, p_isNone_l, p_appL, p_appT, b_mc, b_mn, b_ac, b_an, b_rs, b_rz, b_lc, b_ln, b_it, b_if, b_itt, b_iff, p_dSeq, p_eqB, p_neB, len_eT, len_eR, len_eV, isNone_eO, seq_eT, seq_eR, seq_eV, seq_eL, eO_some, eO_none, len_eL, ↓p_eqN, ↓p_neN, ↓p_ltN, ↓p_leN, ↓p_gtN, ↓p_geN, Nat.reduceSub, hk, h1])
  · rw [← f] at h1
    have : isReal m w T = true := real_iff_noClash.mpr fun r c f l' hr hc hf hl e x y he hx hy n1 n2 =>
      h3 (r, c) (mem_kp.mpr ⟨hr, hc, by simp [he]⟩) (r, f) (List.mem_filter.mpr ⟨mem_kp.mpr ⟨hr, hf, by simp [hx]⟩, by simp [n1]⟩) (l', c) (List.mem_filter.mpr ⟨mem_kp.mpr ⟨hl, hc, by simp [hy]⟩, by simp [n2]⟩) e x y he hx hy
    rw [this]
    exact run_rt rfl (by simp only [bnd_some, bnd_none, p_dc, p_dv, lk_z, lk_s, st_z, st_s, un_z, un_s, wipe_n, wipe_c, p_d2, p_d1, p_dnil, p_dcons, p_dL, p_asB, p_asI, p_asL, p_asSeqL, p_asSeqT, p_bV, p_dB, p_bAnd, p_bOr, p_bNot, p_dIf, p_dAnd, p_dOr, p_dNot, p_dCh, p_bYes, p_gN, p_gT, p_gsNil, p_gsCons, p_dNx, p_dRet, p_dSet, p_dIfS, p_dAsg, p_dPar, p_dAug, p_dApp, p_dSetIx, p_nLst, p_nRep, p_nOf, p_dSetN, p_dParN1, p_dParNN, p_iSeq, p_iRng1, p_iRng2, p_oNo, p_oIx, p_dSl, p_asIx, p_opTup, p_opLst, p_lenT, p_lenL, p_lenS, p_tupT, p_tupL, p_add, p_sub, p_mul, p_lt, p_le, p_gt, p_ge, p_eqI, p_neI, p_isN, p_isnN, p_isB, p_isnB, p_isNone_n, p_isNone_i, p_isNone_t, p_isNone_l, p_appL, p_appT, b_mc, b_mn, b_ac, b_an, b_rs, b_rz, b_lc, b_ln, b_it, b_if, b_itt, b_iff, p_dSeq, p_eqB, p_neB, len_eT, len_eR, len_eV, isNone_eO, seq_eT, seq_eR, seq_eV, seq_eL, eO_some, eO_none, len_eL, ↓p_eqN, ↓p_neN, ↓p_ltN, ↓p_leN, ↓p_gtN, ↓p_geN, Nat.reduceSub, hk, h1])
end Mi
namespace Mi
open DL
/-- over a range, by an invariant, with returns -/
theorem for_rq {g : DG} {b : DS} (e : Nat → D) (P : Nat → Rho → Prop) (Q : D → Prop) (n : Nat) (hs : ∀ i, i < n → ∀ ρ, P i ρ → ∃ ρ1, g (e i) ρ = some ρ1 ∧ ((∃ d, b ρ1 = some (.rt d) ∧ Q d) ∨ ∃ ρ2, b ρ1 = some (.nx ρ2) ∧ P (i + 1) ρ2)) {ρ : Rho} (h : P 0 ρ) :
    (∃ d, forL g b ((List.range n).map e) ρ = some (.rt d) ∧ Q d) ∨ ∃ ρ', forL g b ((List.range n).map e) ρ = some (.nx ρ') ∧ P n ρ' := by
  have gen : ∀ (k s : Nat) (ρ : Rho), s + k = n → P s ρ → (∃ d, forL g b ((List.range' s k).map e) ρ = some (.rt d) ∧ Q d) ∨ ∃ ρ', forL g b ((List.range' s k).map e) ρ = some (.nx ρ') ∧ P n ρ' := by
    intro k
    induction k with
    | zero =>
      intro s ρ e' hp
      have : s = n := by omega
      subst this
      exact Or.inr ⟨ρ, rfl, hp⟩
    | succ k ih =>
      intro s ρ e' hp
      obtain ⟨ρ1, h1, h2⟩ := hs s (by omega) ρ hp
      rw [List.range'_succ, List.map_cons]
      rcases h2 with ⟨d, h2, h3⟩ | ⟨ρ2, h2, h3⟩
      · exact Or.inl ⟨d, by simp [forL, h1, h2], h3⟩
      · rcases ih (s + 1) ρ2 (by omega) h3 with ⟨d, h4, h5⟩ | ⟨ρ', h4, h5⟩
        · exact Or.inl ⟨d, by simp [forL, h1, h2, h4], h5⟩
        · exact Or.inr ⟨ρ', by simp [forL, h1, h2, h4], h5⟩
  rw [List.range_eq_range']
  exact gen n 0 ρ (by omega) h
def okP (S : List (Nat × Nat)) (p : Nat × Nat) : Bool := match S.getLast? with
  | none => true
  | some x => decide (ltP x p)
def nextL (l : List (Nat × Nat)) (S : List (Nat × Nat)) : List (List (Nat × Nat)) := (l.filter (okP S)).map fun p => S ++ [p]
def lev (l : List (Nat × Nat)) : Nat → List (List (Nat × Nat))
  | 0 => [[]]
  | s + 1 => (lev l s).flatMap (nextL l)
theorem okP_asc {l S : List (Nat × Nat)} {p : Nat × Nat} (h : AscIn l S) (hp : p ∈ l) (ho : okP S p = true) : AscIn l (S ++ [p]) := by
  refine ⟨?_, fun q hq => ?_⟩
  · rw [List.pairwise_append]
    refine ⟨h.1, List.pairwise_singleton _ _, fun a ha b hb => ?_⟩
    rw [List.mem_singleton.mp hb]
    rcases concat_cases S with q | ⟨S', x, q⟩
    · rw [q] at ha; cases ha
    · subst q
      unfold okP at ho
      rw [List.getLast?_concat] at ho
      have lx : ltP x p := of_decide_eq_true ho
      rcases List.mem_append.mp ha with z | z
      · exact ltP_trans ((List.pairwise_append.mp h.1).2.2 a z x (by simp)) lx
      · rw [List.mem_singleton.mp z]; exact lx
  · rcases List.mem_append.mp hq with z | z
    · exact h.2 q z
    · rw [List.mem_singleton.mp z]; exact hp
theorem asc_okP {l S : List (Nat × Nat)} {p : Nat × Nat} (h : AscIn l (S ++ [p])) : AscIn l S ∧ p ∈ l ∧ okP S p = true := by
  have h1 := List.pairwise_append.mp h.1
  refine ⟨⟨h1.1, fun q hq => h.2 q (List.mem_append_left _ hq)⟩, h.2 p (by simp), ?_⟩
  rcases concat_cases S with q | ⟨S', x, q⟩
  · subst q; rfl
  · subst q
    unfold okP
    rw [List.getLast?_concat]
    exact decide_eq_true (h1.2.2 x (by simp) p (by simp))
theorem mem_lev (l : List (Nat × Nat)) : ∀ (s : Nat) (S : List (Nat × Nat)), S ∈ lev l s ↔ AscIn l S ∧ S.length = s
  | 0, S => by
    unfold lev
    rw [List.mem_singleton]
    constructor
    · intro h; subst h; exact ⟨⟨List.Pairwise.nil, by simp⟩, rfl⟩
    · intro h; exact List.length_eq_zero_iff.mp h.2
  | s + 1, S => by
    unfold lev nextL
    simp only [List.mem_flatMap, List.mem_map, List.mem_filter]
    constructor
    · rintro ⟨S', h1, p, ⟨h2, h3⟩, rfl⟩
      obtain ⟨h4, h5⟩ := (mem_lev l s S').mp h1
      exact ⟨okP_asc h4 h2 h3, by simp [h5]⟩
    · rintro ⟨h1, h2⟩
      rcases concat_cases S with q | ⟨S', x, q⟩
      · subst q; simp at h2
      · subst q
        have := asc_okP h1
        exact ⟨S', (mem_lev l s S').mpr ⟨this.1, by simpa using h2⟩, x, this.2, rfl⟩
theorem lev_nodup {l : List (Nat × Nat)} (hl : l.Nodup) : ∀ s, (lev l s).Nodup
  | 0 => by unfold lev; simp
  | s + 1 => by
    unfold lev
    refine nodup_fm _ _ (lev_nodup hl s) (fun S _ => ?_) (fun S _ S' _ hne z h1 h2 => ?_)
    · have : (l.filter (okP S)).Nodup := List.Nodup.sublist List.filter_sublist hl
      exact List.Pairwise.map _ (fun a b (h : a ≠ b) q => h (by have := List.append_cancel_left q; simpa using this)) this
    · obtain ⟨p, _, e1⟩ := List.mem_map.mp h1
      obtain ⟨p', _, e2⟩ := List.mem_map.mp h2
      have := e1.trans e2.symm
      exact hne (List.append_inj_left' this rfl)
theorem lev_len {l : List (Nat × Nat)} (ha : l.Pairwise ltP) (h9 : l.length ≤ 9) (s : Nat) : (lev l s).length ≤ 512 := by
  have nd : l.Nodup := ha.imp fun {a b} (z : ltP a b) (e : a = b) => ltP_irrefl a (by rw [← e] at z; exact z)
  have := List.Nodup.length_le_of_subset (lev_nodup nd s) (l₂ := subs l) fun S hS => (mem_subs' ha S).mpr ((mem_lev l s S).mp hS).1
  rw [subs_len l.reverse l (by simp)] at this
  have l2 : (2 : Nat) ^ l.length ≤ 2 ^ 9 := Nat.pow_le_pow_right (by decide) h9
  omega
theorem eq_nilS (S : List (Nat × Nat)) : opEq (ePs S) (.tup []) = some (.bl S.isEmpty) := by
  have h1 : okD 60 (ePs S) = true := okDs_map (n := 59) eP S fun x _ => ok_eP 58 x
  rw [opEq_ok h1 rfl]
  cases S <;> rfl
theorem last_ePs (S : List (Nat × Nat)) (x : Nat × Nat) : opIx (ePs (S ++ [x])) (.int ((S ++ [x]).length - 1 : Int)) = some (eP x) := by
  have e : (((S ++ [x]).length : Nat) : Int) - 1 = ((S.length : Nat) : Int) := by simp
  rw [e]
  apply ixT
  simp
theorem Dv_spo {M m w : Nat} {T T' : Nat → Nat → Option Nat} (h : DvM M T) (h12 : 12 ∣ M) (hM : 6 * M ≤ 1000000000) (s : Spo m w T T') : DvM (6 * M) T' := by
  have h' := h.up (N := 6 * M) (by have := h.pos; omega) hM ⟨6, Nat.mul_comm _ _⟩
  rcases s with e | ⟨r, _, c, _, e, he, x, hx, q⟩
  · rw [e]; exact h'
  · refine ⟨h'.pos, hM, fun i j y hy => ?_⟩
    rw [q] at hy
    unfold put at hy
    by_cases z : i = r ∧ j = c
    · rw [if_pos z] at hy
      cases hy
      obtain ⟨k, hk⟩ := h.dvd r c e he
      have up : ∀ a, a ∣ 12 → a ∣ 6 * M := fun a ha => Nat.dvd_trans ha (Nat.dvd_trans h12 ⟨6, Nat.mul_comm _ _⟩)
      rcases hx with rfl | rfl | rfl | rfl | rfl | rfl | rfl | rfl
      · exact up _ (by decide)
      · exact up _ (by decide)
      · exact up _ (by decide)
      · exact up _ (by decide)
      · exact up _ (by decide)
      · exact up _ (by decide)
      · exact ⟨k * 3, by rw [hk]; ac_rfl⟩
      · exact ⟨k * 2, by rw [hk]; ac_rfl⟩
    · rw [if_neg z] at hy
      exact h'.dvd i j y hy
/-- but at the places D the entries are those of numbers -/
def Dev (m w : Nat) (R C : Nat → Nat) (T : Nat → Nat → Option Nat) (D : List (Nat × Nat)) : Prop := ∀ i j, i < m → j < w → ∀ e, T i j = some e → (i, j) ∉ D → Nat.lcm (R i) (C j) = e
theorem Dev.spo {m w : Nat} {R C : Nat → Nat} {T T' : Nat → Nat → Option Nat} {D : List (Nat × Nat)} (h : Dev m w R C T D) (s : Spo m w T T') : ∃ D', D'.length ≤ D.length + 1 ∧ Dev m w R C T' D' := by
  rcases s with e | ⟨r, _, c, _, e, he, x, hx, q⟩
  · rw [e]; exact ⟨D, by omega, h⟩
  · refine ⟨(r, c) :: D, by simp, fun i j hi hj y hy hn => ?_⟩
    rw [q] at hy
    unfold put at hy
    have hn1 : ¬ (i = r ∧ j = c) := fun z => hn (by rw [z.1, z.2]; exact List.mem_cons_self)
    rw [if_neg hn1] at hy
    exact h i j hi hj y hy fun z => hn (List.mem_cons_of_mem _ z)
theorem Dev.least {m w n : Nat} {R C : Nat → Nat} {T : Nat → Nat → Option Nat} {D : List (Nat × Nat)} (h : Dev m w R C T D) (hl : LeastW m w T n) : n ≤ D.length := by
  have asc := kp_asc w T m
  have ai : AscIn (kp m w T) ((kp m w T).filter fun p => decide (p ∈ D)) := ⟨List.Pairwise.sublist List.filter_sublist asc, fun p hp => (List.mem_filter.mp hp).1⟩
  have re : isReal m w (wo T ((kp m w T).filter fun p => decide (p ∈ D))) = true := real_of_sol (s := ((List.range m).map R, (List.range w).map C)) ⟨by simp, by simp, fun i j hi hj e he => by
    have := wo_some he
    show Nat.lcm (((List.range m).map R).getD i 0) (((List.range w).map C).getD j 0) = e
    rw [getD_rmap _ hi, getD_rmap _ hj]
    exact h i j hi hj e this.1 fun z => this.2 (List.mem_filter.mpr ⟨mem_kp.mpr ⟨hi, hj, by simp [this.1]⟩, decide_eq_true z⟩)⟩
  refine Nat.le_trans (hl.2 _ ai re) (List.Nodup.length_le_of_subset ai.nodup fun p hp => of_decide_eq_true (List.mem_filter.mp hp).2)
theorem wo_nil (T : Nat → Nat → Option Nat) : wo T [] = T := by
  funext i j
  unfold wo
  rw [if_neg (by simp)]
theorem least_zero {m w n : Nat} {T : Nat → Nat → Option Nat} (hl : LeastW m w T n) : n = 0 ↔ isReal m w T = true := by
  constructor
  · intro h
    obtain ⟨S, _, h2, h3⟩ := hl.1
    have : S = [] := List.length_eq_zero_iff.mp (by omega)
    rw [this, wo_nil] at h2
    exact h2
  · intro h
    have := hl.2 [] ⟨List.Pairwise.nil, by simp⟩ (by rw [wo_nil]; exact h)
    simp at this
    exact this
theorem law_least_m {m w : Nat} {T : Nat → Nat → Option Nat} (h : Tab m w T) (hB : ∀ i j e, T i j = some e → e ≤ 1000000000) (h9 : (kp m w T).length ≤ 9) : ∃ n, LeastW m w T n ∧ m_law_least [eT m w T] = some (.int n) := by
  let l := kp m w T
  have asc : l.Pairwise ltP := kp_asc w T m
  have hm1 := h.m1
  have hw1 := h.w1
  have hk : m_law_known [eT m w T] = some (.lst (l.map (eK T))) := known_m h
  have kl : l.length ≤ 9 := h9
  let pl : D := .lst (l.map eP)
  have asP : asSeq pl = some (l.map eP) := rfl
  let eSS : List (List (Nat × Nat)) → D := fun L => .lst (L.map ePs)
  have asS : ∀ L, asSeq (eSS L) = some (L.map ePs) := fun _ => rfl
  have c1 : m_law_least_c1 [some (eT m w T), none, none, none, none, none, none, none, none, none, none, none, none] = some pl := by
    unfold m_law_least_c1
    refine comp_all (eK T) eP l (by simp only [bnd_some, bnd_none, p_dc, p_dv, lk_z, lk_s, st_z, st_s, un_z, un_s, wipe_n, wipe_c, p_d2, p_d1, p_dnil, p_dcons, p_dL, p_asB, p_asI, p_asL, p_asSeqL, p_asSeqT, p_bV, p_dB, p_bAnd, p_bOr, p_bNot, p_dIf, p_dAnd, p_dOr, p_dNot, p_dCh, p_bYes, p_gN, p_gT, p_gsNil, p_gsCons, p_dNx, p_dRet, p_dSet, p_dIfS, p_dAsg, p_dPar, p_dAug, p_dApp, p_dSetIx, p_nLst, p_nRep, p_nOf, p_dSetN, p_dParN1, p_dParNN, p_iSeq, p_iRng1, p_iRng2, p_oNo, p_oIx, p_dSl, p_asIx, p_opTup, p_opLst, p_lenT, p_lenL, p_lenS, p_tupT, p_tupL, p_add, p_sub, p_mul, p_lt, p_le, p_gt, p_ge, p_eqI, p_neI, p_isN, p_isnN, p_isB, p_isnB, p_isNone_n, p_isNone_i, p_isNone_t, p_isNone_l, p_appL, p_appT, b_mc, b_mn, b_ac, b_an, b_rs, b_rz, b_lc, b_ln, b_it, b_if, b_itt, b_iff, p_dSeq, p_eqB, p_neB, len_eT, len_eR, len_eV, isNone_eO, seq_eT, seq_eR, seq_eV, seq_eL, eO_some, eO_none, len_eL, ↓p_eqN, ↓p_neN, ↓p_ltN, ↓p_leN, ↓p_gtN, ↓p_geN, hk]) (by omega) ?_
    intro p _
    refine ⟨_, rfl, ?_⟩
    simp only [bnd_some, bnd_none, p_dc, p_dv, lk_z, lk_s, st_z, st_s, un_z, un_s, wipe_n, wipe_c, p_d2, p_d1, p_dnil, p_dcons, p_dL, p_asB, p_asI, p_asL, p_asSeqL, p_asSeqT, p_bV, p_dB, p_bAnd, p_bOr, p_bNot, p_dIf, p_dAnd, p_dOr, p_dNot, p_dCh, p_bYes, p_gN, p_gT, p_gsNil, p_gsCons, p_dNx, p_dRet, p_dSet, p_dIfS, p_dAsg, p_dPar, p_dAug, p_dApp, p_dSetIx, p_nLst, p_nRep, p_nOf, p_dSetN, p_dParN1, p_dParNN, p_iSeq, p_iRng1, p_iRng2, p_oNo, p_oIx, p_dSl, p_asIx, p_opTup, p_opLst, p_lenT, p_lenL, p_lenS, p_tupT, p_tupL, p_add, p_sub, p_mul, p_lt, p_le, p_gt, p_ge, p_eqI, p_neI, p_isN, p_isnN, p_isB, p_isnB, p_isNone_n, p_isNone_i, p_isNone_t, p_isNone_l, p_appL, p_appT, b_mc, b_mn, b_ac, b_an, b_rs, b_rz, b_lc, b_ln, b_it, b_if, b_itt, b_iff, p_dSeq, p_eqB, p_neB, len_eT, len_eR, len_eV, isNone_eO, seq_eT, seq_eR, seq_eV, seq_eL, eO_some, eO_none, len_eL, ↓p_eqN, ↓p_neN, ↓p_ltN, ↓p_leN, ↓p_gtN, ↓p_geN, Nat.reduceAdd, Nat.reduceLeDiff]
    rfl
  -- the table without S
  have rows : ∀ (S : List (Nat × Nat)) (f s x6 x7 x8 x9 x10 x11 x12 : Option D), ∃ ρ', forL (gT (gsCons (gN 6) (gsCons (gN 7) gsNil))) m_law_least_b1 ((List.range m).map fun i => .tup [.int (i : Nat), eR w (T i)]) [some (eT m w T), some pl, f, s, some (ePs S), some (.lst []), x6, x7, x8, none, none, none, none] = some (.nx ρ') ∧
      ∃ x6 x7, ρ' = [some (eT m w T), some pl, f, s, some (ePs S), some (.lst ((List.range m).map fun i => eR w (wo T S i))), x6, x7, x8, none, none, none, none] := by
    intro S f s x6 x7 x8 x9 x10 x11 x12
    refine for_range _ (fun i ρ => ∃ x6 x7, ρ = [some (eT m w T), some pl, f, s, some (ePs S), some (.lst ((List.range i).map fun i => eR w (wo T S i))), x6, x7, x8, none, none, none, none]) m ?_ ⟨x6, x7, rfl⟩
    rintro i hi ρ ⟨x6, x7, rfl⟩
    have c2 : m_law_least_c2 [some (eT m w T), some pl, f, s, some (ePs S), some (.lst ((List.range i).map fun i => eR w (wo T S i))), some (.int i), some (eR w (T i)), x8, none, none, none, none] = some (.lst ((List.range w).map fun j => eO (wo T S i j))) := by
      unfold m_law_least_c2
      refine comp_all (fun j => .tup [.int (j : Nat), eO (T i j)]) _ (List.range w) (en_eR (by simp only [bnd_some, bnd_none, p_dc, p_dv, lk_z, lk_s, st_z, st_s, un_z, un_s, wipe_n, wipe_c, p_d2, p_d1, p_dnil, p_dcons, p_dL, p_asB, p_asI, p_asL, p_asSeqL, p_asSeqT, p_bV, p_dB, p_bAnd, p_bOr, p_bNot, p_dIf, p_dAnd, p_dOr, p_dNot, p_dCh, p_bYes, p_gN, p_gT, p_gsNil, p_gsCons, p_dNx, p_dRet, p_dSet, p_dIfS, p_dAsg, p_dPar, p_dAug, p_dApp, p_dSetIx, p_nLst, p_nRep, p_nOf, p_dSetN, p_dParN1, p_dParNN, p_iSeq, p_iRng1, p_iRng2, p_oNo, p_oIx, p_dSl, p_asIx, p_opTup, p_opLst, p_lenT, p_lenL, p_lenS, p_tupT, p_tupL, p_add, p_sub, p_mul, p_lt, p_le, p_gt, p_ge, p_eqI, p_neI, p_isN, p_isnN, p_isB, p_isnB, p_isNone_n, p_isNone_i, p_isNone_t, p_isNone_l, p_appL, p_appT, b_mc, b_mn, b_ac, b_an, b_rs, b_rz, b_lc, b_ln, b_it, b_if, b_itt, b_iff, p_dSeq, p_eqB, p_neB, len_eT, len_eR, len_eV, isNone_eO, seq_eT, seq_eR, seq_eV, seq_eL, eO_some, eO_none, len_eL, ↓p_eqN, ↓p_neN, ↓p_ltN, ↓p_leN, ↓p_gtN, ↓p_geN])) (by simp; omega) ?_
      intro j _
      refine ⟨_, rfl, ?_⟩
      have i1 : opIn (.tup [.int (i : Nat), .int (j : Nat)]) (ePs S) = some (.bl (decide ((i, j) ∈ S))) := in_ePs (i, j) S
      by_cases z : (i, j) ∈ S
      · simp only [bnd_some, bnd_none, p_dc, p_dv, lk_z, lk_s, st_z, st_s, un_z, un_s, wipe_n, wipe_c, p_d2, p_d1, p_dnil, p_dcons, p_dL, p_asB, p_asI, p_asL, p_asSeqL, p_asSeqT, p_bV, p_dB, p_bAnd, p_bOr, p_bNot, p_dIf, p_dAnd, p_dOr, p_dNot, p_dCh, p_bYes, p_gN, p_gT, p_gsNil, p_gsCons, p_dNx, p_dRet, p_dSet, p_dIfS, p_dAsg, p_dPar, p_dAug, p_dApp, p_dSetIx, p_nLst, p_nRep, p_nOf, p_dSetN, p_dParN1, p_dParNN, p_iSeq, p_iRng1, p_iRng2, p_oNo, p_oIx, p_dSl, p_asIx, p_opTup, p_opLst, p_lenT, p_lenL, p_lenS, p_tupT, p_tupL, p_add, p_sub, p_mul, p_lt, p_le, p_gt, p_ge, p_eqI, p_neI, p_isN, p_isnN, p_isB, p_isnB, p_isNone_n, p_isNone_i, p_isNone_t, p_isNone_l, p_appL, p_appT, b_mc, b_mn, b_ac, b_an, b_rs, b_rz, b_lc, b_ln, b_it, b_if, b_itt, b_iff, p_dSeq, p_eqB, p_neB, len_eT, len_eR, len_eV, isNone_eO, seq_eT, seq_eR, seq_eV, seq_eL, eO_some, eO_none, len_eL, ↓p_eqN, ↓p_neN, ↓p_ltN, ↓p_leN, ↓p_gtN, ↓p_geN, Nat.reduceAdd, Nat.reduceLeDiff, i1, decide_eq_true z, wo, if_pos z, eO_none]
      · simp only [bnd_some, bnd_none, p_dc, p_dv, lk_z, lk_s, st_z, st_s, un_z, un_s, wipe_n, wipe_c, p_d2, p_d1, p_dnil, p_dcons, p_dL, p_asB, p_asI, p_asL, p_asSeqL, p_asSeqT, p_bV, p_dB, p_bAnd, p_bOr, p_bNot, p_dIf, p_dAnd, p_dOr, p_dNot, p_dCh, p_bYes, p_gN, p_gT, p_gsNil, p_gsCons, p_dNx, p_dRet, p_dSet, p_dIfS, p_dAsg, p_dPar, p_dAug, p_dApp, p_dSetIx, p_nLst, p_nRep, p_nOf, p_dSetN, p_dParN1, p_dParNN, p_iSeq, p_iRng1, p_iRng2, p_oNo, p_oIx, p_dSl, p_asIx, p_opTup, p_opLst, p_lenT, p_lenL, p_lenS, p_tupT, p_tupL, p_add, p_sub, p_mul, p_lt, p_le, p_gt, p_ge, p_eqI, p_neI, p_isN, p_isnN, p_isB, p_isnB, p_isNone_n, p_isNone_i, p_isNone_t, p_isNone_l, p_appL, p_appT, b_mc, b_mn, b_ac, b_an, b_rs, b_rz, b_lc, b_ln, b_it, b_if, b_itt, b_iff, p_dSeq, p_eqB, p_neB, len_eT, len_eR, len_eV, isNone_eO, seq_eT, seq_eR, seq_eV, seq_eL, eO_some, eO_none, len_eL, ↓p_eqN, ↓p_neN, ↓p_ltN, ↓p_leN, ↓p_gtN, ↓p_geN, Nat.reduceAdd, Nat.reduceLeDiff, i1, decide_eq_false z, wo, if_neg z]
    have hl : ((List.range i).map fun i => eR w (wo T S i)).length < 16777216 := by simp; omega
    refine ⟨_, rfl, [some (eT m w T), some pl, f, s, some (ePs S), some (.lst ((List.range (i + 1)).map fun i => eR w (wo T S i))), some (.int i), some (eR w (T i)), x8, none, none, none, none], ?_, _, _, rfl⟩
    rw [List.range_succ, List.map_append]
    simp only [m_law_least_b1, bnd_some, bnd_none, p_dc, p_dv, lk_z, lk_s, st_z, st_s, un_z, un_s, wipe_n, wipe_c, p_d2, p_d1, p_dnil, p_dcons, p_dL, p_asB, p_asI, p_asL, p_asSeqL, p_asSeqT, p_bV, p_dB, p_bAnd, p_bOr, p_bNot, p_dIf, p_dAnd, p_dOr, p_dNot, p_dCh, p_bYes, p_gN, p_gT, p_gsNil, p_gsCons, p_dNx, p_dRet, p_dSet, p_dIfS, p_dAsg, p_dPar, p_dAug, p_dApp, p_dSetIx, p_nLst, p_nRep, p_nOf, p_dSetN, p_dParN1, p_dParNN, p_iSeq, p_iRng1, p_iRng2, p_oNo, p_oIx, p_dSl, p_asIx, p_opTup, p_opLst, p_lenT, p_lenL, p_lenS, p_tupT, p_tupL, p_add, p_sub, p_mul, p_lt, p_le, p_gt, p_ge, p_eqI, p_neI, p_isN, p_isnN, p_isB, p_isnB, p_isNone_n, p_isNone_i, p_isNone_t, p_isNone_l, p_appL, p_appT, b_mc, b_mn, b_ac, b_an, b_rs, b_rz, b_lc, b_ln, b_it, b_if, b_itt, b_iff, p_dSeq, p_eqB, p_neB, len_eT, len_eR, len_eV, isNone_eO, seq_eT, seq_eR, seq_eV, seq_eL, eO_some, eO_none, len_eL, ↓p_eqN, ↓p_neN, ↓p_ltN, ↓p_leN, ↓p_gtN, ↓p_geN, c2, if_pos hl]
    rfl
  -- the sets of one size
  have tryS : ∀ (s : Nat) (x4 x5 x6 x7 x8 : Option D), let ρ0 : Rho := [some (eT m w T), some pl, some (eSS (lev l s)), some (.int s), x4, x5, x6, x7, x8, none, none, none, none]
      (∃ d, forL (gN 4) m_law_least_b2 ((lev l s).map ePs) ρ0 = some (.rt d) ∧ (d = .int s ∧ ∃ S ∈ lev l s, isReal m w (wo T S) = true)) ∨
      (∃ ρ', forL (gN 4) m_law_least_b2 ((lev l s).map ePs) ρ0 = some (.nx ρ') ∧ (∃ x4 x5 x6 x7, ρ' = [some (eT m w T), some pl, some (eSS (lev l s)), some (.int s), x4, x5, x6, x7, x8, none, none, none, none]) ∧ ∀ S ∈ lev l s, isReal m w (wo T S) = false) := by
    intro s x4 x5 x6 x7 x8 ρ0
    refine for_q ePs (fun ρ => ∃ x4 x5 x6 x7, ρ = [some (eT m w T), some pl, some (eSS (lev l s)), some (.int s), x4, x5, x6, x7, x8, none, none, none, none]) _ _ (lev l s) ρ0 ?_ ⟨_, _, _, _, rfl⟩
    rintro S hS ρ ⟨x4, x5, x6, x7, rfl⟩
    obtain ⟨ρ', q1, y6, y7, q2⟩ := rows S (some (eSS (lev l s))) (some (.int s)) x6 x7 x8 none none none none
    subst q2
    have f := (for_eq (it := iEn (dcons (dv 0) dnil)) (ρ := [some (eT m w T), some pl, some (eSS (lev l s)), some (.int s), some (ePs S), some (.lst []), x6, x7, x8, none, none, none, none]) (en_eT (by simp only [bnd_some, bnd_none, p_dc, p_dv, lk_z, lk_s, st_z, st_s, un_z, un_s, wipe_n, wipe_c, p_d2, p_d1, p_dnil, p_dcons, p_dL, p_asB, p_asI, p_asL, p_asSeqL, p_asSeqT, p_bV, p_dB, p_bAnd, p_bOr, p_bNot, p_dIf, p_dAnd, p_dOr, p_dNot, p_dCh, p_bYes, p_gN, p_gT, p_gsNil, p_gsCons, p_dNx, p_dRet, p_dSet, p_dIfS, p_dAsg, p_dPar, p_dAug, p_dApp, p_dSetIx, p_nLst, p_nRep, p_nOf, p_dSetN, p_dParN1, p_dParNN, p_iSeq, p_iRng1, p_iRng2, p_oNo, p_oIx, p_dSl, p_asIx, p_opTup, p_opLst, p_lenT, p_lenL, p_lenS, p_tupT, p_tupL, p_add, p_sub, p_mul, p_lt, p_le, p_gt, p_ge, p_eqI, p_neI, p_isN, p_isnN, p_isB, p_isnB, p_isNone_n, p_isNone_i, p_isNone_t, p_isNone_l, p_appL, p_appT, b_mc, b_mn, b_ac, b_an, b_rs, b_rz, b_lc, b_ln, b_it, b_if, b_itt, b_iff, p_dSeq, p_eqB, p_neB, len_eT, len_eR, len_eV, isNone_eO, seq_eT, seq_eR, seq_eV, seq_eL, eO_some, eO_none, len_eL, ↓p_eqN, ↓p_neN, ↓p_ltN, ↓p_leN, ↓p_gtN, ↓p_geN]))).trans q1
    have rl := real2_m (h.wo S) fun i j e q => hB i j e (wo_some q).1
    have et : D.tup ((List.range m).map fun i => eR w (wo T S i)) = eT m w (wo T S) := rfl
    refine ⟨_, rfl, ?_⟩
    cases z : isReal m w (wo T S) with
    | true =>
      left
      rw [z] at rl
      exact ⟨.int s, by simp only [m_law_least_b2, bnd_some, bnd_none, p_dc, p_dv, lk_z, lk_s, st_z, st_s, un_z, un_s, wipe_n, wipe_c, p_d2, p_d1, p_dnil, p_dcons, p_dL, p_asB, p_asI, p_asL, p_asSeqL, p_asSeqT, p_bV, p_dB, p_bAnd, p_bOr, p_bNot, p_dIf, p_dAnd, p_dOr, p_dNot, p_dCh, p_bYes, p_gN, p_gT, p_gsNil, p_gsCons, p_dNx, p_dRet, p_dSet, p_dIfS, p_dAsg, p_dPar, p_dAug, p_dApp, p_dSetIx, p_nLst, p_nRep, p_nOf, p_dSetN, p_dParN1, p_dParNN, p_iSeq, p_iRng1, p_iRng2, p_oNo, p_oIx, p_dSl, p_asIx, p_opTup, p_opLst, p_lenT, p_lenL, p_lenS, p_tupT, p_tupL, p_add, p_sub, p_mul, p_lt, p_le, p_gt, p_ge, p_eqI, p_neI, p_isN, p_isnN, p_isB, p_isnB, p_isNone_n, p_isNone_i, p_isNone_t, p_isNone_l, p_appL, p_appT, b_mc, b_mn, b_ac, b_an, b_rs, b_rz, b_lc, b_ln, b_it, b_if, b_itt, b_iff, p_dSeq, p_eqB, p_neB, len_eT, len_eR, len_eV, isNone_eO, seq_eT, seq_eR, seq_eV, seq_eL, eO_some, eO_none, len_eL, ↓p_eqN, ↓p_neN, ↓p_ltN, ↓p_leN, ↓p_gtN, ↓p_geN, Nat.zero_le, f, et, rl], rfl, S, hS, z⟩
    | false =>
      right
      rw [z] at rl
      refine ⟨[some (eT m w T), some pl, some (eSS (lev l s)), some (.int s), some (ePs S), some (.lst ((List.range m).map fun i => eR w (wo T S i))), y6, y7, x8, none, none, none, none], by simp only [m_law_least_b2, bnd_some, bnd_none, p_dc, p_dv, lk_z, lk_s, st_z, st_s, un_z, un_s, wipe_n, wipe_c, p_d2, p_d1, p_dnil, p_dcons, p_dL, p_asB, p_asI, p_asL, p_asSeqL, p_asSeqT, p_bV, p_dB, p_bAnd, p_bOr, p_bNot, p_dIf, p_dAnd, p_dOr, p_dNot, p_dCh, p_bYes, p_gN, p_gT, p_gsNil, p_gsCons, p_dNx, p_dRet, p_dSet, p_dIfS, p_dAsg, p_dPar, p_dAug, p_dApp, p_dSetIx, p_nLst, p_nRep, p_nOf, p_dSetN, p_dParN1, p_dParNN, p_iSeq, p_iRng1, p_iRng2, p_oNo, p_oIx, p_dSl, p_asIx, p_opTup, p_opLst, p_lenT, p_lenL, p_lenS, p_tupT, p_tupL, p_add, p_sub, p_mul, p_lt, p_le, p_gt, p_ge, p_eqI, p_neI, p_isN, p_isnN, p_isB, p_isnB, p_isNone_n, p_isNone_i, p_isNone_t, p_isNone_l, p_appL, p_appT, b_mc, b_mn, b_ac, b_an, b_rs, b_rz, b_lc, b_ln, b_it, b_if, b_itt, b_iff, p_dSeq, p_eqB, p_neB, len_eT, len_eR, len_eV, isNone_eO, seq_eT, seq_eR, seq_eV, seq_eL, eO_some, eO_none, len_eL, ↓p_eqN, ↓p_neN, ↓p_ltN, ↓p_leN, ↓p_gtN, ↓p_geN, Nat.zero_le, f, et, rl], ⟨_, _, _, _, rfl⟩, rfl⟩
  -- longer sets
  have longer : ∀ (s : Nat), s ≤ 9 → ∀ (x4 x5 x6 x7 : Option D), ∃ ρ', forL (gN 4) m_law_least_b3 ((lev l s).map ePs) [some (eT m w T), some pl, some (eSS (lev l s)), some (.int s), x4, x5, x6, x7, some (eSS []), none, none, none, none] = some (.nx ρ') ∧
      ∃ x4, ρ' = [some (eT m w T), some pl, some (eSS (lev l s)), some (.int s), x4, x5, x6, x7, some (eSS (lev l (s + 1))), none, none, none, none] := by
    intro s hs x4 x5 x6 x7
    refine for_pre ePs (fun pre ρ => ∃ x4, ρ = [some (eT m w T), some pl, some (eSS (lev l s)), some (.int s), x4, x5, x6, x7, some (eSS (pre.flatMap (nextL l))), none, none, none, none]) (lev l s) ?_ ⟨x4, rfl⟩
    rintro pre S r e ρ ⟨x4, rfl⟩
    have hS : S ∈ lev l s := by rw [e]; simp
    have hSl := ((mem_lev l s S).mp hS).2
    have c3 : m_law_least_c3 [some (eT m w T), some pl, some (eSS (lev l s)), some (.int s), some (ePs S), x5, x6, x7, some (eSS (pre.flatMap (nextL l))), none, none, none, none] = some (.lst ((l.filter (okP S)).map fun p => ePs (S ++ [p]))) := by
      unfold m_law_least_c3
      refine comp_if eP (okP S) _ l (by simp only [bnd_some, bnd_none, p_dc, p_dv, lk_z, lk_s, st_z, st_s, un_z, un_s, wipe_n, wipe_c, p_d2, p_d1, p_dnil, p_dcons, p_dL, p_asB, p_asI, p_asL, p_asSeqL, p_asSeqT, p_bV, p_dB, p_bAnd, p_bOr, p_bNot, p_dIf, p_dAnd, p_dOr, p_dNot, p_dCh, p_bYes, p_gN, p_gT, p_gsNil, p_gsCons, p_dNx, p_dRet, p_dSet, p_dIfS, p_dAsg, p_dPar, p_dAug, p_dApp, p_dSetIx, p_nLst, p_nRep, p_nOf, p_dSetN, p_dParN1, p_dParNN, p_iSeq, p_iRng1, p_iRng2, p_oNo, p_oIx, p_dSl, p_asIx, p_opTup, p_opLst, p_lenT, p_lenL, p_lenS, p_tupT, p_tupL, p_add, p_sub, p_mul, p_lt, p_le, p_gt, p_ge, p_eqI, p_neI, p_isN, p_isnN, p_isB, p_isnB, p_isNone_n, p_isNone_i, p_isNone_t, p_isNone_l, p_appL, p_appT, b_mc, b_mn, b_ac, b_an, b_rs, b_rz, b_lc, b_ln, b_it, b_if, b_itt, b_iff, p_dSeq, p_eqB, p_neB, len_eT, len_eR, len_eV, isNone_eO, seq_eT, seq_eR, seq_eV, seq_eL, eO_some, eO_none, len_eL, ↓p_eqN, ↓p_neN, ↓p_ltN, ↓p_leN, ↓p_gtN, ↓p_geN, asP]) (by omega) ?_
      intro p _
      refine ⟨_, rfl, ?_, fun _ => ?_⟩
      · rcases concat_cases S with q | ⟨S', x, q⟩
        · have e1 : opEq (ePs S) (.tup []) = some (.bl true) := by rw [eq_nilS, q]; rfl
          have e2 : okP S p = true := by rw [q]; rfl
          simp only [bnd_some, bnd_none, p_dc, p_dv, lk_z, lk_s, st_z, st_s, un_z, un_s, wipe_n, wipe_c, p_d2, p_d1, p_dnil, p_dcons, p_dL, p_asB, p_asI, p_asL, p_asSeqL, p_asSeqT, p_bV, p_dB, p_bAnd, p_bOr, p_bNot, p_dIf, p_dAnd, p_dOr, p_dNot, p_dCh, p_bYes, p_gN, p_gT, p_gsNil, p_gsCons, p_dNx, p_dRet, p_dSet, p_dIfS, p_dAsg, p_dPar, p_dAug, p_dApp, p_dSetIx, p_nLst, p_nRep, p_nOf, p_dSetN, p_dParN1, p_dParNN, p_iSeq, p_iRng1, p_iRng2, p_oNo, p_oIx, p_dSl, p_asIx, p_opTup, p_opLst, p_lenT, p_lenL, p_lenS, p_tupT, p_tupL, p_add, p_sub, p_mul, p_lt, p_le, p_gt, p_ge, p_eqI, p_neI, p_isN, p_isnN, p_isB, p_isnB, p_isNone_n, p_isNone_i, p_isNone_t, p_isNone_l, p_appL, p_appT, b_mc, b_mn, b_ac, b_an, b_rs, b_rz, b_lc, b_ln, b_it, b_if, b_itt, b_iff, p_dSeq, p_eqB, p_neB, len_eT, len_eR, len_eV, isNone_eO, seq_eT, seq_eR, seq_eV, seq_eL, eO_some, eO_none, len_eL, ↓p_eqN, ↓p_neN, ↓p_ltN, ↓p_leN, ↓p_gtN, ↓p_geN, Nat.zero_le, e1, e2]
        · have e1 : opEq (ePs S) (.tup []) = some (.bl false) := by rw [eq_nilS, q]; simp
          have ln : opLen [ePs S] = some (.int S.length) := by simp [ePs]
          have lx : opIx (ePs S) (.int ((S.length : Int) - 1)) = some (eP x) := by rw [q]; exact last_ePs S' x
          have e2 : okP S p = decide (ltP x p) := by unfold okP; rw [q, List.getLast?_concat]
          simp only [bnd_some, bnd_none, p_dc, p_dv, lk_z, lk_s, st_z, st_s, un_z, un_s, wipe_n, wipe_c, p_d2, p_d1, p_dnil, p_dcons, p_dL, p_asB, p_asI, p_asL, p_asSeqL, p_asSeqT, p_bV, p_dB, p_bAnd, p_bOr, p_bNot, p_dIf, p_dAnd, p_dOr, p_dNot, p_dCh, p_bYes, p_gN, p_gT, p_gsNil, p_gsCons, p_dNx, p_dRet, p_dSet, p_dIfS, p_dAsg, p_dPar, p_dAug, p_dApp, p_dSetIx, p_nLst, p_nRep, p_nOf, p_dSetN, p_dParN1, p_dParNN, p_iSeq, p_iRng1, p_iRng2, p_oNo, p_oIx, p_dSl, p_asIx, p_opTup, p_opLst, p_lenT, p_lenL, p_lenS, p_tupT, p_tupL, p_add, p_sub, p_mul, p_lt, p_le, p_gt, p_ge, p_eqI, p_neI, p_isN, p_isnN, p_isB, p_isnB, p_isNone_n, p_isNone_i, p_isNone_t, p_isNone_l, p_appL, p_appT, b_mc, b_mn, b_ac, b_an, b_rs, b_rz, b_lc, b_ln, b_it, b_if, b_itt, b_iff, p_dSeq, p_eqB, p_neB, len_eT, len_eR, len_eV, isNone_eO, seq_eT, seq_eR, seq_eV, seq_eL, eO_some, eO_none, len_eL, ↓p_eqN, ↓p_neN, ↓p_ltN, ↓p_leN, ↓p_gtN, ↓p_geN, Nat.zero_le, e1, ln, lx, gt_eP, e2]
      · simp only [bnd_some, bnd_none, p_dc, p_dv, lk_z, lk_s, st_z, st_s, un_z, un_s, wipe_n, wipe_c, p_d2, p_d1, p_dnil, p_dcons, p_dL, p_asB, p_asI, p_asL, p_asSeqL, p_asSeqT, p_bV, p_dB, p_bAnd, p_bOr, p_bNot, p_dIf, p_dAnd, p_dOr, p_dNot, p_dCh, p_bYes, p_gN, p_gT, p_gsNil, p_gsCons, p_dNx, p_dRet, p_dSet, p_dIfS, p_dAsg, p_dPar, p_dAug, p_dApp, p_dSetIx, p_nLst, p_nRep, p_nOf, p_dSetN, p_dParN1, p_dParNN, p_iSeq, p_iRng1, p_iRng2, p_oNo, p_oIx, p_dSl, p_asIx, p_opTup, p_opLst, p_lenT, p_lenL, p_lenS, p_tupT, p_tupL, p_add, p_sub, p_mul, p_lt, p_le, p_gt, p_ge, p_eqI, p_neI, p_isN, p_isnN, p_isB, p_isnB, p_isNone_n, p_isNone_i, p_isNone_t, p_isNone_l, p_appL, p_appT, b_mc, b_mn, b_ac, b_an, b_rs, b_rz, b_lc, b_ln, b_it, b_if, b_itt, b_iff, p_dSeq, p_eqB, p_neB, len_eT, len_eR, len_eV, isNone_eO, seq_eT, seq_eR, seq_eV, seq_eL, eO_some, eO_none, len_eL, ↓p_eqN, ↓p_neN, ↓p_ltN, ↓p_leN, ↓p_gtN, ↓p_geN, Nat.reduceAdd, Nat.reduceLeDiff, add_ePs S p (by omega)]
    have tot : (pre.flatMap (nextL l)).length + (nextL l S).length ≤ 512 := by
      have h1 := lev_len asc kl (s + 1)
      have h2 : lev l (s + 1) = (lev l s).flatMap (nextL l) := rfl
      rw [h2, e, List.flatMap_append, List.flatMap_cons, List.length_append, List.length_append] at h1
      omega
    have ad : opAdd (eSS (pre.flatMap (nextL l))) (.lst ((l.filter (okP S)).map fun p => ePs (S ++ [p]))) = some (eSS ((pre ++ [S]).flatMap (nextL l))) := by
      have hl : ((pre.flatMap (nextL l)).map ePs).length + ((l.filter (okP S)).map fun p => ePs (S ++ [p])).length ≤ 16777216 := by
        unfold nextL at tot
        rw [List.length_map] at tot
        rw [List.length_map, List.length_map]
        unfold nextL
        omega
      show opAdd (.lst _) (.lst _) = _
      rw [p_appL, if_pos hl]
      show _ = some (D.lst (((pre ++ [S]).flatMap (nextL l)).map ePs))
      rw [List.flatMap_append, List.map_append, List.flatMap_cons, List.flatMap_nil, List.append_nil]
      unfold nextL
      rw [List.map_map]
      rfl
    exact ⟨_, rfl, [some (eT m w T), some pl, some (eSS (lev l s)), some (.int s), some (ePs S), x5, x6, x7, some (eSS ((pre ++ [S]).flatMap (nextL l))), none, none, none, none], by simp only [m_law_least_b3, bnd_some, bnd_none, p_dc, p_dv, lk_z, lk_s, st_z, st_s, un_z, un_s, wipe_n, wipe_c, p_d2, p_d1, p_dnil, p_dcons, p_dL, p_asB, p_asI, p_asL, p_asSeqL, p_asSeqT, p_bV, p_dB, p_bAnd, p_bOr, p_bNot, p_dIf, p_dAnd, p_dOr, p_dNot, p_dCh, p_bYes, p_gN, p_gT, p_gsNil, p_gsCons, p_dNx, p_dRet, p_dSet, p_dIfS, p_dAsg, p_dPar, p_dAug, p_dApp, p_dSetIx, p_nLst, p_nRep, p_nOf, p_dSetN, p_dParN1, p_dParNN, p_iSeq, p_iRng1, p_iRng2, p_oNo, p_oIx, p_dSl, p_asIx, p_opTup, p_opLst, p_lenT, p_lenL, p_lenS, p_tupT, p_tupL, p_add, p_sub, p_mul, p_lt, p_le, p_gt, p_ge, p_eqI, p_neI, p_isN, p_isnN, p_isB, p_isnB, p_isNone_n, p_isNone_i, p_isNone_t, p_isNone_l, p_appL, p_appT, b_mc, b_mn, b_ac, b_an, b_rs, b_rz, b_lc, b_ln, b_it, b_if, b_itt, b_iff, p_dSeq, p_eqB, p_neB, len_eT, len_eR, len_eV, isNone_eO, seq_eT, seq_eR, seq_eV, seq_eL, eO_some, eO_none, len_eL, ↓p_eqN, ↓p_neN, ↓p_ltN, ↓p_leN, ↓p_gtN, ↓p_geN, c3, ad], _, rfl⟩
  have main := for_rq (g := gN 3) (b := m_law_least_b4) (fun i : Nat => D.int i) (fun s ρ => (∃ x3 x4 x5 x6 x7 x8, ρ = [some (eT m w T), some pl, some (eSS (lev l s)), x3, x4, x5, x6, x7, x8, none, none, none, none]) ∧ ∀ S, AscIn l S → isReal m w (wo T S) = true → s ≤ S.length)
    (fun d => ∃ n, d = .int (n : Nat) ∧ LeastW m w T n) (l.length + 1) (ρ := [some (eT m w T), some pl, some (eSS [[]]), none, none, none, none, none, none, none, none, none, none]) (by
      rintro s hs ρ ⟨⟨x3, x4, x5, x6, x7, x8, rfl⟩, hmin⟩
      refine ⟨_, rfl, ?_⟩
      have g1 := for_eq (it := iSeq (dv 2)) (g := gN 4) (b := m_law_least_b2) (ds := (lev l s).map ePs) (ρ := [some (eT m w T), some pl, some (eSS (lev l s)), some (.int s), x4, x5, x6, x7, x8, none, none, none, none]) (by simp only [bnd_some, bnd_none, p_dc, p_dv, lk_z, lk_s, st_z, st_s, un_z, un_s, wipe_n, wipe_c, p_d2, p_d1, p_dnil, p_dcons, p_dL, p_asB, p_asI, p_asL, p_asSeqL, p_asSeqT, p_bV, p_dB, p_bAnd, p_bOr, p_bNot, p_dIf, p_dAnd, p_dOr, p_dNot, p_dCh, p_bYes, p_gN, p_gT, p_gsNil, p_gsCons, p_dNx, p_dRet, p_dSet, p_dIfS, p_dAsg, p_dPar, p_dAug, p_dApp, p_dSetIx, p_nLst, p_nRep, p_nOf, p_dSetN, p_dParN1, p_dParNN, p_iSeq, p_iRng1, p_iRng2, p_oNo, p_oIx, p_dSl, p_asIx, p_opTup, p_opLst, p_lenT, p_lenL, p_lenS, p_tupT, p_tupL, p_add, p_sub, p_mul, p_lt, p_le, p_gt, p_ge, p_eqI, p_neI, p_isN, p_isnN, p_isB, p_isnB, p_isNone_n, p_isNone_i, p_isNone_t, p_isNone_l, p_appL, p_appT, b_mc, b_mn, b_ac, b_an, b_rs, b_rz, b_lc, b_ln, b_it, b_if, b_itt, b_iff, p_dSeq, p_eqB, p_neB, len_eT, len_eR, len_eV, isNone_eO, seq_eT, seq_eR, seq_eV, seq_eL, eO_some, eO_none, len_eL, ↓p_eqN, ↓p_neN, ↓p_ltN, ↓p_leN, ↓p_gtN, ↓p_geN, asS])
      rcases tryS s x4 x5 x6 x7 x8 with ⟨d, h1, h2, S, hS, hr⟩ | ⟨ρ', h1, ⟨y4, y5, y6, y7, h2⟩, h3⟩
      · left
        rw [← g1] at h1
        have hs2 := (mem_lev l s S).mp hS
        refine ⟨d, by simp only [m_law_least_b4, bnd_some, bnd_none, p_dc, p_dv, lk_z, lk_s, st_z, st_s, un_z, un_s, wipe_n, wipe_c, p_d2, p_d1, p_dnil, p_dcons, p_dL, p_asB, p_asI, p_asL, p_asSeqL, p_asSeqT, p_bV, p_dB, p_bAnd, p_bOr, p_bNot, p_dIf, p_dAnd, p_dOr, p_dNot, p_dCh, p_bYes, p_gN, p_gT, p_gsNil, p_gsCons, p_dNx, p_dRet, p_dSet, p_dIfS, p_dAsg, p_dPar, p_dAug, p_dApp, p_dSetIx, p_nLst, p_nRep, p_nOf, p_dSetN, p_dParN1, p_dParNN, p_iSeq, p_iRng1, p_iRng2, p_oNo, p_oIx, p_dSl, p_asIx, p_opTup, p_opLst, p_lenT, p_lenL, p_lenS, p_tupT, p_tupL, p_add, p_sub, p_mul, p_lt, p_le, p_gt, p_ge, p_eqI, p_neI, p_isN, p_isnN, p_isB, p_isnB, p_isNone_n, p_isNone_i, p_isNone_t, p_isNone_l, p_appL, p_appT, b_mc, b_mn, b_ac, b_an, b_rs, b_rz, b_lc, b_ln, b_it, b_if, b_itt, b_iff, p_dSeq, p_eqB, p_neB, len_eT, len_eR, len_eV, isNone_eO, seq_eT, seq_eR, seq_eV, seq_eL, eO_some, eO_none, len_eL, ↓p_eqN, ↓p_neN, ↓p_ltN, ↓p_leN, ↓p_gtN, ↓p_geN, h1], s, h2, ⟨S, hs2.1, hr, hs2.2⟩, hmin⟩
      · right
        rw [← g1] at h1
        subst h2
        obtain ⟨ρ2, h4, z4, h5⟩ := longer s (by omega) y4 y5 y6 y7
        subst h5
        have e0 : D.lst [] = eSS [] := rfl
        have g2 := (for_eq (it := iSeq (dv 2)) (ρ := [some (eT m w T), some pl, some (eSS (lev l s)), some (.int s), y4, y5, y6, y7, some (eSS []), none, none, none, none]) (by simp only [bnd_some, bnd_none, p_dc, p_dv, lk_z, lk_s, st_z, st_s, un_z, un_s, wipe_n, wipe_c, p_d2, p_d1, p_dnil, p_dcons, p_dL, p_asB, p_asI, p_asL, p_asSeqL, p_asSeqT, p_bV, p_dB, p_bAnd, p_bOr, p_bNot, p_dIf, p_dAnd, p_dOr, p_dNot, p_dCh, p_bYes, p_gN, p_gT, p_gsNil, p_gsCons, p_dNx, p_dRet, p_dSet, p_dIfS, p_dAsg, p_dPar, p_dAug, p_dApp, p_dSetIx, p_nLst, p_nRep, p_nOf, p_dSetN, p_dParN1, p_dParNN, p_iSeq, p_iRng1, p_iRng2, p_oNo, p_oIx, p_dSl, p_asIx, p_opTup, p_opLst, p_lenT, p_lenL, p_lenS, p_tupT, p_tupL, p_add, p_sub, p_mul, p_lt, p_le, p_gt, p_ge, p_eqI, p_neI, p_isN, p_isnN, p_isB, p_isnB, p_isNone_n, p_isNone_i, p_isNone_t, p_isNone_l, p_appL, p_appT, b_mc, b_mn, b_ac, b_an, b_rs, b_rz, b_lc, b_ln, b_it, b_if, b_itt, b_iff, p_dSeq, p_eqB, p_neB, len_eT, len_eR, len_eV, isNone_eO, seq_eT, seq_eR, seq_eV, seq_eL, eO_some, eO_none, len_eL, ↓p_eqN, ↓p_neN, ↓p_ltN, ↓p_leN, ↓p_gtN, ↓p_geN, asS])).trans h4
        refine ⟨[some (eT m w T), some pl, some (eSS (lev l (s + 1))), some (.int s), z4, y5, y6, y7, some (eSS (lev l (s + 1))), none, none, none, none], by simp only [m_law_least_b4, bnd_some, bnd_none, p_dc, p_dv, lk_z, lk_s, st_z, st_s, un_z, un_s, wipe_n, wipe_c, p_d2, p_d1, p_dnil, p_dcons, p_dL, p_asB, p_asI, p_asL, p_asSeqL, p_asSeqT, p_bV, p_dB, p_bAnd, p_bOr, p_bNot, p_dIf, p_dAnd, p_dOr, p_dNot, p_dCh, p_bYes, p_gN, p_gT, p_gsNil, p_gsCons, p_dNx, p_dRet, p_dSet, p_dIfS, p_dAsg, p_dPar, p_dAug, p_dApp, p_dSetIx, p_nLst, p_nRep, p_nOf, p_dSetN, p_dParN1, p_dParNN, p_iSeq, p_iRng1, p_iRng2, p_oNo, p_oIx, p_dSl, p_asIx, p_opTup, p_opLst, p_lenT, p_lenL, p_lenS, p_tupT, p_tupL, p_add, p_sub, p_mul, p_lt, p_le, p_gt, p_ge, p_eqI, p_neI, p_isN, p_isnN, p_isB, p_isnB, p_isNone_n, p_isNone_i, p_isNone_t, p_isNone_l, p_appL, p_appT, b_mc, b_mn, b_ac, b_an, b_rs, b_rz, b_lc, b_ln, b_it, b_if, b_itt, b_iff, p_dSeq, p_eqB, p_neB, len_eT, len_eR, len_eV, isNone_eO, seq_eT, seq_eR, seq_eV, seq_eL, eO_some, eO_none, len_eL, ↓p_eqN, ↓p_neN, ↓p_ltN, ↓p_leN, ↓p_gtN, ↓p_geN, h1, Nat.zero_le, e0, g2], ⟨_, _, _, _, _, _, rfl⟩, fun S hS hr => ?_⟩
        have := hmin S hS hr
        by_cases q : S.length = s
        · have := h3 S ((mem_lev l s S).mpr ⟨hS, q⟩)
          rw [hr] at this
          cases this
        · omega) ⟨⟨_, _, _, _, _, _, rfl⟩, fun S _ _ => Nat.zero_le _⟩
  have e0 : D.lst [.tup []] = eSS [[]] := rfl
  have c : ((l.length : Nat) : Int) + 1 = ((l.length + 1 : Nat) : Int) := by omega
  have lnp : opLen [pl] = some (.int l.length) := by simp [pl]
  have f := for_eq (it := iRng1 (dcons (d2 opAdd (dL opLen (dcons (dv 1) dnil)) (dc (.int 1))) dnil)) (g := gN 3) (b := m_law_least_b4) (ds := (List.range (l.length + 1)).map fun i : Nat => D.int i) (ρ := [some (eT m w T), some pl, some (eSS [[]]), none, none, none, none, none, none, none, none, none, none]) (by simp only [bnd_some, bnd_none, p_dc, p_dv, lk_z, lk_s, st_z, st_s, un_z, un_s, wipe_n, wipe_c, p_d2, p_d1, p_dnil, p_dcons, p_dL, p_asB, p_asI, p_asL, p_asSeqL, p_asSeqT, p_bV, p_dB, p_bAnd, p_bOr, p_bNot, p_dIf, p_dAnd, p_dOr, p_dNot, p_dCh, p_bYes, p_gN, p_gT, p_gsNil, p_gsCons, p_dNx, p_dRet, p_dSet, p_dIfS, p_dAsg, p_dPar, p_dAug, p_dApp, p_dSetIx, p_nLst, p_nRep, p_nOf, p_dSetN, p_dParN1, p_dParNN, p_iSeq, p_iRng1, p_iRng2, p_oNo, p_oIx, p_dSl, p_asIx, p_opTup, p_opLst, p_lenT, p_lenL, p_lenS, p_tupT, p_tupL, p_add, p_sub, p_mul, p_lt, p_le, p_gt, p_ge, p_eqI, p_neI, p_isN, p_isnN, p_isB, p_isnB, p_isNone_n, p_isNone_i, p_isNone_t, p_isNone_l, p_appL, p_appT, b_mc, b_mn, b_ac, b_an, b_rs, b_rz, b_lc, b_ln, b_it, b_if, b_itt, b_iff, p_dSeq, p_eqB, p_neB, len_eT, len_eR, len_eV, isNone_eO, seq_eT, seq_eR, seq_eV, seq_eL, eO_some, eO_none, len_eL, ↓p_eqN, ↓p_neN, ↓p_ltN, ↓p_leN, ↓p_gtN, ↓p_geN, lnp, c, rng1 (n := l.length + 1) (by omega)])
  rcases main with ⟨d, h1, n, h2, h3⟩ | ⟨ρ', h1, _, h2⟩
  · rw [← f] at h1
    refine ⟨n, h3, ?_⟩
    rw [← h2]
    exact run_rt rfl (by simp only [bnd_some, bnd_none, p_dc, p_dv, lk_z, lk_s, st_z, st_s, un_z, un_s, wipe_n, wipe_c, p_d2, p_d1, p_dnil, p_dcons, p_dL, p_asB, p_asI, p_asL, p_asSeqL, p_asSeqT, p_bV, p_dB, p_bAnd, p_bOr, p_bNot, p_dIf, p_dAnd, p_dOr, p_dNot, p_dCh, p_bYes, p_gN, p_gT, p_gsNil, p_gsCons, p_dNx, p_dRet, p_dSet, p_dIfS, p_dAsg, p_dPar, p_dAug, p_dApp, p_dSetIx, p_nLst, p_nRep, p_nOf, p_dSetN, p_dParN1, p_dParNN, p_iSeq, p_iRng1, p_iRng2, p_oNo, p_oIx, p_dSl, p_asIx, p_opTup, p_opLst, p_lenT, p_lenL, p_lenS, p_tupT, p_tupL, p_add, p_sub, p_mul, p_lt, p_le, p_gt, p_ge, p_eqI, p_neI, p_isN, p_isnN, p_isB, p_isnB, p_isNone_n, p_isNone_i, p_isNone_t, p_isNone_l, p_appL, p_appT, b_mc, b_mn, b_ac, b_an, b_rs, b_rz, b_lc, b_ln, b_it, b_if, b_itt, b_iff, p_dSeq, p_eqB, p_neB, len_eT, len_eR, len_eV, isNone_eO, seq_eT, seq_eR, seq_eV, seq_eL, eO_some, eO_none, len_eL, ↓p_eqN, ↓p_neN, ↓p_ltN, ↓p_leN, ↓p_gtN, ↓p_geN, Nat.reduceSub, Nat.reduceAdd, Nat.reduceLeDiff, Nat.zero_le, c1, e0, h1])
  · have ra := real_all m w T
    have := h2 _ ra.1 ra.2
    exfalso
    have e : (kp m w T).length = l.length := rfl
    omega
end Mi
namespace Mi
open DL
theorem k06_b1 {m w k : Nat} {R C : Nat → Nat} {T : Nat → Nat → Option Nat} {D0 : List (Nat × Nat)} (h : Tab m w T) (hB : ∀ i j e, T i j = some e → e ≤ 1000000000) (hm : m ≤ 3) (hw : w ≤ 3) (hD : Dev m w R C T D0) (hk : D0.length ≤ k) (a0 a1 a2 a3 a4 a5 a6 a7 a10 : Option D) :
    ∃ ρ', m_k06_b1 [a0, a1, a2, a3, a4, a5, a6, a7, some (eT m w T), some (.int k), a10] = some (.nx ρ') ∧ ∃ x8 x9 x10, ρ' = [a0, a1, a2, a3, a4, a5, a6, a7, x8, x9, x10] := by
  have k9 : (kp m w T).length ≤ 9 := Nat.le_trans (kp_len w T m) (Nat.mul_le_mul hm hw)
  obtain ⟨n, l1, e1⟩ := fewest_wrong_m h k9
  obtain ⟨n', l2, e2⟩ := law_least_m h hB k9
  have := l1.uniq l2
  subst this
  have ir := is_real_m h
  have nk : ¬ k < n := by
    have := hD.least l1
    omega
  have e3 : decide (n = 0) = isReal m w T := dec_eq (by rw [decide_eq_true_eq]; exact least_zero l1) Iff.rfl
  simp only [m_k06_b1, bnd_some, bnd_none, p_dc, p_dv, lk_z, lk_s, st_z, st_s, un_z, un_s, wipe_n, wipe_c, p_d2, p_d1, p_dnil, p_dcons, p_dL, p_asB, p_asI, p_asL, p_asSeqL, p_asSeqT, p_bV, p_dB, p_bAnd, p_bOr, p_bNot, p_dIf, p_dAnd, p_dOr, p_dNot, p_dCh, p_bYes, p_gN, p_gT, p_gsNil, p_gsCons, p_dNx, p_dRet, p_dSet, p_dIfS, p_dAsg, p_dPar, p_dAug, p_dApp, p_dSetIx, p_nLst, p_nRep, p_nOf, p_dSetN, p_dParN1, p_dParNN, p_iSeq, p_iRng1, p_iRng2, p_oNo, p_oIx, p_dSl, p_asIx, p_opTup, p_opLst, p_lenT, p_lenL, p_lenS, p_tupT, p_tupL, p_add, p_sub, p_mul, p_lt, p_le, p_gt, p_ge, p_eqI, p_neI, p_isN, p_isnN, p_isB, p_isnB, p_isNone_n, p_isNone_i, p_isNone_t, p_isNone_l, p_appL, p_appT, b_mc, b_mn, b_ac, b_an, b_rs, b_rz, b_lc, b_ln, b_it, b_if, b_itt, b_iff, p_dSeq, p_eqB, p_neB, len_eT, len_eR, len_eV, isNone_eO, seq_eT, seq_eR, seq_eV, seq_eL, eO_some, eO_none, len_eL, ↓p_eqN, ↓p_neN, ↓p_ltN, ↓p_leN, ↓p_gtN, ↓p_geN, e1, e2, decide_true, Bool.not_true, decide_eq_false nk, ↓z_nat, e3, ir]
  exact ⟨_, rfl, _, _, _, rfl⟩
theorem k06_b2 {ns : List Int} (hns : ns.length ≤ 63) {i : Nat} (hi : i < 5) (a2 a3 a4 a5 a6 a7 a8 a9 a10 : Option D) :
    ∃ ρ', m_k06_b2 [some (.scr ns), some (.int i), a2, a3, a4, a5, a6, a7, a8, a9, a10] = some (.nx ρ') ∧ ∃ b1 b2 b3 b4 b5 b6 b7 b8 b9 b10, ρ' = [some (.scr ns), b1, b2, b3, b4, b5, b6, b7, b8, b9, b10] := by
  obtain ⟨ds, hl, _, hds⟩ := digits_m hns (i := i) (count := 60) (base := 27720) (by omega) (by decide) (by decide) (by decide)
  have hds : m_law_digits [.scr ns, .int i, .int 60, .int 27720] = some (eL ds) := hds
  obtain ⟨m, m0, m5, em, m3⟩ : ∃ m : Nat, 0 < m ∧ m ≤ 5 ∧ (bnd (opMod (.int (ds.getD 50 0)) (.int 3)) fun y => opAdd (.int 1) y) = some (.int m) ∧ m ≤ 3 := by
    have h : opMod (.int (ds.getD 50 0)) (.int 3) = some (.int (ds.getD 50 0 % 3 : Nat)) := mod_n (b := 3) (by decide)
    refine ⟨1 + ds.getD 50 0 % 3, by omega, by omega, ?_, by omega⟩
    rw [h]
    rfl
  obtain ⟨w, w0, w5, ew, w3⟩ : ∃ m : Nat, 0 < m ∧ m ≤ 5 ∧ (bnd (opMod (.int (ds.getD 51 0)) (.int 3)) fun y => opAdd (.int 1) y) = some (.int m) ∧ m ≤ 3 := by
    have h : opMod (.int (ds.getD 51 0)) (.int 3) = some (.int (ds.getD 51 0 % 3 : Nat)) := mod_n (b := 3) (by decide)
    refine ⟨1 + ds.getD 51 0 % 3, by omega, by omega, ?_, by omega⟩
    rw [h]
    rfl
  have d50 : opIx (eL ds) (.int 50) = some (.int (ds.getD 50 0)) := ix_eL (k := 50) (by omega)
  have d51 : opIx (eL ds) (.int 51) = some (.int (ds.getD 51 0)) := ix_eL (k := 51) (by omega)
  obtain ⟨R, C, hR, hC, hnum⟩ := numbers_m (ds := ds) (by omega) m5 w5
  have bR : ∀ i, 0 < R i ∧ R i ≤ 1000000000 := fun i => by have := someL_pos (hR i); omega
  have bC : ∀ i, 0 < C i ∧ C i ≤ 1000000000 := fun i => by have := someL_pos (hC i); omega
  have s20 : opSl (some 20) none (eL ds) = some (eL (ds.drop 20)) := sl_eL (k := 20) (by omega)
  have s30 : opSl (some 30) none (eL ds) = some (eL (ds.drop 30)) := sl_eL (k := 30) (by omega)
  have s40 : opSl (some 40) none (eL ds) = some (eL (ds.drop 40)) := sl_eL (k := 40) (by omega)
  have tab := table_m (m := m) (w := w) (by omega) (by omega) bR bC
  have l1 := dvm_lcm hR hC
  have tl := l1.tab m0 (by omega : m ≤ 100) w0 (by omega : w ≤ 100)
  obtain ⟨hid2, hh2⟩ := hidden_m (ds := ds.drop 20) (often := 7) tl (by rw [List.length_drop]; omega) (by decide)
  have l2 := l1.hid hid2
  have dv0 : Dev m w R C (fun i j => if hid2 i j = true then none else some (Nat.lcm (R i) (C j))) [] := fun i j _ _ e q _ => by
    have q : (if hid2 i j = true then none else some (Nat.lcm (R i) (C j))) = some e := q
    by_cases z : hid2 i j = true
    · rw [if_pos z] at q; cases q
    · rw [if_neg z] at q; cases q; rfl
  have hh2 : m_law_hidden [eT m w fun i j => some (Nat.lcm (R i) (C j)), eL (ds.drop 20), .int 7] = some (eT m w fun i j => if hid2 i j = true then none else some (Nat.lcm (R i) (C j))) := hh2
  generalize (fun i j => if hid2 i j = true then none else some (Nat.lcm (R i) (C j))) = U at hh2 l2 dv0
  have tU := l2.tab m0 (by omega : m ≤ 100) w0 (by omega : w ≤ 100)
  obtain ⟨V, sV, hV⟩ := spoilt_m (ds := ds.drop 30) tU (by rw [List.length_drop]; omega)
  have gV : DvM (6 * 360) V := Dv_spo l2 (by decide) (by decide) sV
  have tV := gV.tab m0 (by omega : m ≤ 100) w0 (by omega : w ≤ 100)
  obtain ⟨X, sX, hX⟩ := spoilt_m (ds := ds.drop 40) tV (by rw [List.length_drop]; omega)
  have gX : DvM (6 * (6 * 360)) X := Dv_spo gV (by decide) (by decide) sX
  have tX := gX.tab m0 (by omega : m ≤ 100) w0 (by omega : w ≤ 100)
  obtain ⟨D1, hD1, dv1⟩ := dv0.spo sV
  obtain ⟨D2, hD2, dv2⟩ := dv1.spo sX
  have hD1 : D1.length ≤ 1 := hD1
  obtain ⟨ρ1, q1, y8, y9, y10, q2⟩ := for_all (g := gT (gsCons (gN 8) (gsCons (gN 9) gsNil))) (b := m_k06_b1) (fun x : (Nat → Nat → Option Nat) × Nat => .tup [eT m w x.1, .int x.2])
    (fun ρ => ∃ y8 y9 y10, ρ = [some (.scr ns), some (.int i), some (eL ds), some (eV m R), some (eV w C), some (eT m w U), some (eT m w V), some (eT m w X), y8, y9, y10]) [(U, 0), (V, 1), (X, 2)]
    [some (.scr ns), some (.int i), some (eL ds), some (eV m R), some (eV w C), some (eT m w U), some (eT m w V), some (eT m w X), a8, a9, a10] (by
    rintro x hx ρ ⟨y8, y9, y10, rfl⟩
    have key : Tab m w x.1 ∧ (∀ i j e, x.1 i j = some e → e ≤ 1000000000) ∧ ∃ D0 : List (Nat × Nat), D0.length ≤ x.2 ∧ Dev m w R C x.1 D0 := by
      simp only [List.mem_cons, List.not_mem_nil, or_false] at hx
      rcases hx with e | e | e
      · rw [e]; exact ⟨tU, fun i j e q => (l2.bd q).2, [], Nat.le_refl _, dv0⟩
      · rw [e]; exact ⟨tV, fun i j e q => (gV.bd q).2, D1, hD1, dv1⟩
      · rw [e]; exact ⟨tX, fun i j e q => (gX.bd q).2, D2, by show D2.length ≤ 2; omega, dv2⟩
    obtain ⟨k1, k2, D0, k3, k4⟩ := key
    obtain ⟨ρ', q, b8, b9, b10, e⟩ := k06_b1 k1 k2 m3 w3 k4 k3 (some (.scr ns)) (some (.int i)) (some (eL ds)) (some (eV m R)) (some (eV w C)) (some (eT m w U)) (some (eT m w V)) (some (eT m w X)) y10
    exact ⟨_, rfl, ρ', q, _, _, _, e⟩) ⟨_, _, _, rfl⟩
  subst q2
  have it : (iSeq (dL opTup (dcons (dL opTup (dcons (dv 5) (dcons (dc (.int 0)) dnil))) (dcons (dL opTup (dcons (dv 6) (dcons (dc (.int 1)) dnil))) (dcons (dL opTup (dcons (dv 7) (dcons (dc (.int 2)) dnil))) dnil))))) [some (.scr ns), some (.int i), some (eL ds), some (eV m R), some (eV w C), some (eT m w U), some (eT m w V), some (eT m w X), a8, a9, a10] = some ([(U, 0), (V, 1), (X, 2)].map fun x : (Nat → Nat → Option Nat) × Nat => .tup [eT m w x.1, .int x.2]) := by
    simp only [p_iSeq, p_dL, p_dcons, p_dnil, p_dc, p_dv, lk_z, lk_s, bnd_some, p_opTup, List.length_cons, List.length_nil, Nat.reduceAdd, Nat.reduceLeDiff, if_true, p_asSeqT]
    rfl
  have f1 := (for_eq it).trans q1
  simp only [m_k06_b2, bnd_some, bnd_none, p_dc, p_dv, lk_z, lk_s, st_z, st_s, un_z, un_s, wipe_n, wipe_c, p_d2, p_d1, p_dnil, p_dcons, p_dL, p_asB, p_asI, p_asL, p_asSeqL, p_asSeqT, p_bV, p_dB, p_bAnd, p_bOr, p_bNot, p_dIf, p_dAnd, p_dOr, p_dNot, p_dCh, p_bYes, p_gN, p_gT, p_gsNil, p_gsCons, p_dNx, p_dRet, p_dSet, p_dIfS, p_dAsg, p_dPar, p_dAug, p_dApp, p_dSetIx, p_nLst, p_nRep, p_nOf, p_dSetN, p_dParN1, p_dParNN, p_iSeq, p_iRng1, p_iRng2, p_oNo, p_oIx, p_dSl, p_asIx, p_opTup, p_opLst, p_lenT, p_lenL, p_lenS, p_tupT, p_tupL, p_add, p_sub, p_mul, p_lt, p_le, p_gt, p_ge, p_eqI, p_neI, p_isN, p_isnN, p_isB, p_isnB, p_isNone_n, p_isNone_i, p_isNone_t, p_isNone_l, p_appL, p_appT, b_mc, b_mn, b_ac, b_an, b_rs, b_rz, b_lc, b_ln, b_it, b_if, b_itt, b_iff, p_dSeq, p_eqB, p_neB, len_eT, len_eR, len_eV, isNone_eO, seq_eT, seq_eR, seq_eV, seq_eL, eO_some, eO_none, len_eL, ↓p_eqN, ↓p_neN, ↓p_ltN, ↓p_leN, ↓p_gtN, ↓p_geN, hds, d50, d51, em, ew, hnum, tab, s20, hh2, s30, hV, s40, hX, f1]
  exact ⟨_, rfl, _, _, _, _, _, _, _, _, _, _, rfl⟩
theorem k06_g1 : m_fewest_wrong [.tup [.tup [.int 4, .int 1], .tup [.int 1, .int 1]]] = some (.int 1) := sameO_eq (by decide +kernel)
theorem k06_g2 : m_fewest_wrong [.tup [.tup [.int 12, .int 20], .tup [.int 6, .int 30]]] = some (.int 0) := sameO_eq (by decide +kernel)
theorem k06_g3 : m_fewest_wrong [.tup [.tup [.int 4, .int 1, .int 1], .tup [.int 1, .int 4, .int 1], .tup [.int 1, .int 1, .int 1]]] = some (.int 2) := sameO_eq (by decide +kernel)
theorem k06_g4 : m_fewest_wrong [.tup [.tup [.non]]] = some (.int 0) := sameO_eq (by decide +kernel)
theorem plain_k06 (ns : List Int) (h : ns.length ≤ 63) : m_k06 [.scr ns] = some (.bl true) := by
  obtain ⟨ρ', q1, b1, b2, b3, b4, b5, b6, b7, b8, b9, b10, q2⟩ := for_range (g := gN 1) (b := m_k06_b2) (fun i : Nat => D.int i)
    (fun _ ρ => ∃ b1 b2 b3 b4 b5 b6 b7 b8 b9 b10, ρ = [some (.scr ns), b1, b2, b3, b4, b5, b6, b7, b8, b9, b10]) 5 (by
      rintro i hi ρ ⟨b1, b2, b3, b4, b5, b6, b7, b8, b9, b10, rfl⟩
      obtain ⟨ρ', e, q⟩ := k06_b2 h hi b2 b3 b4 b5 b6 b7 b8 b9 b10
      exact ⟨_, rfl, ρ', e, q⟩) (ρ := [some (.scr ns), none, none, none, none, none, none, none, none, none, none]) ⟨_, _, _, _, _, _, _, _, _, _, rfl⟩
  have r5 : opRng1 [.int 5] = some ((List.range 5).map fun i : Nat => D.int i) := rng1 (n := 5) (by decide)
  have f := (for_eq (it := iRng1 (dcons (dc (.int 5)) dnil)) (ρ := [some (.scr ns), none, none, none, none, none, none, none, none, none, none]) (by simp only [bnd_some, bnd_none, p_dc, p_dv, lk_z, lk_s, st_z, st_s, un_z, un_s, wipe_n, wipe_c, p_d2, p_d1, p_dnil, p_dcons, p_dL, p_asB, p_asI, p_asL, p_asSeqL, p_asSeqT, p_bV, p_dB, p_bAnd, p_bOr, p_bNot, p_dIf, p_dAnd, p_dOr, p_dNot, p_dCh, p_bYes, p_gN, p_gT, p_gsNil, p_gsCons, p_dNx, p_dRet, p_dSet, p_dIfS, p_dAsg, p_dPar, p_dAug, p_dApp, p_dSetIx, p_nLst, p_nRep, p_nOf, p_dSetN, p_dParN1, p_dParNN, p_iSeq, p_iRng1, p_iRng2, p_oNo, p_oIx, p_dSl, p_asIx, p_opTup, p_opLst, p_lenT, p_lenL, p_lenS, p_tupT, p_tupL, p_add, p_sub, p_mul, p_lt, p_le, p_gt, p_ge, p_eqI, p_neI, p_isN, p_isnN, p_isB, p_isnB, p_isNone_n, p_isNone_i, p_isNone_t, p_isNone_l, p_appL, p_appT, b_mc, b_mn, b_ac, b_an, b_rs, b_rz, b_lc, b_ln, b_it, b_if, b_itt, b_iff, p_dSeq, p_eqB, p_neB, len_eT, len_eR, len_eV, isNone_eO, seq_eT, seq_eR, seq_eV, seq_eL, eO_some, eO_none, len_eL, ↓p_eqN, ↓p_neN, ↓p_ltN, ↓p_leN, ↓p_gtN, ↓p_geN, r5])).trans q1
  subst q2
  refine run_rt rfl ?_
  simp only [bnd_some, bnd_none, p_dc, p_dv, lk_z, lk_s, st_z, st_s, un_z, un_s, wipe_n, wipe_c, p_d2, p_d1, p_dnil, p_dcons, p_dL, p_asB, p_asI, p_asL, p_asSeqL, p_asSeqT, p_bV, p_dB, p_bAnd, p_bOr, p_bNot, p_dIf, p_dAnd, p_dOr, p_dNot, p_dCh, p_bYes, p_gN, p_gT, p_gsNil, p_gsCons, p_dNx, p_dRet, p_dSet, p_dIfS, p_dAsg, p_dPar, p_dAug, p_dApp, p_dSetIx, p_nLst, p_nRep, p_nOf, p_dSetN, p_dParN1, p_dParNN, p_iSeq, p_iRng1, p_iRng2, p_oNo, p_oIx, p_dSl, p_asIx, p_opTup, p_opLst, p_lenT, p_lenL, p_lenS, p_tupT, p_tupL, p_add, p_sub, p_mul, p_lt, p_le, p_gt, p_ge, p_eqI, p_neI, p_isN, p_isnN, p_isB, p_isnB, p_isNone_n, p_isNone_i, p_isNone_t, p_isNone_l, p_appL, p_appT, b_mc, b_mn, b_ac, b_an, b_rs, b_rz, b_lc, b_ln, b_it, b_if, b_itt, b_iff, p_dSeq, p_eqB, p_neB, len_eT, len_eR, len_eV, isNone_eO, seq_eT, seq_eR, seq_eV, seq_eL, eO_some, eO_none, len_eL, ↓p_eqN, ↓p_neN, ↓p_ltN, ↓p_leN, ↓p_gtN, ↓p_geN, Nat.reduceSub, f, Nat.reduceAdd, Nat.reduceLeDiff, k06_g1, k06_g2, k06_g3, k06_g4, Int.reduceEq, decide_true, Bool.not_true]
end Mi
namespace My
open PySem PySem.Spec PyProof.Rows L2 DL Mi
def topS (i : Nat) : Stmt := PySem.Challenge.pw_meetperiods_k06_whole_entries_that_must.main.body.getD i (.Pass ⟨0, 0, 0, 0⟩)
abbrev s_gcd : Stmt := topS 1
abbrev N_gcd : List Str := ["one", "other"]
theorem sc_gcd : FnScope N_gcd ["one", "other"] (defScope s_gcd) := ⟨rfl, rfl, rfl, by decide +kernel, rfl, by decide +kernel, by decide +kernel⟩
abbrev s_lcm : Stmt := topS 2
abbrev N_lcm : List Str := ["one", "other"]
theorem sc_lcm : FnScope N_lcm ["one", "other"] (defScope s_lcm) := ⟨rfl, rfl, rfl, by decide +kernel, rfl, by decide +kernel, by decide +kernel⟩
abbrev s_turned : Stmt := topS 4
abbrev N_turned : List Str := ["table", "column", "row"]
theorem sc_turned : FnScope N_turned ["table"] (defScope s_turned) := ⟨rfl, rfl, rfl, by decide +kernel, rfl, by decide +kernel, by decide +kernel⟩
abbrev s_row_divisor : Stmt := topS 5
abbrev N_row_divisor : List Str := ["row", "found", "entry"]
theorem sc_row_divisor : FnScope N_row_divisor ["row"] (defScope s_row_divisor) := ⟨rfl, rfl, rfl, by decide +kernel, rfl, by decide +kernel, by decide +kernel⟩
abbrev s_greatest : Stmt := topS 6
abbrev N_greatest : List Str := ["table", "row"]
theorem sc_greatest : FnScope N_greatest ["table"] (defScope s_greatest) := ⟨rfl, rfl, rfl, by decide +kernel, rfl, by decide +kernel, by decide +kernel⟩
abbrev s_known_places : Stmt := topS 7
abbrev N_known_places : List Str := ["table", "found", "row", "column"]
theorem sc_known_places : FnScope N_known_places ["table"] (defScope s_known_places) := ⟨rfl, rfl, rfl, by decide +kernel, rfl, by decide +kernel, by decide +kernel⟩
abbrev s_is_real : Stmt := topS 8
abbrev N_is_real : List Str := ["table", "rows", "columns", "row", "column"]
theorem sc_is_real : FnScope N_is_real ["table"] (defScope s_is_real) := ⟨rfl, rfl, rfl, by decide +kernel, rfl, by decide +kernel, by decide +kernel⟩
abbrev s_without : Stmt := topS 9
abbrev N_without : List Str := ["table", "places", "rows", "row", "line", "column"]
theorem sc_without : FnScope N_without ["table", "places"] (defScope s_without) := ⟨rfl, rfl, rfl, by decide +kernel, rfl, by decide +kernel, by decide +kernel⟩
abbrev s_fewest_wrong : Stmt := topS 10
abbrev N_fewest_wrong : List Str := ["table", "sets", "place", "some"]
theorem sc_fewest_wrong : FnScope N_fewest_wrong ["table"] (defScope s_fewest_wrong) := ⟨rfl, rfl, rfl, by decide +kernel, rfl, by decide +kernel, by decide +kernel⟩
abbrev s__law_cell : Stmt := topS 12
abbrev N__law_cell : List Str := ["script", "index"]
theorem sc__law_cell : FnScope N__law_cell ["script", "index"] (defScope s__law_cell) := ⟨rfl, rfl, rfl, by decide +kernel, rfl, by decide +kernel, by decide +kernel⟩
abbrev s__law_digits : Stmt := topS 13
abbrev N__law_digits : List Str := ["script", "index", "count", "base", "primes", "cell", "rest", "digits", "k", "mixed"]
theorem sc__law_digits : FnScope N__law_digits ["script", "index", "count", "base"] (defScope s__law_digits) := ⟨rfl, rfl, rfl, by decide +kernel, rfl, by decide +kernel, by decide +kernel⟩
abbrev s__law_gcd : Stmt := topS 14
abbrev N__law_gcd : List Str := ["one", "other"]
theorem sc__law_gcd : FnScope N__law_gcd ["one", "other"] (defScope s__law_gcd) := ⟨rfl, rfl, rfl, by decide +kernel, rfl, by decide +kernel, by decide +kernel⟩
abbrev s__law_lcm : Stmt := topS 15
abbrev N__law_lcm : List Str := ["one", "other"]
theorem sc__law_lcm : FnScope N__law_lcm ["one", "other"] (defScope s__law_lcm) := ⟨rfl, rfl, rfl, by decide +kernel, rfl, by decide +kernel, by decide +kernel⟩
abbrev s__law_numbers : Stmt := topS 16
abbrev N__law_numbers : List Str := ["digits", "many", "wide", "some", "size", "rows", "k"]
theorem sc__law_numbers : FnScope N__law_numbers ["digits", "many", "wide"] (defScope s__law_numbers) := ⟨rfl, rfl, rfl, by decide +kernel, rfl, by decide +kernel, by decide +kernel⟩
abbrev s__law_table : Stmt := topS 17
abbrev N__law_table : List Str := ["rows", "columns", "one", "other"]
theorem sc__law_table : FnScope N__law_table ["rows", "columns"] (defScope s__law_table) := ⟨rfl, rfl, rfl, by decide +kernel, rfl, by decide +kernel, by decide +kernel⟩
abbrev s__law_hidden : Stmt := topS 18
abbrev N__law_hidden : List Str := ["table", "digits", "often", "rows", "k", "row", "line", "entry"]
theorem sc__law_hidden : FnScope N__law_hidden ["table", "digits", "often"] (defScope s__law_hidden) := ⟨rfl, rfl, rfl, by decide +kernel, rfl, by decide +kernel, by decide +kernel⟩
abbrev s__law_spoilt : Stmt := topS 19
abbrev N__law_spoilt : List Str := ["table", "digits", "rows", "row", "column"]
theorem sc__law_spoilt : FnScope N__law_spoilt ["table", "digits"] (defScope s__law_spoilt) := ⟨rfl, rfl, rfl, by decide +kernel, rfl, by decide +kernel, by decide +kernel⟩
abbrev s__law_known : Stmt := topS 20
abbrev N__law_known : List Str := ["table", "found", "row", "line", "column", "entry"]
theorem sc__law_known : FnScope N__law_known ["table"] (defScope s__law_known) := ⟨rfl, rfl, rfl, by decide +kernel, rfl, by decide +kernel, by decide +kernel⟩
abbrev s__law_real : Stmt := topS 21
abbrev N__law_real : List Str := ["table", "known", "row", "column", "entry", "beside", "above", "one", "at", "to", "other"]
theorem sc__law_real : FnScope N__law_real ["table"] (defScope s__law_real) := ⟨rfl, rfl, rfl, by decide +kernel, rfl, by decide +kernel, by decide +kernel⟩
abbrev s__law_least : Stmt := topS 22
abbrev N__law_least : List Str := ["table", "places", "front", "size", "some", "rows", "row", "line", "later", "column", "entry", "place", "at"]
theorem sc__law_least : FnScope N__law_least ["table"] (defScope s__law_least) := ⟨rfl, rfl, rfl, by decide +kernel, rfl, by decide +kernel, by decide +kernel⟩
abbrev s_law : Stmt := topS 23
abbrev N_law : List Str := ["script", "index", "digits", "rows", "columns", "whole", "spoilt", "worse", "table", "most", "number"]
theorem sc_law : FnScope N_law ["script"] (defScope s_law) := ⟨rfl, rfl, rfl, by decide +kernel, rfl, by decide +kernel, by decide +kernel⟩
structure Bi (mg : Str → Option Value) : Prop where
  all_ : mg "all" = none
  enumerate_ : mg "enumerate" = none
  len_ : mg "len" = none
  list_ : mg "list" = none
  min_ : mg "min" = none
  range_ : mg "range" = none
  tuple_ : mg "tuple" = none
section
variable {P : Program} {w : World} {K : PySem.W.Frag} {mg : Str → Option Value} {base : Heap} {C : Addr}
theorem ok_gcd {f : Addr} {fd : FuncData} (F : Fun K "gcd" "gcd" s_gcd f fd) (B : Bi mg) : FnOk P w K mg base CX0 1 f fd ["one", "other"] (spD K C m_gcd) :=
  have nd := sc_gcd.nd
  fnD (k := 0) F sc_gcd (by decide) fun cdv A outer s H E hr =>
    (dss_cons (ds_while PassesOwn.never (dt_cmp (od_gt hr.units0) (de_var 1) de_int) (dss_one (ds_par 0 1 rfl nd (de_var 1) (de_op od_mod (de_var 0) (de_var 1)))))
      (dss_one (ds_ret (de_var 0))))
theorem ok_lcm {f : Addr} {fd : FuncData} (F : Fun K "lcm" "lcm" s_lcm f fd) (B : Bi mg) (c_gcd : Cal P w K mg base C 1 "gcd" ["one", "other"] m_gcd) : FnOk P w K mg base CX0 2 f fd ["one", "other"] (spD K C m_lcm) :=
  have nd := sc_lcm.nd
  fnD (k := 1) F sc_lcm (by decide) fun cdv A outer s H E hr =>
    (dss_one (ds_ret (de_op od_mul (de_op od_fdiv (de_var 0) (de_call c_gcd hr (by rfl) (da_cons (de_var 0) (da_cons (de_var 1) da_nil)))) (de_var 1))))
theorem ok_turned {f : Addr} {fd : FuncData} (F : Fun K "turned" "turned" s_turned f fd) (B : Bi mg) : FnOk P w K mg base CX0 1 f fd ["table"] (spD K C m_turned) :=
  have nd := sc_turned.nd
  fnD (k := 0) F sc_turned (by decide) fun cdv A outer s H E hr =>
    (dss_one (ds_ret (de_callTy cd_tuple (by rfl) B.tuple_ bt_tuple (da_cons (de_comp (own := [("column", 1)]) rfl nd (di_rng1 (by rfl) B.range_ (da_cons (de_callB cd_len (by rfl) B.len_ bt_len (da_cons (de_ix ix_d (de_var 0) de_int) da_nil)) da_nil)) (blkOk_by (N := N_turned) (sc := defScope s_turned) (by decide +kernel)) (fun _ _ _ _ _ => (dg_name 1 nd)) (fun _ _ _ _ _ => dts_nil) (fun _ _ _ _ _ => (de_callTy cd_tuple (by rfl) B.tuple_ bt_tuple (da_cons (de_comp (own := [("row", 2)]) rfl nd (di_seq (de_var 0)) (blkOk_by (N := N_turned)  (by with_unfolding_all rfl)) (fun _ _ _ _ _ => (dg_name 2 nd)) (fun _ _ _ _ _ => dts_nil) (fun _ _ _ _ _ => (de_ix ix_d (de_var 2) (de_var 1)))) da_nil)))) da_nil))))
theorem ok_row_divisor {f : Addr} {fd : FuncData} (F : Fun K "row_divisor" "row_divisor" s_row_divisor f fd) (B : Bi mg) (c_gcd : Cal P w K mg base C 1 "gcd" ["one", "other"] m_gcd) : FnOk P w K mg base CX0 2 f fd ["row"] (spD K C m_row_divisor) :=
  have nd := sc_row_divisor.nd
  fnD (k := 1) F sc_row_divisor (by decide) fun cdv A outer s H E hr =>
    (dss_cons (ds_set 1 nd de_int)
      (dss_cons (ds_for PassesOwn.never rfl (di_seq (de_var 0)) (dg_name 2 nd) (dss_one (ds_if (dt_cmp od_isnot (de_var 2) de_non) (dss_one (ds_set 1 nd (de_call c_gcd hr (by rfl) (da_cons (de_var 2) (da_cons (de_var 1) da_nil))))) dss_nil)))
      (dss_one (ds_ret (de_var 1)))))
theorem ok_greatest {f : Addr} {fd : FuncData} (F : Fun K "greatest" "greatest" s_greatest f fd) (B : Bi mg) (c_row_divisor : Cal P w K mg base C 2 "row_divisor" ["row"] m_row_divisor) (c_turned : Cal P w K mg base C 1 "turned" ["table"] m_turned) : FnOk P w K mg base CX0 3 f fd ["table"] (spD K C m_greatest) :=
  have nd := sc_greatest.nd
  fnD (k := 2) F sc_greatest (by decide) fun cdv A outer s H E hr =>
    (dss_one (ds_ret (de_tup (da_cons (de_callTy cd_tuple (by rfl) B.tuple_ bt_tuple (da_cons (de_comp (own := [("row", 1)]) rfl nd (di_seq (de_var 0)) (blkOk_by (N := N_greatest) (sc := defScope s_greatest) (by decide +kernel)) (fun _ _ _ _ _ => (dg_name 1 nd)) (fun _ _ _ _ _ => dts_nil) (fun _ _ _ _ _ => (de_call c_row_divisor hr (by rfl) (da_cons (de_var 1) da_nil)))) da_nil)) (da_cons (de_callTy cd_tuple (by rfl) B.tuple_ bt_tuple (da_cons (de_comp (own := [("row", 1)]) rfl nd (di_seq (de_call c_turned hr (by rfl) (da_cons (de_var 0) da_nil))) (blkOk_by (N := N_greatest) (sc := defScope s_greatest) (by decide +kernel)) (fun _ _ _ _ _ => (dg_name 1 nd)) (fun _ _ _ _ _ => dts_nil) (fun _ _ _ _ _ => (de_call c_row_divisor hr (by rfl) (da_cons (de_var 1) da_nil)))) da_nil)) da_nil)))))
theorem ok_known_places {f : Addr} {fd : FuncData} (F : Fun K "known_places" "known_places" s_known_places f fd) (B : Bi mg) : FnOk P w K mg base CX0 1 f fd ["table"] (spD K C m_known_places) :=
  have nd := sc_known_places.nd
  fnD (k := 0) F sc_known_places (by decide) fun cdv A outer s H E hr =>
    (dss_cons (ds_set 1 nd (de_lst da_nil))
      (dss_cons (ds_for PassesOwn.never rfl (di_rng1 (by rfl) B.range_ (da_cons (de_callB cd_len (by rfl) B.len_ bt_len (da_cons (de_var 0) da_nil)) da_nil)) (dg_name 2 nd) (dss_one (ds_set 1 nd (de_op od_add (de_var 1) (de_comp (own := [("column", 3)]) rfl nd (di_rng1 (by rfl) B.range_ (da_cons (de_callB cd_len (by rfl) B.len_ bt_len (da_cons (de_ix ix_d (de_var 0) de_int) da_nil)) da_nil)) (blkOk_by (N := N_known_places) (sc := defScope s_known_places) (by decide +kernel)) (fun _ _ _ _ _ => (dg_name 3 nd)) (fun _ _ _ _ _ => (dts_one (dt_cmp od_isnot (de_ix ix_d (de_ix ix_d (de_var 0) (de_var 2)) (de_var 3)) de_non))) (fun _ _ _ _ _ => (de_tup (da_cons (de_var 2) (da_cons (de_var 3) da_nil)))))))))
      (dss_one (ds_ret (de_var 1)))))
theorem ok_is_real {f : Addr} {fd : FuncData} (F : Fun K "is_real" "is_real" s_is_real f fd) (B : Bi mg) (c_greatest : Cal P w K mg base C 3 "greatest" ["table"] m_greatest) (c_known_places : Cal P w K mg base C 1 "known_places" ["table"] m_known_places) (c_lcm : Cal P w K mg base C 2 "lcm" ["one", "other"] m_lcm) : FnOk P w K mg base CX0 4 f fd ["table"] (spD K C m_is_real) :=
  have nd := sc_is_real.nd
  fnD (k := 3) F sc_is_real (by decide) fun cdv A outer s H E hr =>
    (dss_cons (ds_asg (de_call c_greatest hr (by rfl) (da_cons (de_var 0) da_nil)) (dg_tup rfl (dg_cons (dg_name 1 nd) (dg_cons (dg_name 2 nd) dg_nil)) (gl1 (gl1 gl0))))
      (dss_one (ds_ret (de_callB (cd_all rfl) (by rfl) B.all_ bt_all (da_cons (de_comp (own := [("row", 3), ("column", 4)]) rfl nd (di_seq (de_call c_known_places hr (by rfl) (da_cons (de_var 0) da_nil))) (blkOk_by (N := N_is_real) (sc := defScope s_is_real) (by decide +kernel)) (fun _ _ _ _ _ => (dg_tup rfl (dg_cons (dg_name 3 nd) (dg_cons (dg_name 4 nd) dg_nil)) (gl1 (gl1 gl0)))) (fun _ _ _ _ _ => dts_nil) (fun _ _ _ _ _ => (de_cmp (od_eq hr.units) (de_call c_lcm hr (by rfl) (da_cons (de_ix ix_d (de_var 1) (de_var 3)) (da_cons (de_ix ix_d (de_var 2) (de_var 4)) da_nil))) (de_ix ix_d (de_ix ix_d (de_var 0) (de_var 3)) (de_var 4))))) da_nil)))))
theorem ok_without {f : Addr} {fd : FuncData} (F : Fun K "without" "without" s_without f fd) (B : Bi mg) : FnOk P w K mg base CX0 1 f fd ["table", "places"] (spD K C m_without) :=
  have nd := sc_without.nd
  fnD (k := 0) F sc_without (by decide) fun cdv A outer s H E hr =>
    (dss_cons (ds_setN 2 nd (dn_lst da_nil))
      (dss_cons (ds_for PassesOwn.never rfl (di_rng1 (by rfl) B.range_ (da_cons (de_callB cd_len (by rfl) B.len_ bt_len (da_cons (de_var 0) da_nil)) da_nil)) (dg_name 3 nd) (dss_cons (ds_setLc 4 (own := [("column", 5)]) rfl nd (di_rng1 (by rfl) B.range_ (da_cons (de_callB cd_len (by rfl) B.len_ bt_len (da_cons (de_ix ix_d (de_var 0) de_int) da_nil)) da_nil)) (blkOk_by (N := N_without) (sc := defScope s_without) (by decide +kernel)) (fun _ _ _ _ _ => (dg_name 5 nd)) (fun _ _ _ _ _ => dts_nil) (fun _ _ _ _ _ => (de_if (dt_cmp (od_in (hu65 hr)) (de_tup (da_cons (de_var 3) (da_cons (de_var 5) da_nil))) (de_var 1)) de_non (de_ix ix_d (de_ix ix_d (de_var 0) (de_var 3)) (de_var 5)))))
      (dss_one (ds_app 2 (de_callTy cd_tuple (by rfl) B.tuple_ bt_tuple (da_cons (de_var 4) da_nil))))))
      (dss_one (ds_frz (O1 := []) 2 (ds_ret (de_callTy cd_tuple (by rfl) B.tuple_ bt_tuple (da_cons (de_var 2) da_nil)))))))
theorem ok_fewest_wrong {f : Addr} {fd : FuncData} (F : Fun K "fewest_wrong" "fewest_wrong" s_fewest_wrong f fd) (B : Bi mg) (c_is_real : Cal P w K mg base C 4 "is_real" ["table"] m_is_real) (c_known_places : Cal P w K mg base C 1 "known_places" ["table"] m_known_places) (c_without : Cal P w K mg base C 1 "without" ["table", "places"] m_without) : FnOk P w K mg base CX0 5 f fd ["table"] (spD K C m_fewest_wrong) :=
  have nd := sc_fewest_wrong.nd
  fnD (k := 4) F sc_fewest_wrong (by decide) fun cdv A outer s H E hr =>
    (dss_cons (ds_set 1 nd (de_lst (da_cons (de_tup da_nil) da_nil)))
      (dss_cons (ds_for PassesOwn.never rfl (di_seq (de_call c_known_places hr (by rfl) (da_cons (de_var 0) da_nil))) (dg_name 2 nd) (dss_one (ds_set 1 nd (de_op od_add (de_var 1) (de_comp (own := [("some", 3)]) rfl nd (di_seq (de_var 1)) (blkOk_by (N := N_fewest_wrong) (sc := defScope s_fewest_wrong) (by decide +kernel)) (fun _ _ _ _ _ => (dg_name 3 nd)) (fun _ _ _ _ _ => dts_nil) (fun _ _ _ _ _ => (de_op od_add (de_var 3) (de_tup (da_cons (de_var 2) da_nil)))))))))
      (dss_one (ds_ret (de_callB (cd_min rfl) (by rfl) B.min_ bt_min (da_cons (de_comp (own := [("some", 3)]) rfl nd (di_seq (de_var 1)) (blkOk_by (N := N_fewest_wrong) (sc := defScope s_fewest_wrong) (by decide +kernel)) (fun _ _ _ _ _ => (dg_name 3 nd)) (fun _ _ _ _ _ => (dts_one (dt_val (de_call c_is_real hr (by rfl) (da_cons (de_call c_without hr (by rfl) (da_cons (de_var 0) (da_cons (de_var 3) da_nil))) da_nil))))) (fun _ _ _ _ _ => (de_callB cd_len (by rfl) B.len_ bt_len (da_cons (de_var 3) da_nil)))) da_nil))))))
theorem ok__law_cell {f : Addr} {fd : FuncData} (F : Fun K "_law_cell" "_law_cell" s__law_cell f fd) (B : Bi mg) : FnOk P w K mg base CX0 1 f fd ["script", "index"] (spD K C m_law_cell) :=
  have nd := sc__law_cell.nd
  fnD (k := 0) F sc__law_cell (by decide) fun cdv A outer s H E hr =>
    (dss_cons (ds_if (dt_cmp (od_lt hr.units0) (de_var 1) (de_callB cd_len (by rfl) B.len_ bt_len (da_cons (de_var 0) da_nil))) (dss_one (ds_ret (de_ix ix_d (de_var 0) (de_var 1)))) dss_nil)
      (dss_cons (ds_if (dt_cmp (od_eq hr.units) (de_callB cd_len (by rfl) B.len_ bt_len (da_cons (de_var 0) da_nil)) de_int) (dss_one (ds_ret (de_op od_add (de_op od_mul de_int (de_var 1)) de_int))) dss_nil)
      (dss_one (ds_ret (de_op od_add (de_op od_mod (de_ix ix_d (de_var 0) (de_op od_mod (de_var 1) (de_callB cd_len (by rfl) B.len_ bt_len (da_cons (de_var 0) da_nil)))) de_int) (de_op od_mul de_int (de_var 1)))))))
theorem ok__law_digits {f : Addr} {fd : FuncData} (F : Fun K "_law_digits" "_law_digits" s__law_digits f fd) (B : Bi mg) (c__law_cell : Cal P w K mg base C 1 "_law_cell" ["script", "index"] m_law_cell) : FnOk P w K mg base CX0 2 f fd ["script", "index", "count", "base"] (spD K C m_law_digits) :=
  have nd := sc__law_digits.nd
  fnD (k := 1) F sc__law_digits (by decide) fun cdv A outer s H E hr =>
    (dss_cons (ds_set 4 nd (de_tup (da_cons de_int (da_cons de_int (da_cons de_int (da_cons de_int (da_cons de_int (da_cons de_int (da_cons de_int (da_cons de_int da_nil))))))))))
      (dss_cons (ds_set 5 nd (de_call c__law_cell hr (by rfl) (da_cons (de_var 0) (da_cons (de_var 1) da_nil))))
      (dss_cons (ds_set 6 nd (de_if (dt_cmp od_ge (de_var 5) (de_op od_pow de_int de_int)) (de_var 5) de_int))
      (dss_cons (ds_setN 7 nd (dn_lst da_nil))
      (dss_cons (ds_for PassesOwn.never rfl (di_rng1 (by rfl) B.range_ (da_cons (de_var 2) da_nil)) (dg_name 8 nd) (dss_cons (ds_set 9 nd (de_op od_mul (de_op od_mod (de_var 5) (de_ix ix_d (de_var 4) (de_op od_mod (de_var 8) de_int))) (de_op od_add de_int (de_op od_mul (de_op od_mul de_int (de_var 8)) (de_var 8)))))
      (dss_cons (ds_set 9 nd (de_op od_add (de_op od_add (de_var 9) (de_op od_mul (de_op od_mul de_int (de_op od_add (de_var 8) de_int)) (de_op od_add (de_var 8) de_int))) (de_op od_mul de_int (de_var 1))))
      (dss_cons (ds_set 9 nd (de_op od_mod (de_var 9) (de_ix ix_d (de_var 4) (de_op od_mod (de_op od_add (de_op od_mul de_int (de_var 8)) (de_var 1)) de_int))))
      (dss_cons (ds_set 9 nd (de_op od_mod (de_op od_mul (de_op od_mul (de_var 9) (de_var 9)) (de_var 9)) (de_ix ix_d (de_var 4) (de_op od_mod (de_op od_add (de_var 8) de_int) de_int))))
      (dss_cons (ds_if (dt_cmp (od_gt hr.units0) (de_var 6) de_int) (dss_one (ds_set 9 nd (de_var 6))) dss_nil)
      (dss_cons (ds_app 7 (de_op od_mod (de_var 9) (de_var 3)))
      (dss_one (ds_set 6 nd (de_op od_fdiv (de_var 6) (de_var 3)))))))))))
      (dss_one (ds_frz (O1 := []) 7 (ds_ret (de_var 7)))))))))
theorem ok__law_gcd {f : Addr} {fd : FuncData} (F : Fun K "_law_gcd" "_law_gcd" s__law_gcd f fd) (B : Bi mg) : FnOk P w K mg base CX0 1 f fd ["one", "other"] (spD K C m_law_gcd) :=
  have nd := sc__law_gcd.nd
  fnD (k := 0) F sc__law_gcd (by decide) fun cdv A outer s H E hr =>
    (dss_cons (ds_while PassesOwn.never (dt_cmp (od_gt hr.units0) (de_var 1) de_int) (dss_one (ds_par 0 1 rfl nd (de_var 1) (de_op od_mod (de_var 0) (de_var 1)))))
      (dss_one (ds_ret (de_var 0))))
theorem ok__law_lcm {f : Addr} {fd : FuncData} (F : Fun K "_law_lcm" "_law_lcm" s__law_lcm f fd) (B : Bi mg) (c__law_gcd : Cal P w K mg base C 1 "_law_gcd" ["one", "other"] m_law_gcd) : FnOk P w K mg base CX0 2 f fd ["one", "other"] (spD K C m_law_lcm) :=
  have nd := sc__law_lcm.nd
  fnD (k := 1) F sc__law_lcm (by decide) fun cdv A outer s H E hr =>
    (dss_one (ds_ret (de_op od_fdiv (de_op od_mul (de_var 0) (de_var 1)) (de_call c__law_gcd hr (by rfl) (da_cons (de_var 0) (da_cons (de_var 1) da_nil))))))
theorem ok__law_numbers {f : Addr} {fd : FuncData} (F : Fun K "_law_numbers" "_law_numbers" s__law_numbers f fd) (B : Bi mg) : FnOk P w K mg base CX0 1 f fd ["digits", "many", "wide"] (spD K C m_law_numbers) :=
  have nd := sc__law_numbers.nd
  fnD (k := 0) F sc__law_numbers (by decide) fun cdv A outer s H E hr =>
    (dss_cons (ds_set 3 nd (de_lst (da_cons de_int (da_cons de_int (da_cons de_int (da_cons de_int (da_cons de_int (da_cons de_int (da_cons de_int (da_cons de_int (da_cons de_int (da_cons de_int (da_cons de_int (da_cons de_int da_nil))))))))))))))
      (dss_cons (ds_set 4 nd (de_ix ix_d (de_lst (da_cons de_int (da_cons de_int (da_cons de_int da_nil)))) (de_op od_mod (de_ix ix_d (de_var 0) de_int) de_int)))
      (dss_cons (ds_set 5 nd (de_callTy cd_tuple (by rfl) B.tuple_ bt_tuple (da_cons (de_comp (own := [("k", 6)]) rfl nd (di_rng1 (by rfl) B.range_ (da_cons (de_var 1) da_nil)) (blkOk_by (N := N__law_numbers) (sc := defScope s__law_numbers) (by decide +kernel)) (fun _ _ _ _ _ => (dg_name 6 nd)) (fun _ _ _ _ _ => dts_nil) (fun _ _ _ _ _ => (de_ix ix_d (de_var 3) (de_op od_mod (de_ix ix_d (de_var 0) (de_op od_add de_int (de_var 6))) (de_var 4))))) da_nil)))
      (dss_one (ds_ret (de_tup (da_cons (de_var 5) (da_cons (de_callTy cd_tuple (by rfl) B.tuple_ bt_tuple (da_cons (de_comp (own := [("k", 6)]) rfl nd (di_rng1 (by rfl) B.range_ (da_cons (de_var 2) da_nil)) (blkOk_by (N := N__law_numbers) (sc := defScope s__law_numbers) (by decide +kernel)) (fun _ _ _ _ _ => (dg_name 6 nd)) (fun _ _ _ _ _ => dts_nil) (fun _ _ _ _ _ => (de_ix ix_d (de_var 3) (de_op od_mod (de_ix ix_d (de_var 0) (de_op od_add de_int (de_var 6))) (de_var 4))))) da_nil)) da_nil))))))))
theorem ok__law_table {f : Addr} {fd : FuncData} (F : Fun K "_law_table" "_law_table" s__law_table f fd) (B : Bi mg) (c__law_lcm : Cal P w K mg base C 2 "_law_lcm" ["one", "other"] m_law_lcm) : FnOk P w K mg base CX0 3 f fd ["rows", "columns"] (spD K C m_law_table) :=
  have nd := sc__law_table.nd
  fnD (k := 2) F sc__law_table (by decide) fun cdv A outer s H E hr =>
    (dss_one (ds_ret (de_callTy cd_tuple (by rfl) B.tuple_ bt_tuple (da_cons (de_comp (own := [("one", 2)]) rfl nd (di_seq (de_var 0)) (blkOk_by (N := N__law_table) (sc := defScope s__law_table) (by decide +kernel)) (fun _ _ _ _ _ => (dg_name 2 nd)) (fun _ _ _ _ _ => dts_nil) (fun _ _ _ _ _ => (de_callTy cd_tuple (by rfl) B.tuple_ bt_tuple (da_cons (de_comp (own := [("other", 3)]) rfl nd (di_seq (de_var 1)) (blkOk_by (N := N__law_table)  (by with_unfolding_all rfl)) (fun _ _ _ _ _ => (dg_name 3 nd)) (fun _ _ _ _ _ => dts_nil) (fun _ _ _ _ _ => (de_call c__law_lcm hr (by rfl) (da_cons (de_var 2) (da_cons (de_var 3) da_nil))))) da_nil)))) da_nil))))
theorem ok__law_hidden {f : Addr} {fd : FuncData} (F : Fun K "_law_hidden" "_law_hidden" s__law_hidden f fd) (B : Bi mg) : FnOk P w K mg base CX0 1 f fd ["table", "digits", "often"] (spD K C m_law_hidden) :=
  have nd := sc__law_hidden.nd
  fnD (k := 0) F sc__law_hidden (by decide) fun cdv A outer s H E hr =>
    (dss_cons (ds_parN1 3 4 rfl nd (dn_lst da_nil) de_int)
      (dss_cons (ds_for PassesOwn.never rfl (di_seq (de_var 0)) (dg_name 5 nd) (dss_cons (ds_setN 6 nd (dn_lst da_nil))
      (dss_cons (ds_for PassesOwn.never rfl (di_seq (de_var 5)) (dg_name 7 nd) (dss_cons (ds_app 6 (de_if (dt_cmp (od_eq hr.units) (de_op od_mod (de_ix ix_d (de_var 1) (de_op od_mod (de_var 4) (de_callB cd_len (by rfl) B.len_ bt_len (da_cons (de_var 1) da_nil)))) (de_var 2)) de_int) de_non (de_var 7)))
      (dss_one (ds_set 4 nd (de_op od_add (de_var 4) de_int)))))
      (dss_one (ds_frz (O1 := [3]) 6 (ds_app 3 (de_callTy cd_tuple (by rfl) B.tuple_ bt_tuple (da_cons (de_var 6) da_nil))))))))
      (dss_one (ds_frz (O1 := []) 3 (ds_ret (de_callTy cd_tuple (by rfl) B.tuple_ bt_tuple (da_cons (de_var 3) da_nil)))))))
theorem ok__law_spoilt {f : Addr} {fd : FuncData} (F : Fun K "_law_spoilt" "_law_spoilt" s__law_spoilt f fd) (B : Bi mg) : FnOk P w K mg base CX0 1 f fd ["table", "digits"] (spD K C m_law_spoilt) :=
  have nd := sc__law_spoilt.nd
  fnD (k := 0) F sc__law_spoilt (by decide) fun cdv A outer s H E hr =>
    (dss2_in (O' := []) (ro_seq (ro_seq ro_ret)) (ds2_in 2 3 rfl nd (di_seq (de_var 0)) (blkOk_by (N := N__law_spoilt) (sc := defScope s__law_spoilt) (by decide +kernel)) (fun _ _ _ _ _ => (dg_name 3 nd)) (fun _ _ _ _ _ => (dn_of (by rfl) B.list_ (de_var 3))))
      (dss2_cons (ds2_par 3 4 rfl nd (de_op od_mod (de_ix ix_d (de_var 1) de_int) (de_callB cd_len (by rfl) B.len_ bt_len (da_cons (de_var 2) da_nil))) (de_op od_mod (de_ix ix_d (de_var 1) de_int) (de_callB cd_len (by rfl) B.len_ bt_len (da_cons (de_ix ix_d (de_var 2) de_int) da_nil))))
      (dss2_cons (ds2_if (dt_cmp od_isnot (de_ix ix_d (de_ix ix_d (de_var 2) (de_var 3)) (de_var 4)) de_non) (dss2_one (ds2_put (de_ix ix_d (de_lst (da_cons de_int (da_cons de_int (da_cons de_int (da_cons de_int (da_cons de_int (da_cons de_int (da_cons (de_op od_mul (de_ix ix_d (de_ix ix_d (de_var 2) (de_var 3)) (de_var 4)) de_int) (da_cons (de_op od_mul (de_ix ix_d (de_ix ix_d (de_var 2) (de_var 3)) (de_var 4)) de_int) da_nil))))))))) (de_op od_mod (de_ix ix_d (de_var 1) de_int) de_int)) (de_var 3) (de_var 4))) dss2_nil)
      (dss2_end (O' := []) ro_ret (dss_one (ds_ret (de_callTy cd_tuple (by rfl) B.tuple_ bt_tuple (da_cons (de_comp (own := [("row", 3)]) rfl nd (di_seq (de_var 2)) (blkOk_by (N := N__law_spoilt) (sc := defScope s__law_spoilt) (by decide +kernel)) (fun _ _ _ _ _ => (dg_name 3 nd)) (fun _ _ _ _ _ => dts_nil) (fun _ _ _ _ _ => (de_callTy cd_tuple (by rfl) B.tuple_ bt_tuple (da_cons (de_var 3) da_nil)))) da_nil))))))))
theorem ok__law_known {f : Addr} {fd : FuncData} (F : Fun K "_law_known" "_law_known" s__law_known f fd) (B : Bi mg) : FnOk P w K mg base CX0 1 f fd ["table"] (spD K C m_law_known) :=
  have nd := sc__law_known.nd
  fnD (k := 0) F sc__law_known (by decide) fun cdv A outer s H E hr =>
    (dss_cons (ds_set 1 nd (de_lst da_nil))
      (dss_cons (ds_for PassesOwn.never rfl (di_enum (by rfl) B.enumerate_ (da_cons (de_var 0) da_nil)) (dg_tup rfl (dg_cons (dg_name 2 nd) (dg_cons (dg_name 3 nd) dg_nil)) (gl1 (gl1 gl0))) (dss_one (ds_set 1 nd (de_op od_add (de_var 1) (de_comp (own := [("column", 4), ("entry", 5)]) rfl nd (di_enum (by rfl) B.enumerate_ (da_cons (de_var 3) da_nil)) (blkOk_by (N := N__law_known) (sc := defScope s__law_known) (by decide +kernel)) (fun _ _ _ _ _ => (dg_tup rfl (dg_cons (dg_name 4 nd) (dg_cons (dg_name 5 nd) dg_nil)) (gl1 (gl1 gl0)))) (fun _ _ _ _ _ => (dts_one (dt_cmp od_isnot (de_var 5) de_non))) (fun _ _ _ _ _ => (de_tup (da_cons (de_var 2) (da_cons (de_var 4) (da_cons (de_var 5) da_nil))))))))))
      (dss_one (ds_ret (de_var 1)))))
theorem ok__law_real {f : Addr} {fd : FuncData} (F : Fun K "_law_real" "_law_real" s__law_real f fd) (B : Bi mg) (c__law_known : Cal P w K mg base C 1 "_law_known" ["table"] m_law_known) (c__law_lcm : Cal P w K mg base C 2 "_law_lcm" ["one", "other"] m_law_lcm) : FnOk P w K mg base CX0 3 f fd ["table"] (spD K C m_law_real_2) :=
  have nd := sc__law_real.nd
  fnD (k := 2) F sc__law_real (by decide) fun cdv A outer s H E hr =>
    (dss_cons (ds_set 1 nd (de_call c__law_known hr (by rfl) (da_cons (de_var 0) da_nil)))
      (dss_cons (ds_for PassesOwn.never rfl (di_seq (de_var 1)) (dg_tup rfl (dg_cons (dg_name 2 nd) (dg_cons (dg_name 3 nd) (dg_cons (dg_name 4 nd) dg_nil))) (gl1 (gl1 (gl1 gl0)))) (dss_cons (ds_setLc 5 (own := [("at", 8), ("to", 9), ("other", 10)]) rfl nd (di_seq (de_var 1)) (blkOk_by (N := N__law_real) (sc := defScope s__law_real) (by decide +kernel)) (fun _ _ _ _ _ => (dg_tup rfl (dg_cons (dg_name 8 nd) (dg_cons (dg_name 9 nd) (dg_cons (dg_name 10 nd) dg_nil))) (gl1 (gl1 (gl1 gl0))))) (fun _ _ _ _ _ => (dts_one (dt_w (dw_and (dt_cmp (od_eq hr.units) (de_var 8) (de_var 2)) (dw_and1 (dt_cmp (od_ne hr.units) (de_var 9) (de_var 3))))))) (fun _ _ _ _ _ => (de_var 10)))
      (dss_cons (ds_setLc 6 (own := [("at", 8), ("to", 9), ("other", 10)]) rfl nd (di_seq (de_var 1)) (blkOk_by (N := N__law_real) (sc := defScope s__law_real) (by decide +kernel)) (fun _ _ _ _ _ => (dg_tup rfl (dg_cons (dg_name 8 nd) (dg_cons (dg_name 9 nd) (dg_cons (dg_name 10 nd) dg_nil))) (gl1 (gl1 (gl1 gl0))))) (fun _ _ _ _ _ => (dts_one (dt_w (dw_and (dt_cmp (od_ne hr.units) (de_var 8) (de_var 2)) (dw_and1 (dt_cmp (od_eq hr.units) (de_var 9) (de_var 3))))))) (fun _ _ _ _ _ => (de_var 10)))
      (dss_one (ds_for PassesOwn.never rfl (di_seq (de_var 5)) (dg_name 7 nd) (dss_one (ds_if (dt_cmp (od_ne hr.units) (de_comp (own := [("other", 10)]) rfl nd (di_seq (de_var 6)) (blkOk_by (N := N__law_real) (sc := defScope s__law_real) (by decide +kernel)) (fun _ _ _ _ _ => (dg_name 10 nd)) (fun _ _ _ _ _ => (dts_one (dt_cmp (od_ne hr.units) (de_op od_mod (de_call c__law_lcm hr (by rfl) (da_cons (de_var 7) (da_cons (de_var 10) da_nil))) (de_var 4)) de_int))) (fun _ _ _ _ _ => (de_var 10))) (de_lst da_nil)) (dss_one (ds_ret de_bl)) dss_nil)))))))
      (dss_one (ds_ret de_bl))))
theorem ok__law_least {f : Addr} {fd : FuncData} (F : Fun K "_law_least" "_law_least" s__law_least f fd) (B : Bi mg) (c__law_known : Cal P w K mg base C 1 "_law_known" ["table"] m_law_known) (c__law_real : Cal P w K mg base C 3 "_law_real" ["table"] m_law_real_2) : FnOk P w K mg base CX0 4 f fd ["table"] (spD K C m_law_least) :=
  have nd := sc__law_least.nd
  fnD (k := 3) F sc__law_least (by decide) fun cdv A outer s H E hr =>
    (dss_cons (ds_setLc 1 (own := [("row", 6), ("column", 9), ("entry", 10)]) rfl nd (di_seq (de_call c__law_known hr (by rfl) (da_cons (de_var 0) da_nil))) (blkOk_by (N := N__law_least) (sc := defScope s__law_least) (by decide +kernel)) (fun _ _ _ _ _ => (dg_tup rfl (dg_cons (dg_name 6 nd) (dg_cons (dg_name 9 nd) (dg_cons (dg_name 10 nd) dg_nil))) (gl1 (gl1 (gl1 gl0))))) (fun _ _ _ _ _ => dts_nil) (fun _ _ _ _ _ => (de_tup (da_cons (de_var 6) (da_cons (de_var 9) da_nil)))))
      (dss_cons (ds_set 2 nd (de_lst (da_cons (de_tup da_nil) da_nil)))
      (dss_cons (ds_for PassesOwn.never rfl (di_rng1 (by rfl) B.range_ (da_cons (de_op od_add (de_callB cd_len (by rfl) B.len_ bt_len (da_cons (de_var 1) da_nil)) de_int) da_nil)) (dg_name 3 nd) (dss_cons (ds_for PassesOwn.never rfl (di_seq (de_var 2)) (dg_name 4 nd) (dss_cons (ds_setN 5 nd (dn_lst da_nil))
      (dss_cons (ds_for PassesOwn.never rfl (di_enum (by rfl) B.enumerate_ (da_cons (de_var 0) da_nil)) (dg_tup rfl (dg_cons (dg_name 6 nd) (dg_cons (dg_name 7 nd) dg_nil)) (gl1 (gl1 gl0))) (dss_one (ds_app 5 (de_callTy cd_tuple (by rfl) B.tuple_ bt_tuple (da_cons (de_comp (own := [("at", 12), ("entry", 10)]) rfl nd (di_enum (by rfl) B.enumerate_ (da_cons (de_var 7) da_nil)) (blkOk_by (N := N__law_least) (sc := defScope s__law_least) (by decide +kernel)) (fun _ _ _ _ _ => (dg_tup rfl (dg_cons (dg_name 12 nd) (dg_cons (dg_name 10 nd) dg_nil)) (gl1 (gl1 gl0)))) (fun _ _ _ _ _ => dts_nil) (fun _ _ _ _ _ => (de_if (dt_cmp (od_in (hu65 hr)) (de_tup (da_cons (de_var 6) (da_cons (de_var 12) da_nil))) (de_var 4)) de_non (de_var 10)))) da_nil)))))
      (dss_one (ds_frz (O1 := []) 5 (ds_if (dt_val (de_call c__law_real hr (by rfl) (da_cons (de_callTy cd_tuple (by rfl) B.tuple_ bt_tuple (da_cons (de_var 5) da_nil)) da_nil))) (dss_one (ds_ret (de_var 3))) dss_nil))))))
      (dss_cons (ds_set 8 nd (de_lst da_nil))
      (dss_cons (ds_for PassesOwn.never rfl (di_seq (de_var 2)) (dg_name 4 nd) (dss_one (ds_set 8 nd (de_op od_add (de_var 8) (de_comp (own := [("place", 11)]) rfl nd (di_seq (de_var 1)) (blkOk_by (N := N__law_least) (sc := defScope s__law_least) (by decide +kernel)) (fun _ _ _ _ _ => (dg_name 11 nd)) (fun _ _ _ _ _ => (dts_one (dt_w (dw_or (dt_cmp (od_eq hr.units) (de_var 4) (de_tup da_nil)) (dw_or1 (dt_cmp (od_gt hr.units0) (de_var 11) (de_ix ix_d (de_var 4) (de_op od_sub (de_callB cd_len (by rfl) B.len_ bt_len (da_cons (de_var 4) da_nil)) de_int)))))))) (fun _ _ _ _ _ => (de_op od_add (de_var 4) (de_tup (da_cons (de_var 11) da_nil)))))))))
      (dss_one (ds_set 2 nd (de_var 8)))))))
      (dss_one (ds_ret de_non)))))
theorem ok_law {f : Addr} {fd : FuncData} (F : Fun K "law" "law" s_law f fd) (B : Bi mg) (c__law_digits : Cal P w K mg base C 2 "_law_digits" ["script", "index", "count", "base"] m_law_digits) (c__law_hidden : Cal P w K mg base C 1 "_law_hidden" ["table", "digits", "often"] m_law_hidden) (c__law_least : Cal P w K mg base C 4 "_law_least" ["table"] m_law_least) (c__law_numbers : Cal P w K mg base C 1 "_law_numbers" ["digits", "many", "wide"] m_law_numbers) (c__law_spoilt : Cal P w K mg base C 1 "_law_spoilt" ["table", "digits"] m_law_spoilt) (c__law_table : Cal P w K mg base C 3 "_law_table" ["rows", "columns"] m_law_table) (c_fewest_wrong : Cal P w K mg base C 5 "fewest_wrong" ["table"] m_fewest_wrong) (c_is_real : Cal P w K mg base C 4 "is_real" ["table"] m_is_real) : FnOk P w K mg base CX0 6 f fd ["script"] (spD K C m_k06) :=
  have nd := sc_law.nd
  fnD (k := 5) F sc_law (by decide) fun cdv A outer s H E hr =>
    (dss_cons (ds_for PassesOwn.never rfl (di_rng1 (by rfl) B.range_ (da_cons de_int da_nil)) (dg_name 1 nd) (dss_cons (ds_set 2 nd (de_call c__law_digits hr (by rfl) (da_cons (de_var 0) (da_cons (de_var 1) (da_cons de_int (da_cons de_int da_nil))))))
      (dss_cons (ds_asg (de_call c__law_numbers hr (by rfl) (da_cons (de_var 2) (da_cons (de_op od_add de_int (de_op od_mod (de_ix ix_d (de_var 2) de_int) de_int)) (da_cons (de_op od_add de_int (de_op od_mod (de_ix ix_d (de_var 2) de_int) de_int)) da_nil)))) (dg_tup rfl (dg_cons (dg_name 3 nd) (dg_cons (dg_name 4 nd) dg_nil)) (gl1 (gl1 gl0))))
      (dss_cons (ds_set 5 nd (de_call c__law_hidden hr (by rfl) (da_cons (de_call c__law_table hr (by rfl) (da_cons (de_var 3) (da_cons (de_var 4) da_nil))) (da_cons (de_slice (de_var 2) (do_ix de_int) do_no) (da_cons de_int da_nil)))))
      (dss_cons (ds_set 6 nd (de_call c__law_spoilt hr (by rfl) (da_cons (de_var 5) (da_cons (de_slice (de_var 2) (do_ix de_int) do_no) da_nil))))
      (dss_cons (ds_set 7 nd (de_call c__law_spoilt hr (by rfl) (da_cons (de_var 6) (da_cons (de_slice (de_var 2) (do_ix de_int) do_no) da_nil))))
      (dss_one (ds_for PassesOwn.never rfl (di_seq (de_tup (da_cons (de_tup (da_cons (de_var 5) (da_cons de_int da_nil))) (da_cons (de_tup (da_cons (de_var 6) (da_cons de_int da_nil))) (da_cons (de_tup (da_cons (de_var 7) (da_cons de_int da_nil))) da_nil))))) (dg_tup rfl (dg_cons (dg_name 8 nd) (dg_cons (dg_name 9 nd) dg_nil)) (gl1 (gl1 gl0))) (dss_cons (ds_set 10 nd (de_call c_fewest_wrong hr (by rfl) (da_cons (de_var 8) da_nil)))
      (dss_one (ds_if (dt_w (dw_or (dt_cmp (od_ne hr.units) (de_var 10) (de_call c__law_least hr (by rfl) (da_cons (de_var 8) da_nil))) (dw_or (dt_cmp (od_gt hr.units0) (de_var 10) (de_var 9)) (dw_or1 (dt_cmp (od_ne hr.units) (de_cmp (od_eq hr.units) (de_var 10) de_int) (de_call c_is_real hr (by rfl) (da_cons (de_var 8) da_nil))))))) (dss_one (ds_ret de_bl)) dss_nil)))))))))))
      (dss_cons (ds_if (dt_w (dw_or (dt_cmp (od_ne hr.units) (de_call c_fewest_wrong hr (by rfl) (da_cons (de_tup (da_cons (de_tup (da_cons de_int (da_cons de_int da_nil))) (da_cons (de_tup (da_cons de_int (da_cons de_int da_nil))) da_nil))) da_nil)) de_int) (dw_or1 (dt_cmp (od_ne hr.units) (de_call c_fewest_wrong hr (by rfl) (da_cons (de_tup (da_cons (de_tup (da_cons de_int (da_cons de_int da_nil))) (da_cons (de_tup (da_cons de_int (da_cons de_int da_nil))) da_nil))) da_nil)) de_int)))) (dss_one (ds_ret de_bl)) dss_nil)
      (dss_one (ds_ret (de_and (de_cmp (od_eq hr.units) (de_call c_fewest_wrong hr (by rfl) (da_cons (de_tup (da_cons (de_tup (da_cons de_int (da_cons de_int (da_cons de_int da_nil)))) (da_cons (de_tup (da_cons de_int (da_cons de_int (da_cons de_int da_nil)))) (da_cons (de_tup (da_cons de_int (da_cons de_int (da_cons de_int da_nil)))) da_nil)))) da_nil)) de_int) (de_one (de_cmp (od_eq hr.units) (de_call c_fewest_wrong hr (by rfl) (da_cons (de_tup (da_cons (de_tup (da_cons de_non da_nil)) da_nil)) da_nil)) de_int)))))))
end
end My
namespace My
open PySem PySem.Spec PyProof.Rows L2 DL Mi
theorem all_mk {l : PySem.W.OpenLaw} {w : World} {K : PySem.W.Frag} {h : Heap} {mg : Str → Option Value} {fa f0 f1 f2 f3 f4 f5 f6 f7 f8 f9 f10 f11 f12 f13 f14 f15 f16 f17 f18 f19 f20 : Addr} (X : K.In h) (G : h.Ns mainGlobals mg) (hfa : mg "law" = some (.ref fa))
    {od0 an0 : Option Addr} {sl0 : Array (Option Value)} {oc0 kV0 dc0 pm0 cd0 ct0 : Value} (a0 : PySem.W.nsIn K mainGlobals "gcd" = some (some (.ref f0))) (l0 : K.lookup f0 = some ⟨oc0, od0, .func (PySem.W.fnOf "gcd" "gcd" (defArgs s_gcd) (defBody s_gcd) (defScope s_gcd) .none kV0 dc0 pm0 an0 cd0 ct0), sl0⟩) (c0 : PySem.W.codeIn K cd0 "gcd" = true) (k0 : PySem.W.keepIn K (.ref f0) = true)
    {od1 an1 : Option Addr} {sl1 : Array (Option Value)} {oc1 kV1 dc1 pm1 cd1 ct1 : Value} (a1 : PySem.W.nsIn K mainGlobals "lcm" = some (some (.ref f1))) (l1 : K.lookup f1 = some ⟨oc1, od1, .func (PySem.W.fnOf "lcm" "lcm" (defArgs s_lcm) (defBody s_lcm) (defScope s_lcm) .none kV1 dc1 pm1 an1 cd1 ct1), sl1⟩) (c1 : PySem.W.codeIn K cd1 "lcm" = true) (k1 : PySem.W.keepIn K (.ref f1) = true)
    {od2 an2 : Option Addr} {sl2 : Array (Option Value)} {oc2 kV2 dc2 pm2 cd2 ct2 : Value} (a2 : PySem.W.nsIn K mainGlobals "turned" = some (some (.ref f2))) (l2 : K.lookup f2 = some ⟨oc2, od2, .func (PySem.W.fnOf "turned" "turned" (defArgs s_turned) (defBody s_turned) (defScope s_turned) .none kV2 dc2 pm2 an2 cd2 ct2), sl2⟩) (c2 : PySem.W.codeIn K cd2 "turned" = true) (k2 : PySem.W.keepIn K (.ref f2) = true)
    {od3 an3 : Option Addr} {sl3 : Array (Option Value)} {oc3 kV3 dc3 pm3 cd3 ct3 : Value} (a3 : PySem.W.nsIn K mainGlobals "row_divisor" = some (some (.ref f3))) (l3 : K.lookup f3 = some ⟨oc3, od3, .func (PySem.W.fnOf "row_divisor" "row_divisor" (defArgs s_row_divisor) (defBody s_row_divisor) (defScope s_row_divisor) .none kV3 dc3 pm3 an3 cd3 ct3), sl3⟩) (c3 : PySem.W.codeIn K cd3 "row_divisor" = true) (k3 : PySem.W.keepIn K (.ref f3) = true)
    {od4 an4 : Option Addr} {sl4 : Array (Option Value)} {oc4 kV4 dc4 pm4 cd4 ct4 : Value} (a4 : PySem.W.nsIn K mainGlobals "greatest" = some (some (.ref f4))) (l4 : K.lookup f4 = some ⟨oc4, od4, .func (PySem.W.fnOf "greatest" "greatest" (defArgs s_greatest) (defBody s_greatest) (defScope s_greatest) .none kV4 dc4 pm4 an4 cd4 ct4), sl4⟩) (c4 : PySem.W.codeIn K cd4 "greatest" = true) (k4 : PySem.W.keepIn K (.ref f4) = true)
    {od5 an5 : Option Addr} {sl5 : Array (Option Value)} {oc5 kV5 dc5 pm5 cd5 ct5 : Value} (a5 : PySem.W.nsIn K mainGlobals "known_places" = some (some (.ref f5))) (l5 : K.lookup f5 = some ⟨oc5, od5, .func (PySem.W.fnOf "known_places" "known_places" (defArgs s_known_places) (defBody s_known_places) (defScope s_known_places) .none kV5 dc5 pm5 an5 cd5 ct5), sl5⟩) (c5 : PySem.W.codeIn K cd5 "known_places" = true) (k5 : PySem.W.keepIn K (.ref f5) = true)
    {od6 an6 : Option Addr} {sl6 : Array (Option Value)} {oc6 kV6 dc6 pm6 cd6 ct6 : Value} (a6 : PySem.W.nsIn K mainGlobals "is_real" = some (some (.ref f6))) (l6 : K.lookup f6 = some ⟨oc6, od6, .func (PySem.W.fnOf "is_real" "is_real" (defArgs s_is_real) (defBody s_is_real) (defScope s_is_real) .none kV6 dc6 pm6 an6 cd6 ct6), sl6⟩) (c6 : PySem.W.codeIn K cd6 "is_real" = true) (k6 : PySem.W.keepIn K (.ref f6) = true)
    {od7 an7 : Option Addr} {sl7 : Array (Option Value)} {oc7 kV7 dc7 pm7 cd7 ct7 : Value} (a7 : PySem.W.nsIn K mainGlobals "without" = some (some (.ref f7))) (l7 : K.lookup f7 = some ⟨oc7, od7, .func (PySem.W.fnOf "without" "without" (defArgs s_without) (defBody s_without) (defScope s_without) .none kV7 dc7 pm7 an7 cd7 ct7), sl7⟩) (c7 : PySem.W.codeIn K cd7 "without" = true) (k7 : PySem.W.keepIn K (.ref f7) = true)
    {od8 an8 : Option Addr} {sl8 : Array (Option Value)} {oc8 kV8 dc8 pm8 cd8 ct8 : Value} (a8 : PySem.W.nsIn K mainGlobals "fewest_wrong" = some (some (.ref f8))) (l8 : K.lookup f8 = some ⟨oc8, od8, .func (PySem.W.fnOf "fewest_wrong" "fewest_wrong" (defArgs s_fewest_wrong) (defBody s_fewest_wrong) (defScope s_fewest_wrong) .none kV8 dc8 pm8 an8 cd8 ct8), sl8⟩) (c8 : PySem.W.codeIn K cd8 "fewest_wrong" = true) (k8 : PySem.W.keepIn K (.ref f8) = true)
    {od9 an9 : Option Addr} {sl9 : Array (Option Value)} {oc9 kV9 dc9 pm9 cd9 ct9 : Value} (a9 : PySem.W.nsIn K mainGlobals "_law_cell" = some (some (.ref f9))) (l9 : K.lookup f9 = some ⟨oc9, od9, .func (PySem.W.fnOf "_law_cell" "_law_cell" (defArgs s__law_cell) (defBody s__law_cell) (defScope s__law_cell) .none kV9 dc9 pm9 an9 cd9 ct9), sl9⟩) (c9 : PySem.W.codeIn K cd9 "_law_cell" = true) (k9 : PySem.W.keepIn K (.ref f9) = true)
    {od10 an10 : Option Addr} {sl10 : Array (Option Value)} {oc10 kV10 dc10 pm10 cd10 ct10 : Value} (a10 : PySem.W.nsIn K mainGlobals "_law_digits" = some (some (.ref f10))) (l10 : K.lookup f10 = some ⟨oc10, od10, .func (PySem.W.fnOf "_law_digits" "_law_digits" (defArgs s__law_digits) (defBody s__law_digits) (defScope s__law_digits) .none kV10 dc10 pm10 an10 cd10 ct10), sl10⟩) (c10 : PySem.W.codeIn K cd10 "_law_digits" = true) (k10 : PySem.W.keepIn K (.ref f10) = true)
    {od11 an11 : Option Addr} {sl11 : Array (Option Value)} {oc11 kV11 dc11 pm11 cd11 ct11 : Value} (a11 : PySem.W.nsIn K mainGlobals "_law_gcd" = some (some (.ref f11))) (l11 : K.lookup f11 = some ⟨oc11, od11, .func (PySem.W.fnOf "_law_gcd" "_law_gcd" (defArgs s__law_gcd) (defBody s__law_gcd) (defScope s__law_gcd) .none kV11 dc11 pm11 an11 cd11 ct11), sl11⟩) (c11 : PySem.W.codeIn K cd11 "_law_gcd" = true) (k11 : PySem.W.keepIn K (.ref f11) = true)
    {od12 an12 : Option Addr} {sl12 : Array (Option Value)} {oc12 kV12 dc12 pm12 cd12 ct12 : Value} (a12 : PySem.W.nsIn K mainGlobals "_law_lcm" = some (some (.ref f12))) (l12 : K.lookup f12 = some ⟨oc12, od12, .func (PySem.W.fnOf "_law_lcm" "_law_lcm" (defArgs s__law_lcm) (defBody s__law_lcm) (defScope s__law_lcm) .none kV12 dc12 pm12 an12 cd12 ct12), sl12⟩) (c12 : PySem.W.codeIn K cd12 "_law_lcm" = true) (k12 : PySem.W.keepIn K (.ref f12) = true)
    {od13 an13 : Option Addr} {sl13 : Array (Option Value)} {oc13 kV13 dc13 pm13 cd13 ct13 : Value} (a13 : PySem.W.nsIn K mainGlobals "_law_numbers" = some (some (.ref f13))) (l13 : K.lookup f13 = some ⟨oc13, od13, .func (PySem.W.fnOf "_law_numbers" "_law_numbers" (defArgs s__law_numbers) (defBody s__law_numbers) (defScope s__law_numbers) .none kV13 dc13 pm13 an13 cd13 ct13), sl13⟩) (c13 : PySem.W.codeIn K cd13 "_law_numbers" = true) (k13 : PySem.W.keepIn K (.ref f13) = true)
    {od14 an14 : Option Addr} {sl14 : Array (Option Value)} {oc14 kV14 dc14 pm14 cd14 ct14 : Value} (a14 : PySem.W.nsIn K mainGlobals "_law_table" = some (some (.ref f14))) (l14 : K.lookup f14 = some ⟨oc14, od14, .func (PySem.W.fnOf "_law_table" "_law_table" (defArgs s__law_table) (defBody s__law_table) (defScope s__law_table) .none kV14 dc14 pm14 an14 cd14 ct14), sl14⟩) (c14 : PySem.W.codeIn K cd14 "_law_table" = true) (k14 : PySem.W.keepIn K (.ref f14) = true)
    {od15 an15 : Option Addr} {sl15 : Array (Option Value)} {oc15 kV15 dc15 pm15 cd15 ct15 : Value} (a15 : PySem.W.nsIn K mainGlobals "_law_hidden" = some (some (.ref f15))) (l15 : K.lookup f15 = some ⟨oc15, od15, .func (PySem.W.fnOf "_law_hidden" "_law_hidden" (defArgs s__law_hidden) (defBody s__law_hidden) (defScope s__law_hidden) .none kV15 dc15 pm15 an15 cd15 ct15), sl15⟩) (c15 : PySem.W.codeIn K cd15 "_law_hidden" = true) (k15 : PySem.W.keepIn K (.ref f15) = true)
    {od16 an16 : Option Addr} {sl16 : Array (Option Value)} {oc16 kV16 dc16 pm16 cd16 ct16 : Value} (a16 : PySem.W.nsIn K mainGlobals "_law_spoilt" = some (some (.ref f16))) (l16 : K.lookup f16 = some ⟨oc16, od16, .func (PySem.W.fnOf "_law_spoilt" "_law_spoilt" (defArgs s__law_spoilt) (defBody s__law_spoilt) (defScope s__law_spoilt) .none kV16 dc16 pm16 an16 cd16 ct16), sl16⟩) (c16 : PySem.W.codeIn K cd16 "_law_spoilt" = true) (k16 : PySem.W.keepIn K (.ref f16) = true)
    {od17 an17 : Option Addr} {sl17 : Array (Option Value)} {oc17 kV17 dc17 pm17 cd17 ct17 : Value} (a17 : PySem.W.nsIn K mainGlobals "_law_known" = some (some (.ref f17))) (l17 : K.lookup f17 = some ⟨oc17, od17, .func (PySem.W.fnOf "_law_known" "_law_known" (defArgs s__law_known) (defBody s__law_known) (defScope s__law_known) .none kV17 dc17 pm17 an17 cd17 ct17), sl17⟩) (c17 : PySem.W.codeIn K cd17 "_law_known" = true) (k17 : PySem.W.keepIn K (.ref f17) = true)
    {od18 an18 : Option Addr} {sl18 : Array (Option Value)} {oc18 kV18 dc18 pm18 cd18 ct18 : Value} (a18 : PySem.W.nsIn K mainGlobals "_law_real" = some (some (.ref f18))) (l18 : K.lookup f18 = some ⟨oc18, od18, .func (PySem.W.fnOf "_law_real" "_law_real" (defArgs s__law_real) (defBody s__law_real) (defScope s__law_real) .none kV18 dc18 pm18 an18 cd18 ct18), sl18⟩) (c18 : PySem.W.codeIn K cd18 "_law_real" = true) (k18 : PySem.W.keepIn K (.ref f18) = true)
    {od19 an19 : Option Addr} {sl19 : Array (Option Value)} {oc19 kV19 dc19 pm19 cd19 ct19 : Value} (a19 : PySem.W.nsIn K mainGlobals "_law_least" = some (some (.ref f19))) (l19 : K.lookup f19 = some ⟨oc19, od19, .func (PySem.W.fnOf "_law_least" "_law_least" (defArgs s__law_least) (defBody s__law_least) (defScope s__law_least) .none kV19 dc19 pm19 an19 cd19 ct19), sl19⟩) (c19 : PySem.W.codeIn K cd19 "_law_least" = true) (k19 : PySem.W.keepIn K (.ref f19) = true)
    {od20 an20 : Option Addr} {sl20 : Array (Option Value)} {oc20 kV20 dc20 pm20 cd20 ct20 : Value} (a20 : PySem.W.nsIn K mainGlobals "law" = some (some (.ref f20))) (l20 : K.lookup f20 = some ⟨oc20, od20, .func (PySem.W.fnOf "law" "law" (defArgs s_law) (defBody s_law) (defScope s_law) .none kV20 dc20 pm20 an20 cd20 ct20), sl20⟩) (c20 : PySem.W.codeIn K cd20 "law" = true) (k20 : PySem.W.keepIn K (.ref f20) = true)
    (z_all : PySem.W.nsIn K mainGlobals "all" = some none)
    (z_enumerate : PySem.W.nsIn K mainGlobals "enumerate" = some none)
    (z_len : PySem.W.nsIn K mainGlobals "len" = some none)
    (z_list : PySem.W.nsIn K mainGlobals "list" = some none)
    (z_min : PySem.W.nsIn K mainGlobals "min" = some none)
    (z_range : PySem.W.nsIn K mainGlobals "range" = some none)
    (z_tuple : PySem.W.nsIn K mainGlobals "tuple" = some none)
    : ∃ fd : FuncData, (∀ (s : Shared) (v : Value), BindsTo s fd ⟨[v], []⟩ [("script", v)]) ∧ ∀ base : Heap, K.In base → base.Ns mainGlobals mg → FnOk l.prog w K mg base CX0 6 fa fd ["script"] (spD K 0 m_k06) := by
  have e := hfa.symm.trans (PySem.W.mg_of X G a20)
  cases e
  have F0 := fun_mk (st := s_gcd) l0 c0 k0
  have F1 := fun_mk (st := s_lcm) l1 c1 k1
  have F2 := fun_mk (st := s_turned) l2 c2 k2
  have F3 := fun_mk (st := s_row_divisor) l3 c3 k3
  have F4 := fun_mk (st := s_greatest) l4 c4 k4
  have F5 := fun_mk (st := s_known_places) l5 c5 k5
  have F6 := fun_mk (st := s_is_real) l6 c6 k6
  have F7 := fun_mk (st := s_without) l7 c7 k7
  have F8 := fun_mk (st := s_fewest_wrong) l8 c8 k8
  have F9 := fun_mk (st := s__law_cell) l9 c9 k9
  have F10 := fun_mk (st := s__law_digits) l10 c10 k10
  have F11 := fun_mk (st := s__law_gcd) l11 c11 k11
  have F12 := fun_mk (st := s__law_lcm) l12 c12 k12
  have F13 := fun_mk (st := s__law_numbers) l13 c13 k13
  have F14 := fun_mk (st := s__law_table) l14 c14 k14
  have F15 := fun_mk (st := s__law_hidden) l15 c15 k15
  have F16 := fun_mk (st := s__law_spoilt) l16 c16 k16
  have F17 := fun_mk (st := s__law_known) l17 c17 k17
  have F18 := fun_mk (st := s__law_real) l18 c18 k18
  have F19 := fun_mk (st := s__law_least) l19 c19 k19
  have F20 := fun_mk (st := s_law) l20 c20 k20
  have B : Bi mg := ⟨PySem.W.mg_none_of X G z_all, PySem.W.mg_none_of X G z_enumerate, PySem.W.mg_none_of X G z_len, PySem.W.mg_none_of X G z_list, PySem.W.mg_none_of X G z_min, PySem.W.mg_none_of X G z_range, PySem.W.mg_none_of X G z_tuple⟩
  have b0 := F0.binds (ps := ["one", "other"]) fun _ _ _ _ _ _ us hl => match us, hl with | [_, _], _ => rfl
  have b1 := F1.binds (ps := ["one", "other"]) fun _ _ _ _ _ _ us hl => match us, hl with | [_, _], _ => rfl
  have b2 := F2.binds (ps := ["table"]) fun _ _ _ _ _ _ us hl => match us, hl with | [_], _ => rfl
  have b3 := F3.binds (ps := ["row"]) fun _ _ _ _ _ _ us hl => match us, hl with | [_], _ => rfl
  have b4 := F4.binds (ps := ["table"]) fun _ _ _ _ _ _ us hl => match us, hl with | [_], _ => rfl
  have b5 := F5.binds (ps := ["table"]) fun _ _ _ _ _ _ us hl => match us, hl with | [_], _ => rfl
  have b6 := F6.binds (ps := ["table"]) fun _ _ _ _ _ _ us hl => match us, hl with | [_], _ => rfl
  have b7 := F7.binds (ps := ["table", "places"]) fun _ _ _ _ _ _ us hl => match us, hl with | [_, _], _ => rfl
  have b8 := F8.binds (ps := ["table"]) fun _ _ _ _ _ _ us hl => match us, hl with | [_], _ => rfl
  have b9 := F9.binds (ps := ["script", "index"]) fun _ _ _ _ _ _ us hl => match us, hl with | [_, _], _ => rfl
  have b10 := F10.binds (ps := ["script", "index", "count", "base"]) fun _ _ _ _ _ _ us hl => match us, hl with | [_, _, _, _], _ => rfl
  have b11 := F11.binds (ps := ["one", "other"]) fun _ _ _ _ _ _ us hl => match us, hl with | [_, _], _ => rfl
  have b12 := F12.binds (ps := ["one", "other"]) fun _ _ _ _ _ _ us hl => match us, hl with | [_, _], _ => rfl
  have b13 := F13.binds (ps := ["digits", "many", "wide"]) fun _ _ _ _ _ _ us hl => match us, hl with | [_, _, _], _ => rfl
  have b14 := F14.binds (ps := ["rows", "columns"]) fun _ _ _ _ _ _ us hl => match us, hl with | [_, _], _ => rfl
  have b15 := F15.binds (ps := ["table", "digits", "often"]) fun _ _ _ _ _ _ us hl => match us, hl with | [_, _, _], _ => rfl
  have b16 := F16.binds (ps := ["table", "digits"]) fun _ _ _ _ _ _ us hl => match us, hl with | [_, _], _ => rfl
  have b17 := F17.binds (ps := ["table"]) fun _ _ _ _ _ _ us hl => match us, hl with | [_], _ => rfl
  have b18 := F18.binds (ps := ["table"]) fun _ _ _ _ _ _ us hl => match us, hl with | [_], _ => rfl
  have b19 := F19.binds (ps := ["table"]) fun _ _ _ _ _ _ us hl => match us, hl with | [_], _ => rfl
  refine ⟨PySem.W.fnOf "law" "law" (defArgs s_law) (defBody s_law) (defScope s_law) .none kV20 dc20 pm20 an20 cd20 ct20, fun s v => .of_eq rfl, fun base _ _ => ?_⟩
  have C_gcd : Cal l.prog w K mg base 0 1 "gcd" ["one", "other"] m_gcd := ⟨⟨_, _, ok_gcd F0 B , PySem.W.mg_of X G a0, F0.kp, b0⟩⟩
  have C_lcm : Cal l.prog w K mg base 0 2 "lcm" ["one", "other"] m_lcm := ⟨⟨_, _, ok_lcm F1 B C_gcd, PySem.W.mg_of X G a1, F1.kp, b1⟩⟩
  have C_turned : Cal l.prog w K mg base 0 1 "turned" ["table"] m_turned := ⟨⟨_, _, ok_turned F2 B , PySem.W.mg_of X G a2, F2.kp, b2⟩⟩
  have C_row_divisor : Cal l.prog w K mg base 0 2 "row_divisor" ["row"] m_row_divisor := ⟨⟨_, _, ok_row_divisor F3 B C_gcd, PySem.W.mg_of X G a3, F3.kp, b3⟩⟩
  have C_greatest : Cal l.prog w K mg base 0 3 "greatest" ["table"] m_greatest := ⟨⟨_, _, ok_greatest F4 B C_row_divisor C_turned, PySem.W.mg_of X G a4, F4.kp, b4⟩⟩
  have C_known_places : Cal l.prog w K mg base 0 1 "known_places" ["table"] m_known_places := ⟨⟨_, _, ok_known_places F5 B , PySem.W.mg_of X G a5, F5.kp, b5⟩⟩
  have C_is_real : Cal l.prog w K mg base 0 4 "is_real" ["table"] m_is_real := ⟨⟨_, _, ok_is_real F6 B C_greatest C_known_places C_lcm, PySem.W.mg_of X G a6, F6.kp, b6⟩⟩
  have C_without : Cal l.prog w K mg base 0 1 "without" ["table", "places"] m_without := ⟨⟨_, _, ok_without F7 B , PySem.W.mg_of X G a7, F7.kp, b7⟩⟩
  have C_fewest_wrong : Cal l.prog w K mg base 0 5 "fewest_wrong" ["table"] m_fewest_wrong := ⟨⟨_, _, ok_fewest_wrong F8 B C_is_real C_known_places C_without, PySem.W.mg_of X G a8, F8.kp, b8⟩⟩
  have C__law_cell : Cal l.prog w K mg base 0 1 "_law_cell" ["script", "index"] m_law_cell := ⟨⟨_, _, ok__law_cell F9 B , PySem.W.mg_of X G a9, F9.kp, b9⟩⟩
  have C__law_digits : Cal l.prog w K mg base 0 2 "_law_digits" ["script", "index", "count", "base"] m_law_digits := ⟨⟨_, _, ok__law_digits F10 B C__law_cell, PySem.W.mg_of X G a10, F10.kp, b10⟩⟩
  have C__law_gcd : Cal l.prog w K mg base 0 1 "_law_gcd" ["one", "other"] m_law_gcd := ⟨⟨_, _, ok__law_gcd F11 B , PySem.W.mg_of X G a11, F11.kp, b11⟩⟩
  have C__law_lcm : Cal l.prog w K mg base 0 2 "_law_lcm" ["one", "other"] m_law_lcm := ⟨⟨_, _, ok__law_lcm F12 B C__law_gcd, PySem.W.mg_of X G a12, F12.kp, b12⟩⟩
  have C__law_numbers : Cal l.prog w K mg base 0 1 "_law_numbers" ["digits", "many", "wide"] m_law_numbers := ⟨⟨_, _, ok__law_numbers F13 B , PySem.W.mg_of X G a13, F13.kp, b13⟩⟩
  have C__law_table : Cal l.prog w K mg base 0 3 "_law_table" ["rows", "columns"] m_law_table := ⟨⟨_, _, ok__law_table F14 B C__law_lcm, PySem.W.mg_of X G a14, F14.kp, b14⟩⟩
  have C__law_hidden : Cal l.prog w K mg base 0 1 "_law_hidden" ["table", "digits", "often"] m_law_hidden := ⟨⟨_, _, ok__law_hidden F15 B , PySem.W.mg_of X G a15, F15.kp, b15⟩⟩
  have C__law_spoilt : Cal l.prog w K mg base 0 1 "_law_spoilt" ["table", "digits"] m_law_spoilt := ⟨⟨_, _, ok__law_spoilt F16 B , PySem.W.mg_of X G a16, F16.kp, b16⟩⟩
  have C__law_known : Cal l.prog w K mg base 0 1 "_law_known" ["table"] m_law_known := ⟨⟨_, _, ok__law_known F17 B , PySem.W.mg_of X G a17, F17.kp, b17⟩⟩
  have C__law_real : Cal l.prog w K mg base 0 3 "_law_real" ["table"] m_law_real_2 := ⟨⟨_, _, ok__law_real F18 B C__law_known C__law_lcm, PySem.W.mg_of X G a18, F18.kp, b18⟩⟩
  have C__law_least : Cal l.prog w K mg base 0 4 "_law_least" ["table"] m_law_least := ⟨⟨_, _, ok__law_least F19 B C__law_known C__law_real, PySem.W.mg_of X G a19, F19.kp, b19⟩⟩
  exact ok_law F20 B C__law_digits C__law_hidden C__law_least C__law_numbers C__law_spoilt C__law_table C_fewest_wrong C_is_real
end My
open PySem PySem.W PyProof.Rows
set_option maxHeartbeats 0 in
theorem PySem.Challenge.cw_meetperiods_k06_whole_entries_that_must_holds : PySem.Challenge.rw_meetperiods_k06_whole_entries_that_must.Holds := by
  w_on; o_law; k_head; (case hw => w_witness2)
  k_fill
  refine L2.walk_of (l := PySem.Challenge.rw_meetperiods_k06_whole_entries_that_must) (n := 63) (k := 6) (x := "script") (CX := fun _ => L2.CX0) (sp := fun w => DL.spD _ 0 Mi.m_k06) rfl (by decide) rfl ⟨rfl, by decide, by decide⟩ (fun w h Y => PySem.W.kIn_of Y) ?F (fun _ H a ns hl _ hS => ⟨H, [.scr ns], .bl true, L2.Same.refl _, DL.RpL.one ⟨a, rfl, hS⟩, Mi.plain_k06 ns hl, fun _ _ _ _ r => r⟩) (fun _ _ _ _ _ h => h)
  case F =>
    intro w mg fa h KX G hmg
    refine' My.all_mk KX G hmg ?a0 ?l0 ?c0 ?k0 ?a1 ?l1 ?c1 ?k1 ?a2 ?l2 ?c2 ?k2 ?a3 ?l3 ?c3 ?k3 ?a4 ?l4 ?c4 ?k4 ?a5 ?l5 ?c5 ?k5 ?a6 ?l6 ?c6 ?k6 ?a7 ?l7 ?c7 ?k7 ?a8 ?l8 ?c8 ?k8 ?a9 ?l9 ?c9 ?k9 ?a10 ?l10 ?c10 ?k10 ?a11 ?l11 ?c11 ?k11 ?a12 ?l12 ?c12 ?k12 ?a13 ?l13 ?c13 ?k13 ?a14 ?l14 ?c14 ?k14 ?a15 ?l15 ?c15 ?k15 ?a16 ?l16 ?c16 ?k16 ?a17 ?l17 ?c17 ?k17 ?a18 ?l18 ?c18 ?k18 ?a19 ?l19 ?c19 ?k19 ?a20 ?l20 ?c20 ?k20 ?z_all ?z_enumerate ?z_len ?z_list ?z_min ?z_range ?z_tuple
    (case a0 => k_is)
    (case l0 => k_is)
    (case c0 => k_is)
    (case k0 => k_is)
    (case a1 => k_is)
    (case l1 => k_is)
    (case c1 => k_is)
    (case k1 => k_is)
    (case a2 => k_is)
    (case l2 => k_is)
    (case c2 => k_is)
    (case k2 => k_is)
    (case a3 => k_is)
    (case l3 => k_is)
    (case c3 => k_is)
    (case k3 => k_is)
    (case a4 => k_is)
    (case l4 => k_is)
    (case c4 => k_is)
    (case k4 => k_is)
    (case a5 => k_is)
    (case l5 => k_is)
    (case c5 => k_is)
    (case k5 => k_is)
    (case a6 => k_is)
    (case l6 => k_is)
    (case c6 => k_is)
    (case k6 => k_is)
    (case a7 => k_is)
    (case l7 => k_is)
    (case c7 => k_is)
    (case k7 => k_is)
    (case a8 => k_is)
    (case l8 => k_is)
    (case c8 => k_is)
    (case k8 => k_is)
    (case a9 => k_is)
    (case l9 => k_is)
    (case c9 => k_is)
    (case k9 => k_is)
    (case a10 => k_is)
    (case l10 => k_is)
    (case c10 => k_is)
    (case k10 => k_is)
    (case a11 => k_is)
    (case l11 => k_is)
    (case c11 => k_is)
    (case k11 => k_is)
    (case a12 => k_is)
    (case l12 => k_is)
    (case c12 => k_is)
    (case k12 => k_is)
    (case a13 => k_is)
    (case l13 => k_is)
    (case c13 => k_is)
    (case k13 => k_is)
    (case a14 => k_is)
    (case l14 => k_is)
    (case c14 => k_is)
    (case k14 => k_is)
    (case a15 => k_is)
    (case l15 => k_is)
    (case c15 => k_is)
    (case k15 => k_is)
    (case a16 => k_is)
    (case l16 => k_is)
    (case c16 => k_is)
    (case k16 => k_is)
    (case a17 => k_is)
    (case l17 => k_is)
    (case c17 => k_is)
    (case k17 => k_is)
    (case a18 => k_is)
    (case l18 => k_is)
    (case c18 => k_is)
    (case k18 => k_is)
    (case a19 => k_is)
    (case l19 => k_is)
    (case c19 => k_is)
    (case k19 => k_is)
    (case a20 => k_is)
    (case l20 => k_is)
    (case c20 => k_is)
    (case k20 => k_is)
    (case z_all => k_is)
    (case z_enumerate => k_is)
    (case z_len => k_is)
    (case z_list => k_is)
    (case z_min => k_is)
    (case z_range => k_is)
    (case z_tuple => k_is)
