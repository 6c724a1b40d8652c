import PyProof.Rows.All
import Wide.All
import OpenK.AllK
import Wide.FinOn
import HandS.ClsMeth
import HandS.Deep
import HandS.Flow
import HandS.ForMost
import HandS.GenCall
import HandS.GenList
import HandS.GenYield
import HandS.IsInst
import HandS.Property
import HandS.SetFor
import HandS.SortInts
import HandS.SortRule
import HandS.Star
import HandS.Strs
import HandS.Style
import HandS.TupAny
import HandS.TupLe
import HandS.TupMul
import HandS.TupSets
import HandS.Wide
import HandS.Zip
import KE.DataMinMax
import KE.GoesEnum
import KE.GoesMore
import KE.GoesZip
import KE.SortData
import PyProof.P3In
import PySem.Challenge.RW_meetperiods_k27_whole_rings_by_their_ind
set_option Elab.async false
set_option linter.all false
set_option maxRecDepth 100000
set_option maxHeartbeats 4000000
namespace DL
open PySem PySem.Spec PyProof.Rows L2
/-- data: none, bools, ints, texts, tuples, lists, bells (by their periods), the script -/
inductive D where
  | non | bl (b : Bool) | int (i : Int) | str (x : Str) | tup (xs : List D) | lst (xs : List D) | bell (ps : List Int) | scr (ns : List Int)
mutual
/-- v stands for d in the frozen heap H -/
def Rp (K : PySem.W.Frag) (C : Addr) (H : Hp) : D → V → Prop
  | .non, v => v = .non
  | .bl b, v => v = .bl b
  | .int i, v => v = .int i
  | .str x, v => v = .str x
  | .tup ds, v => ∃ a xs, v = .ref a ∧ H a = some (.tup xs) ∧ RpL K C H ds xs
  | .lst ds, v => ∃ a xs, v = .ref a ∧ H a = some (.lst xs) ∧ RpL K C H ds xs
  | .bell ps, v => ∃ a dx t, v = .ref a ∧ H a = some (.ins C dx [("row", .ref t)]) ∧ H t = some (.tup (ps.map V.int))
  | .scr ns, v => ∃ a, v = .ref a ∧ SqL K H a (ns.map V.int)
def RpL (K : PySem.W.Frag) (C : Addr) (H : Hp) : List D → List V → Prop
  | [], xs => xs = []
  | d :: ds, xs => ∃ x r, xs = x :: r ∧ Rp K C H d x ∧ RpL K C H ds r
end
section
variable {K : PySem.W.Frag} {C : Addr} {F F' H H' : Hp}
mutual
theorem Rp.mono (s : Same F F') : ∀ (d : D) (v : V), Rp K C F d v → Rp K C F' d v
  | .non, _, h => h
  | .bl _, _, h => h
  | .int _, _, h => h
  | .str _, _, h => h
  | .tup ds, v, h => by
    simp only [Rp] at h ⊢
    obtain ⟨a, xs, e, ha, hl⟩ := h
    exact ⟨a, xs, e, s _ _ ha, RpL.mono s ds xs hl⟩
  | .lst ds, v, h => by
    simp only [Rp] at h ⊢
    obtain ⟨a, xs, e, ha, hl⟩ := h
    exact ⟨a, xs, e, s _ _ ha, RpL.mono s ds xs hl⟩
  | .bell ps, v, h => by
    simp only [Rp] at h ⊢
    obtain ⟨a, dx, t, e, ha, ht⟩ := h
    exact ⟨a, dx, t, e, s _ _ ha, s _ _ ht⟩
  | .scr ns, v, h => by
    simp only [Rp] at h ⊢
    obtain ⟨a, e, ha⟩ := h
    exact ⟨a, e, s.seq ha⟩
theorem RpL.mono (s : Same F F') : ∀ (ds : List D) (vs : List V), RpL K C F ds vs → RpL K C F' ds vs
  | [], _, h => h
  | d :: ds, vs, h => by
    simp only [RpL] at h ⊢
    obtain ⟨x, r, e, h1, h2⟩ := h
    exact ⟨x, r, e, Rp.mono s d x h1, RpL.mono s ds r h2⟩
end
theorem RpL.nil : RpL K C F [] [] := rfl
theorem RpL.cons {d : D} {ds : List D} {x : V} {r : List V} (h1 : Rp K C F d x) (h2 : RpL K C F ds r) : RpL K C F (d :: ds) (x :: r) := ⟨x, r, rfl, h1, h2⟩
theorem RpL.len : ∀ {ds : List D} {vs : List V}, RpL K C F ds vs → ds.length = vs.length
  | [], vs, h => by
    have e : vs = [] := h
    subst e
    rfl
  | d :: ds, vs, h => by
    obtain ⟨x, r, e, _, h2⟩ := h
    subst e
    rw [List.length_cons, List.length_cons, RpL.len h2]
theorem RpL.get : ∀ {ds : List D} {vs : List V} {i : Nat} {d : D}, RpL K C F ds vs → ds[i]? = some d → ∃ v, vs[i]? = some v ∧ Rp K C F d v
  | [], _, i, d, _, e => by simp at e
  | d0 :: ds, vs, i, d, h, e => by
    obtain ⟨x, r, e1, h1, h2⟩ := h
    subst e1
    cases i with
    | zero =>
      simp only [List.getElem?_cons_zero, Option.some.injEq] at e
      subst e
      exact ⟨x, rfl, h1⟩
    | succ i =>
      rw [List.getElem?_cons_succ] at e
      rw [List.getElem?_cons_succ]
      exact RpL.get h2 e
theorem RpL.append : ∀ {ds es : List D} {vs ws : List V}, RpL K C F ds vs → RpL K C F es ws → RpL K C F (ds ++ es) (vs ++ ws)
  | [], es, vs, ws, h, h' => by
    have e : vs = [] := h
    subst e
    exact h'
  | d :: ds, es, vs, ws, h, h' => by
    obtain ⟨x, r, e, h1, h2⟩ := h
    subst e
    exact RpL.cons h1 (RpL.append h2 h')
theorem RpL.one {d : D} {v : V} (h : Rp K C F d v) : RpL K C F [d] [v] := RpL.cons h RpL.nil
theorem RpL.set : ∀ {ds : List D} {vs : List V} (i : Nat) {d : D} {v : V}, RpL K C F ds vs → Rp K C F d v → RpL K C F (ds.set i d) (vs.set i v)
  | [], vs, i, d, v, h, _ => by
    have e : vs = [] := h
    subst e
    exact h
  | d0 :: ds, vs, i, d, v, h, hv => by
    obtain ⟨x, r, e, h1, h2⟩ := h
    subst e
    cases i with
    | zero => exact RpL.cons hv h2
    | succ i => exact RpL.cons h1 (RpL.set i h2 hv)
theorem RpL.drop : ∀ {ds : List D} {vs : List V} (n : Nat), RpL K C F ds vs → RpL K C F (ds.drop n) (vs.drop n)
  | ds, vs, 0, h => h
  | [], vs, n + 1, h => by
    have e : vs = [] := h
    subst e
    exact h
  | d :: ds, vs, n + 1, h => by
    obtain ⟨x, r, e, _, h2⟩ := h
    subst e
    exact RpL.drop n h2
theorem RpL.take : ∀ {ds : List D} {vs : List V} (n : Nat), RpL K C F ds vs → RpL K C F (ds.take n) (vs.take n)
  | _, _, 0, _ => rfl
  | [], vs, n + 1, h => by
    have e : vs = [] := h
    subst e
    exact h
  | d :: ds, vs, n + 1, h => by
    obtain ⟨x, r, e, h1, h2⟩ := h
    subst e
    exact RpL.cons h1 (RpL.take n h2)
theorem RpL.rep {ds : List D} {vs : List V} (h : RpL K C F ds vs) : ∀ k : Nat, RpL K C F (List.replicate k ds).flatten (List.replicate k vs).flatten
  | 0 => rfl
  | k + 1 => by
    rw [List.replicate_succ, List.replicate_succ, List.flatten_cons, List.flatten_cons]
    exact RpL.append h (RpL.rep h k)
theorem RpL.ints : ∀ {ns : List Int} {vs : List V}, RpL K C F (ns.map D.int) vs → vs = ns.map V.int
  | [], vs, h => h
  | n :: ns, vs, h => by
    obtain ⟨x, r, e, h1, h2⟩ := h
    have h1' : x = .int n := h1
    rw [e, h1', RpL.ints h2]
    rfl
theorem RpL.ofInts : ∀ (ns : List Int), RpL K C F (ns.map D.int) (ns.map V.int)
  | [] => rfl
  | n :: ns => RpL.cons (show Rp K C F (.int n) (.int n) from rfl) (RpL.ofInts ns)
/-- one list and one tuple for each -/
theorem Rp.int {i : Int} {v : V} (h : Rp K C F (.int i) v) : v = .int i := h
theorem Rp.bl {b : Bool} {v : V} (h : Rp K C F (.bl b) v) : v = .bl b := h
/-- a step: more is frozen, all that stood stands, what is frozen anew is new -/
structure Stp (F H F' H' : Hp) : Prop where
  ff : Same F F'
  hh : Same H H'
  fh : Same F' H'
  old : ∀ a o, H a = some o → F' a = F a
theorem Stp.refl (fh : Same F H) : Stp F H F H := ⟨Same.refl _, Same.refl _, fh, fun _ _ _ => rfl⟩
theorem Stp.trans {F1 H1 F2 H2 : Hp} (a : Stp F H F1 H1) (b : Stp F1 H1 F2 H2) : Stp F H F2 H2 :=
  ⟨a.ff.trans b.ff, a.hh.trans b.hh, b.fh, fun x o h => (b.old x o (a.hh x o h)).trans (a.old x o h)⟩
theorem same_upd {H : Hp} {p : Addr} {o : HO} (h : H p = none) : Same H (upd H p o) := fun b x e => by
  rw [upd_ne (ne_of_none e h)]
  exact e
theorem none_of_same {F H : Hp} (s : Same F H) {p : Addr} (h : H p = none) : F p = none := s.free h
/-- a new object, frozen -/
theorem Stp.new (fh : Same F H) {p : Addr} {o : HO} (h : H p = none) : Stp F H (upd F p o) (upd H p o) := by
  refine ⟨same_upd (none_of_same fh h), same_upd h, fun b x e => ?_, fun a u e => upd_ne (ne_of_none e h)⟩
  by_cases hb : b = p
  · subst hb
    rw [upd_same] at e ⊢
    exact e
  · rw [upd_ne hb] at e ⊢
    exact fh b x e
/-- a new object that is not frozen -/
theorem Stp.own (fh : Same F H) {p : Addr} {o : HO} (h : H p = none) : Stp F H F (upd H p o) :=
  ⟨Same.refl _, same_upd h, fh.trans (same_upd h), fun _ _ _ => rfl⟩
abbrev Rho := List (Option D)
def lk : Rho → Nat → Option D
  | [], _ => none
  | x :: _, 0 => x
  | _ :: r, n + 1 => lk r n
def st : Rho → Nat → D → Rho
  | [], _, _ => []
  | _ :: r, 0, d => some d :: r
  | x :: r, n + 1, d => x :: st r n d
def un : Rho → Nat → Rho
  | [], _ => []
  | _ :: r, 0 => none :: r
  | x :: r, n + 1 => x :: un r n
def wipeR (ρ : Rho) : List Nat → Rho
  | [] => ρ
  | v :: vs => un (wipeR ρ vs) v
theorem st_len : ∀ (ρ : Rho) (i : Nat) (d : D), (st ρ i d).length = ρ.length
  | [], _, _ => rfl
  | _ :: _, 0, _ => rfl
  | x :: r, n + 1, d => by
    show (st r n d).length + 1 = r.length + 1
    rw [st_len r n d]
theorem un_len : ∀ (ρ : Rho) (i : Nat), (un ρ i).length = ρ.length
  | [], _ => rfl
  | _ :: _, 0 => rfl
  | x :: r, n + 1 => by
    show (un r n).length + 1 = r.length + 1
    rw [un_len r n]
theorem lk_lt : ∀ {ρ : Rho} {i : Nat} {d : D}, lk ρ i = some d → i < ρ.length
  | [], _, _, h => by simp [lk] at h
  | _ :: _, 0, _, _ => by simp
  | x :: r, n + 1, d, h => by
    have := lk_lt (ρ := r) (i := n) (d := d) h
    simpa using this
theorem lk_st_same : ∀ {ρ : Rho} {i : Nat} {d e : D}, lk (st ρ i d) i = some e → e = d
  | [], _, _, _, h => by simp [st, lk] at h
  | _ :: _, 0, d, e, h => by
    have h' : some d = some e := h
    exact (Option.some.inj h').symm
  | x :: r, n + 1, d, e, h => lk_st_same (ρ := r) (i := n) h
theorem lk_st_ne : ∀ {ρ : Rho} {i j : Nat} {d : D}, j ≠ i → lk (st ρ i d) j = lk ρ j
  | [], _, _, _, _ => rfl
  | _ :: _, 0, 0, _, h => absurd rfl h
  | _ :: _, 0, j + 1, _, _ => rfl
  | x :: r, n + 1, 0, d, _ => rfl
  | x :: r, n + 1, j + 1, d, h => lk_st_ne (ρ := r) (i := n) (j := j) fun e => h (by rw [e])
theorem lk_un_same : ∀ {ρ : Rho} {i : Nat}, lk (un ρ i) i = none
  | [], _ => rfl
  | _ :: _, 0 => rfl
  | x :: r, n + 1 => lk_un_same (ρ := r) (i := n)
theorem lk_un_ne : ∀ {ρ : Rho} {i j : Nat}, j ≠ i → lk (un ρ i) j = lk ρ j
  | [], _, _, _ => rfl
  | _ :: _, 0, 0, h => absurd rfl h
  | _ :: _, 0, j + 1, _ => rfl
  | x :: r, n + 1, 0, _ => rfl
  | x :: r, n + 1, j + 1, h => lk_un_ne (ρ := r) (i := n) (j := j) fun e => h (by rw [e])
/-- the slots σ hold ρ: frozen data, but at the places O lists of one's own -/
structure En (K : PySem.W.Frag) (C : Addr) (O : List Nat) (F H : Hp) (σ : L2.St) (ρ : Rho) : Prop where
  fh : Same F H
  len : σ.length = ρ.length
  pl : ∀ i d, i ∉ O → lk ρ i = some d → ∃ v, σ[i]? = some (some v) ∧ Rp K C F d v
  ow : ∀ i d, i ∈ O → lk ρ i = some d → ∃ p vs ds, σ[i]? = some (some (.ref p)) ∧ d = .lst ds ∧ H p = some (.lst vs) ∧ F p = none ∧ RpL K C F ds vs
  ap : ∀ i j d e p, i ∈ O → j ∈ O → lk ρ i = some d → lk ρ j = some e → σ[i]? = some (some (.ref p)) → σ[j]? = some (some (.ref p)) → i = j
variable {O : List Nat} {σ : L2.St} {ρ : Rho}
theorem En.step (h : En K C O F H σ ρ) (s : Stp F H F' H') : En K C O F' H' σ ρ where
  fh := s.fh
  len := h.len
  pl := fun i d hi e => by
    obtain ⟨v, h1, h2⟩ := h.pl i d hi e
    exact ⟨v, h1, Rp.mono s.ff d v h2⟩
  ow := fun i d hi e => by
    obtain ⟨p, vs, ds, h1, h2, h3, h4, h5⟩ := h.ow i d hi e
    exact ⟨p, vs, ds, h1, h2, s.hh _ _ h3, (s.old _ _ h3).trans h4, RpL.mono s.ff ds vs h5⟩
  ap := h.ap
theorem En.set {i : Nat} {d : D} {v : V} (h : En K C O F H σ ρ) (hi : i ∉ O) (hv : Rp K C F d v) : En K C O F H (σ.set i (some v)) (st ρ i d) where
  fh := h.fh
  len := by rw [List.length_set, st_len]; exact h.len
  pl := fun j e hj q => by
    by_cases hji : j = i
    · subst hji
      have e1 := lk_st_same q
      subst e1
      have hl := lk_lt q
      rw [st_len, ← h.len] at hl
      exact ⟨v, List.getElem?_set_self hl, hv⟩
    · rw [lk_st_ne hji] at q
      rw [List.getElem?_set_ne (Ne.symm hji)]
      exact h.pl j e hj q
  ow := fun j e hj q => by
    have hji : j ≠ i := fun z => hi (z ▸ hj)
    rw [lk_st_ne hji] at q
    rw [List.getElem?_set_ne (Ne.symm hji)]
    exact h.ow j e hj q
  ap := fun j k e e' p hj hk q1 q2 q3 q4 => by
    have hji : j ≠ i := fun z => hi (z ▸ hj)
    have hki : k ≠ i := fun z => hi (z ▸ hk)
    rw [lk_st_ne hji] at q1
    rw [lk_st_ne hki] at q2
    rw [List.getElem?_set_ne (Ne.symm hji)] at q3
    rw [List.getElem?_set_ne (Ne.symm hki)] at q4
    exact h.ap j k e e' p hj hk q1 q2 q3 q4
theorem En.unset {i : Nat} (h : En K C O F H σ ρ) : En K C O F H (σ.set i none) (un ρ i) where
  fh := h.fh
  len := by rw [List.length_set, un_len]; exact h.len
  pl := fun j e hj q => by
    by_cases hji : j = i
    · subst hji
      rw [lk_un_same] at q
      cases q
    · rw [lk_un_ne hji] at q
      rw [List.getElem?_set_ne (Ne.symm hji)]
      exact h.pl j e hj q
  ow := fun j e hj q => by
    have hji : j ≠ i := fun z => by
      subst z
      rw [lk_un_same] at q
      cases q
    rw [lk_un_ne hji] at q
    rw [List.getElem?_set_ne (Ne.symm hji)]
    exact h.ow j e hj q
  ap := fun j k e e' p hj hk q1 q2 q3 q4 => by
    have hji : j ≠ i := fun z => by
      subst z
      rw [lk_un_same] at q1
      cases q1
    have hki : k ≠ i := fun z => by
      subst z
      rw [lk_un_same] at q2
      cases q2
    rw [lk_un_ne hji] at q1
    rw [lk_un_ne hki] at q2
    rw [List.getElem?_set_ne (Ne.symm hji)] at q3
    rw [List.getElem?_set_ne (Ne.symm hki)] at q4
    exact h.ap j k e e' p hj hk q1 q2 q3 q4
theorem En.wipe (h : En K C O F H σ ρ) : ∀ vs : List Nat, En K C O F H (wipe σ vs) (wipeR ρ vs)
  | [] => h
  | v :: vs => by
    unfold L2.wipe wipeR
    exact (En.wipe h vs).unset
/-- a new list of one's own at the place i -/
theorem En.own {i : Nat} {p : Addr} {ds : List D} {vs : List V} (h : En K C O F H σ ρ) (hi : i ∉ O) (hH : H p = none) (hl : RpL K C F ds vs) :
    En K C (i :: O) F (upd H p (.lst vs)) (σ.set i (some (.ref p))) (st ρ i (.lst ds)) where
  fh := h.fh.trans (same_upd hH)
  len := by rw [List.length_set, st_len]; exact h.len
  pl := fun j e hj q => by
    have hji : j ≠ i := fun z => hj (by rw [z]; exact List.mem_cons_self)
    rw [lk_st_ne hji] at q
    rw [List.getElem?_set_ne (Ne.symm hji)]
    exact h.pl j e (fun z => hj (List.mem_cons_of_mem _ z)) q
  ow := fun j e hj q => by
    by_cases hji : j = i
    · subst hji
      have e1 := lk_st_same q
      subst e1
      have hl' := lk_lt q
      rw [st_len, ← h.len] at hl'
      exact ⟨p, vs, ds, List.getElem?_set_self hl', rfl, upd_same, h.fh.free hH, hl⟩
    · rw [lk_st_ne hji] at q
      rw [List.getElem?_set_ne (Ne.symm hji)]
      have hjO : j ∈ O := (List.mem_cons.mp hj).elim (fun z => absurd z hji) id
      obtain ⟨p', vs', ds', h1, h2, h3, h4, h5⟩ := h.ow j e hjO q
      exact ⟨p', vs', ds', h1, h2, by rw [upd_ne (ne_of_none h3 hH)]; exact h3, h4, h5⟩
  ap := fun j k e e' p' hj hk q1 q2 q3 q4 => by
    by_cases hji : j = i
    · by_cases hki : k = i
      · rw [hji, hki]
      · exfalso
        subst hji
        rw [lk_st_ne hki] at q2
        rw [List.getElem?_set_ne (Ne.symm hki)] at q4
        have hl' := lk_lt q1
        rw [st_len, ← h.len] at hl'
        rw [List.getElem?_set_self hl'] at q3
        cases q3
        have hkO : k ∈ O := (List.mem_cons.mp hk).elim (fun z => absurd z hki) id
        obtain ⟨p2, _, _, h1, _, h3, _, _⟩ := h.ow k e' hkO q2
        rw [h1] at q4
        cases q4
        rw [hH] at h3
        cases h3
    · by_cases hki : k = i
      · exfalso
        subst hki
        rw [lk_st_ne hji] at q1
        rw [List.getElem?_set_ne (Ne.symm hji)] at q3
        have hl' := lk_lt q2
        rw [st_len, ← h.len] at hl'
        rw [List.getElem?_set_self hl'] at q4
        cases q4
        have hjO : j ∈ O := (List.mem_cons.mp hj).elim (fun z => absurd z hji) id
        obtain ⟨p2, _, _, h1, _, h3, _, _⟩ := h.ow j e hjO q1
        rw [h1] at q3
        cases q3
        rw [hH] at h3
        cases h3
      · rw [lk_st_ne hji] at q1
        rw [lk_st_ne hki] at q2
        rw [List.getElem?_set_ne (Ne.symm hji)] at q3
        rw [List.getElem?_set_ne (Ne.symm hki)] at q4
        exact h.ap j k e e' p' ((List.mem_cons.mp hj).elim (fun z => absurd z hji) id) ((List.mem_cons.mp hk).elim (fun z => absurd z hki) id) q1 q2 q3 q4
/-- the list of one's own at i is changed -/
theorem En.mut {i : Nat} {p : Addr} {ds ds' : List D} {vs vs' : List V} (h : En K C O F H σ ρ) (hi : i ∈ O) (he : lk ρ i = some (.lst ds)) (hp : σ[i]? = some (some (.ref p))) (hH : H p = some (.lst vs)) (hF : F p = none) (hl : RpL K C F ds' vs') :
    En K C O F (upd H p (.lst vs')) σ (st ρ i (.lst ds')) where
  fh := fun b x e => by
    rw [upd_ne (ne_of_none e hF)]
    exact h.fh b x e
  len := by rw [st_len]; exact h.len
  pl := fun j e hj q => by
    have hji : j ≠ i := fun z => hj (z ▸ hi)
    rw [lk_st_ne hji] at q
    exact h.pl j e hj q
  ow := fun j e hj q => by
    by_cases hji : j = i
    · subst hji
      have e1 := lk_st_same q
      subst e1
      exact ⟨p, vs', ds', hp, rfl, upd_same, hF, hl⟩
    · rw [lk_st_ne hji] at q
      obtain ⟨p', vs2, ds2, h1, h2, h3, h4, h5⟩ := h.ow j e hj q
      have hne : p' ≠ p := fun z => by
        subst z
        exact hji (h.ap j i e _ _ hj hi q he h1 hp)
      exact ⟨p', vs2, ds2, h1, h2, by rw [upd_ne hne]; exact h3, h4, h5⟩
  ap := fun j k e e' p' hj hk q1 q2 q3 q4 => by
    have fx : ∀ {m : Nat} {x : D}, lk (st ρ i (.lst ds')) m = some x → ∃ y, lk ρ m = some y := fun {m x} q => by
      by_cases hm : m = i
      · exact ⟨_, hm ▸ he⟩
      · rw [lk_st_ne hm] at q
        exact ⟨_, q⟩
    obtain ⟨y1, z1⟩ := fx q1
    obtain ⟨y2, z2⟩ := fx q2
    exact h.ap j k y1 y2 p' hj hk z1 z2 q3 q4
/-- the list of one's own at i is frozen -/
theorem En.freeze {i : Nat} {O' : List Nat} (h : En K C O F H σ ρ) (hO : ∀ j, j ∈ O' ↔ j ∈ O ∧ j ≠ i) : ∃ F', Same F F' ∧ En K C O' F' H σ ρ ∧ (∀ a, F' a ≠ F a → i ∈ O ∧ ∃ d, lk ρ i = some d ∧ σ[i]? = some (some (.ref a))) := by
  by_cases hi : i ∈ O
  · cases e : lk ρ i with
    | none =>
      refine ⟨F, Same.refl _, ⟨h.fh, h.len, fun j d hj q => ?_, fun j d hj q => h.ow j d ((hO j).mp hj).1 q, fun j k d e p hj hk => h.ap j k d e p ((hO j).mp hj).1 ((hO k).mp hk).1⟩, fun a z => absurd rfl z⟩
      by_cases hji : j = i
      · subst hji
        rw [e] at q
        cases q
      · exact h.pl j d (fun z => hj ((hO j).mpr ⟨z, hji⟩)) q
    | some d =>
      obtain ⟨p, vs, ds, h1, rfl, h3, h4, h5⟩ := h.ow i d hi e
      have sm : Same F (upd F p (.lst vs)) := same_upd h4
      refine ⟨upd F p (.lst vs), sm, ⟨fun b x q => ?_, h.len, fun j d' hj q => ?_, fun j d' hj q => ?_, fun j k d e p hj hk => h.ap j k d e p ((hO j).mp hj).1 ((hO k).mp hk).1⟩, fun a z => ?_⟩
      · by_cases hb : b = p
        · subst hb
          rw [upd_same] at q
          rw [← q]
          exact h3
        · rw [upd_ne hb] at q
          exact h.fh b x q
      · by_cases hji : j = i
        · subst hji
          rw [e] at q
          cases q
          exact ⟨.ref p, h1, p, vs, rfl, upd_same, RpL.mono sm ds vs h5⟩
        · obtain ⟨v, q1, q2⟩ := h.pl j d' (fun z => hj ((hO j).mpr ⟨z, hji⟩)) q
          exact ⟨v, q1, Rp.mono sm d' v q2⟩
      · obtain ⟨hjO, hji⟩ := (hO j).mp hj
        obtain ⟨p', vs', ds', g1, g2, g3, g4, g5⟩ := h.ow j d' hjO q
        have hne : p' ≠ p := fun z => by
          subst z
          exact hji (h.ap j i _ _ _ hjO hi q e g1 h1)
        exact ⟨p', vs', ds', g1, g2, g3, by rw [upd_ne hne]; exact g4, RpL.mono sm ds' vs' g5⟩
      · by_cases ha : a = p
        · subst ha
          exact ⟨hi, _, rfl, h1⟩
        · rw [upd_ne ha] at z
          exact absurd rfl z
  · refine ⟨F, Same.refl _, ⟨h.fh, h.len, fun j d hj q => h.pl j d (fun z => hj ((hO j).mpr ⟨z, fun w => hi (w ▸ z)⟩)) q, fun j d hj q => h.ow j d ((hO j).mp hj).1 q, fun j k d e p hj hk => h.ap j k d e p ((hO j).mp hj).1 ((hO k).mp hk).1⟩, fun a z => absurd rfl z⟩
end
end DL
namespace DL
open PySem PySem.Spec PyProof.Rows L2
abbrev DF := Rho → Option D
abbrev DFs := Rho → Option (List D)
abbrev DB := Rho → Option Bool
/-- what a computed value leaves -/
def Got (K : PySem.W.Frag) (C : Addr) (F H : Hp) (d : D) (Q : VK) : Prop := ∀ v F' H', Stp F H F' H' → Rp K C F' d v → Q v H'
theorem Got.step {K : PySem.W.Frag} {C : Addr} {F H F' H' : Hp} {d : D} {Q : VK} (h : Got K C F H d Q) (s : Stp F H F' H') : Got K C F' H' d Q := fun v F2 H2 s2 r => h v F2 H2 (s.trans s2) r
def tD (K : PySem.W.Frag) (C : Addr) (O : List Nat) (f : DF) : TE := fun σ H Q => ∃ F ρ d, En K C O F H σ ρ ∧ f ρ = some d ∧ Got K C F H d Q
def tDA (K : PySem.W.Frag) (C : Addr) (O : List Nat) (f : DFs) : TA := fun σ H Q => ∃ F ρ ds, En K C O F H σ ρ ∧ f ρ = some ds ∧ ∀ vs F' H', Stp F H F' H' → RpL K C F' ds vs → Q vs H'
def tDT (K : PySem.W.Frag) (C : Addr) (O : List Nat) (g : DB) : TT := fun σ H Q => ∃ F ρ b, En K C O F H σ ρ ∧ g ρ = some b ∧ ∀ F' H', Stp F H F' H' → Q b H'
def rD2 (K : PySem.W.Frag) (C : Addr) (op : D → D → Option D) : R2 := fun x y H Q => ∃ F d e c, Same F H ∧ Rp K C F d x ∧ Rp K C F e y ∧ op d e = some c ∧ Got K C F H c Q
def rDL (K : PySem.W.Frag) (C : Addr) (op : List D → Option D) : List V → Hp → VK → Prop := fun xs H Q => ∃ F ds c, Same F H ∧ RpL K C F ds xs ∧ op ds = some c ∧ Got K C F H c Q
abbrev DE (X : Cx) (C : Addr) (O : List Nat) (e : Expr) (f : DF) : Prop := PE X e (tD X.K C O f)
abbrev DT (X : Cx) (C : Addr) (O : List Nat) (e : Expr) (g : DB) : Prop := PT X e (tDT X.K C O g)
abbrev DWt (X : Cx) (C : Addr) (O : List Nat) (e : Expr) (g : DB) : Prop := PW X e (tDT X.K C O g)
abbrev DA (X : Cx) (C : Addr) (O : List Nat) (es : List Expr) (f : DFs) : Prop := PA X es (tDA X.K C O f)
abbrev OpD (X : Cx) (C : Addr) (f : Value → Value → Sem Value) (op : D → D → Option D) : Prop := OpR X f (rD2 X.K C op)
abbrev CallD (X : Cx) (C : Addr) (f : Value) (op : List D → Option D) : Prop := CallR X f (rDL X.K C op)
abbrev IxD (X : Cx) (C : Addr) (op : D → D → Option D) : Prop := IxR X (rD2 X.K C op)
section
variable {X : Cx}
theorem PEw {e : Expr} {t t' : TE} (h : PE X e t) (w : ∀ σ H Q, t' σ H Q → t σ H Q) : PE X e t' := ⟨fun pins s σ H Q I q => h.run pins s σ H Q I (w σ H Q q)⟩
theorem PTw {e : Expr} {t t' : TT} (h : PT X e t) (w : ∀ σ H Q, t' σ H Q → t σ H Q) : PT X e t' := ⟨fun pins s σ H Q I q => h.run pins s σ H Q I (w σ H Q q)⟩
theorem PWw {e : Expr} {t t' : TT} (h : PW X e t) (w : ∀ σ H Q, t' σ H Q → t σ H Q) : PW X e t' := ⟨fun wh pins s σ H Q I q => h.run wh pins s σ H Q I (w σ H Q q)⟩
theorem PAw {es : List Expr} {t t' : TA} (h : PA X es t) (w : ∀ σ H Q, t' σ H Q → t σ H Q) : PA X es t' := ⟨fun pos pins s σ H Q I q => h.run pos pins s σ H Q I (w σ H Q q)⟩
theorem PSw {e : Stmt} {t t' : TS} (h : PS X e t) (w : ∀ D σ H, t' D σ H → t D σ H) : PS X e t' := ⟨fun pins s σ H D I q => h.run pins s σ H D I (w D σ H q)⟩
theorem PSsw {e : List Stmt} {t t' : TS} (h : PSs X e t) (w : ∀ D σ H, t' D σ H → t D σ H) : PSs X e t' := ⟨fun pins s σ H D I q => h.run pins s σ H D I (w D σ H q)⟩
theorem OpRw {f : Value → Value → Sem Value} {r r' : R2} (h : OpR X f r) (w : ∀ x y H Q, r' x y H Q → r x y H Q) : OpR X f r' := fun pins s σ H x y v u Q I rx ry q => h pins s σ H x y v u Q I rx ry (w x y H Q q)
theorem CallRw {f : Value} {r r' : List V → Hp → VK → Prop} (h : CallR X f r) (w : ∀ xs H Q, r' xs H Q → r xs H Q) : CallR X f r' := fun pins s σ H xs us Q I r q => h pins s σ H xs us Q I r (w xs H Q q)
end
def dv (i : Nat) : DF := fun ρ => lk ρ i
def dc (d : D) : DF := fun _ => some d
def d2 (op : D → D → Option D) (f g : DF) : DF := fun ρ => (f ρ).bind fun x => (g ρ).bind fun y => op x y
def d1 (op : D → Option D) (f : DF) : DF := fun ρ => (f ρ).bind op
def dnil : DFs := fun _ => some []
def dcons (f : DF) (g : DFs) : DFs := fun ρ => (f ρ).bind fun x => (g ρ).bind fun xs => some (x :: xs)
def dL (op : List D → Option D) (f : DFs) : DF := fun ρ => (f ρ).bind op
def asB : D → Option Bool
  | .bl b => some b
  | _ => none
theorem asB_some {d : D} {b : Bool} (h : asB d = some b) : d = .bl b := by
  cases d <;> first | (cases h; rfl) | cases h
def bV (f : DF) : DB := fun ρ => (f ρ).bind asB
def dB (g : DB) : DF := fun ρ => (g ρ).bind fun b => some (.bl b)
def bAnd (g h : DB) : DB := fun ρ => (g ρ).bind fun b => if b = true then h ρ else some false
def bOr (g h : DB) : DB := fun ρ => (g ρ).bind fun b => if b = true then some true else h ρ
def bNot (g : DB) : DB := fun ρ => (g ρ).bind fun b => some (!b)
def dIf (g : DB) (f h : DF) : DF := fun ρ => (g ρ).bind fun b => if b = true then f ρ else h ρ
def opTup (ds : List D) : Option D := if ds.length ≤ 100000 then some (.tup ds) else none
def opLst (ds : List D) : Option D := if ds.length ≤ 100000 then some (.lst ds) else none
section
variable {X : Cx} {C : Addr} {O : List Nat} {a b c e : Expr} {es : List Expr} {f g h : DF} {fs : DFs} {p q r : DB} {pos : Pos}
theorem sz100 {n : Nat} (h : n ≤ 100000) : n ≤ sizeLine := Nat.le_trans h (by decide)
theorem de_var (i : Nat) {x : Str} (hN : X.N[i]? = some x := by rfl) (hv : Vis X.env.scope x := by first | exact Or.inl rfl | exact Or.inr (Or.inl rfl) | exact Or.inr (Or.inr rfl)) (hi : i ∉ O := by decide)
    (hd : (x == ("__debug__" : Str)) = false := by decide) (hcd : (x == ("__classdict__" : Str)) = false := by decide) : DE X C O (.Name x pos) (dv i) :=
  PEw (pe_var hN hv hd hcd) fun σ H Q ⟨F, ρ, d, E, hf, k⟩ => by
    obtain ⟨v, h1, h2⟩ := E.pl i d hi hf
    exact ⟨v, h1, k v F H (Stp.refl E.fh) h2⟩
theorem de_int {i : Int} {j : Nat} : DE X C O (.Constant (.int i) j pos) (dc (.int i)) := PEw pe_int fun σ H Q ⟨F, ρ, d, E, hf, k⟩ => by
  cases hf
  exact k (.int i) F H (Stp.refl E.fh) rfl
theorem de_bl {i : Bool} {j : Nat} : DE X C O (.Constant (.bool i) j pos) (dc (.bl i)) := PEw pe_bl fun σ H Q ⟨F, ρ, d, E, hf, k⟩ => by
  cases hf
  exact k (.bl i) F H (Stp.refl E.fh) rfl
theorem bind_some {α β : Type} {o : Option α} {k : α → Option β} {y : β} (h : o.bind k = some y) : ∃ x, o = some x ∧ k x = some y := by
  cases o with
  | none => cases h
  | some x => exact ⟨x, rfl, h⟩
/-- two in a row -/
theorem two {K : PySem.W.Frag} {op : D → D → Option D} {σ : L2.St} {H : Hp} {Q : VK} (hw : tD K C O (d2 op f g) σ H Q) : tOp (rD2 K C op) (tD K C O f) (tD K C O g) σ H Q := by
  obtain ⟨F, ρ, d, E, hf, k⟩ := hw
  obtain ⟨x, h1, hf⟩ := bind_some hf
  obtain ⟨y, h2, hf⟩ := bind_some hf
  refine ⟨F, ρ, x, E, h1, fun v F1 H1 s1 r1 => ⟨F1, ρ, y, E.step s1, h2, fun u F2 H2 s2 r2 => ?_⟩⟩
  exact ⟨F2, x, y, d, s2.fh, Rp.mono s2.ff x v r1, r2, hf, k.step (s1.trans s2)⟩
theorem de_op {op : Operator} {o : D → D → Option D} (ho : OpD X C (binaryOp op) o) (ha : DE X C O a f) (hb : DE X C O b g) : DE X C O (.BinOp a op b pos) (d2 o f g) := PEw (pe_op ho ha hb) fun _ _ _ hw => two hw
theorem de_cmp {op : CmpOp} {o : D → D → Option D} (ho : OpD X C (compareOp op) o) (ha : DE X C O a f) (hb : DE X C O b g) (hm : behindInMarks op b = false := by first | exact nomark _ | rfl | with_unfolding_all rfl) : DE X C O (.Compare a [op] [b] pos) (d2 o f g) :=
  PEw (pe_cmpR ho ha hb hm) fun _ _ _ hw => two hw
theorem dt_cmp {op : CmpOp} {o : D → D → Option D} (ho : OpD X C (compareOp op) o) (ha : DE X C O a f) (hb : DE X C O b g) (hm : behindInMarks op b = false := by first | exact nomark _ | rfl | with_unfolding_all rfl) : DT X C O (.Compare a [op] [b] pos) (bV (d2 o f g)) :=
  PTw (pt_cmpR ho ha hb hm) fun σ H Q ⟨F, ρ, t, E, hf, k⟩ => by
    obtain ⟨d, h1, h2⟩ := bind_some hf
    refine two ⟨F, ρ, d, E, h1, fun v F' H' s' r' => ?_⟩
    obtain rfl := asB_some h2
    exact ⟨t, r', k F' H' s'⟩
def dCh (o o' : D → D → Option D) (f g h : DF) : DF := fun ρ => (f ρ).bind fun x => (g ρ).bind fun y => (o x y).bind fun z => (asB z).bind fun k => if k = true then (h ρ).bind fun w => o' y w else some (.bl false)
theorem three {K : PySem.W.Frag} {o o' : D → D → Option D} {σ : L2.St} {H : Hp} {Q : VK} (hw : tD K C O (dCh o o' f g h) σ H Q) : tChain (rD2 K C o) (rD2 K C o') (tD K C O f) (tD K C O g) (tD K C O h) σ H Q := by
  obtain ⟨F, ρ, d, E, hf, k⟩ := hw
  obtain ⟨x, h1, hf1⟩ := bind_some hf
  obtain ⟨y, h2, hf2⟩ := bind_some hf1
  obtain ⟨z, h3, hf3⟩ := bind_some hf2
  obtain ⟨t, h4, hf4⟩ := bind_some hf3
  obtain rfl := asB_some h4
  clear hf hf1 hf2 hf3
  refine ⟨F, ρ, x, E, h1, fun v F1 H1 s1 r1 => ⟨F1, ρ, y, E.step s1, h2, fun u F2 H2 s2 r2 => ⟨F2, x, y, _, s2.fh, Rp.mono s2.ff x v r1, r2, h3, fun z' F3 H3 s3 r3 => ?_⟩⟩⟩
  refine ⟨t, r3, ?_⟩
  cases t with
  | true =>
    rw [if_pos rfl] at hf4 ⊢
    obtain ⟨w', h5, hf5⟩ := bind_some hf4
    refine ⟨F3, ρ, w', E.step (s1.trans (s2.trans s3)), h5, fun w4 F4 H4 s4 r4 => ?_⟩
    exact ⟨F4, y, w', d, s4.fh, Rp.mono (s3.ff.trans s4.ff) y u r2, r4, hf5, k.step (s1.trans (s2.trans (s3.trans s4)))⟩
  | false =>
    rw [if_neg Bool.false_ne_true] at hf4 ⊢
    cases hf4
    exact k _ F3 H3 (s1.trans (s2.trans s3)) rfl
theorem de_chain {op op' : CmpOp} {o o' : D → D → Option D} (ho : OpD X C (compareOp op) o) (ho' : OpD X C (compareOp op') o') (ha : DE X C O a f) (hb : DE X C O b g) (hc : DE X C O c h)
    (hm : lastMarks [op, op'] [b, c] = false := by with_unfolding_all rfl) : DE X C O (.Compare a [op, op'] [b, c] pos) (dCh o o' f g h) := PEw (pe_chain ho ho' ha hb hc hm) fun _ _ _ hw => three hw
theorem dt_chain {op op' : CmpOp} {o o' : D → D → Option D} (ho : OpD X C (compareOp op) o) (ho' : OpD X C (compareOp op') o') (ha : DE X C O a f) (hb : DE X C O b g) (hc : DE X C O c h)
    (hm : lastMarks [op, op'] [b, c] = false := by with_unfolding_all rfl) : DT X C O (.Compare a [op, op'] [b, c] pos) (bV (dCh o o' f g h)) :=
  PTw (pt_chain ho ho' ha hb hc hm) fun σ H Q ⟨F, ρ, t, E, hf, k⟩ => by
    obtain ⟨d, h1, h2⟩ := bind_some hf
    refine three ⟨F, ρ, d, E, h1, fun v F' H' s' r' => ?_⟩
    obtain rfl := asB_some h2
    exact ⟨t, r', k F' H' s'⟩
theorem dt_val (ha : DE X C O a f) (he : ∀ whole, isTrue a X.env whole = (do let v ← whole; standAt a.pos; holding [v] (truthy v)) := by intro _; rfl) : DT X C O a (bV f) :=
  PTw (pt_val ha he) fun σ H Q ⟨F, ρ, t, E, hf, k⟩ => by
    obtain ⟨d, h1, h2⟩ := bind_some hf
    refine ⟨F, ρ, d, E, h1, fun v F' H' s' r' => ?_⟩
    obtain rfl := asB_some h2
    exact ⟨t, r', k F' H' s'⟩
theorem and_rd {K : PySem.W.Frag} {σ : L2.St} {H : Hp} {Q : Bool → Hp → Prop} (hw : tDT K C O (bAnd p q) σ H Q) : tAnd (tDT K C O p) (tDT K C O q) σ H Q := by
  obtain ⟨F, ρ, t, E, hf, k⟩ := hw
  obtain ⟨d, h1, hf⟩ := bind_some hf
  refine ⟨F, ρ, d, E, h1, fun F1 H1 s1 => ?_⟩
  cases d with
  | true =>
    rw [if_pos rfl] at hf ⊢
    exact ⟨F1, ρ, t, E.step s1, hf, fun F2 H2 s2 => k F2 H2 (s1.trans s2)⟩
  | false =>
    rw [if_neg Bool.false_ne_true] at hf ⊢
    cases hf
    exact k F1 H1 s1
theorem or_rd {K : PySem.W.Frag} {σ : L2.St} {H : Hp} {Q : Bool → Hp → Prop} (hw : tDT K C O (bOr p q) σ H Q) : tOr (tDT K C O p) (tDT K C O q) σ H Q := by
  obtain ⟨F, ρ, t, E, hf, k⟩ := hw
  obtain ⟨d, h1, hf⟩ := bind_some hf
  refine ⟨F, ρ, d, E, h1, fun F1 H1 s1 => ?_⟩
  cases d with
  | false =>
    rw [if_neg Bool.false_ne_true] at hf ⊢
    exact ⟨F1, ρ, t, E.step s1, hf, fun F2 H2 s2 => k F2 H2 (s1.trans s2)⟩
  | true =>
    rw [if_pos rfl] at hf ⊢
    cases hf
    exact k F1 H1 s1
variable {rest : List Expr}
theorem dw_and1 (ha : DT X C O a p) : DWt X C O (.BoolOp .And [a] pos) p := pw_and1 ha
theorem dw_or1 (ha : DT X C O a p) : DWt X C O (.BoolOp .Or [a] pos) p := pw_or1 ha
theorem dw_and (ha : DT X C O a p) (hb : DWt X C O (.BoolOp .And (b :: rest) pos) q) : DWt X C O (.BoolOp .And (a :: b :: rest) pos) (bAnd p q) := PWw (pw_and ha hb) fun _ _ _ hw => and_rd hw
theorem dw_or (ha : DT X C O a p) (hb : DWt X C O (.BoolOp .Or (b :: rest) pos) q) : DWt X C O (.BoolOp .Or (a :: b :: rest) pos) (bOr p q) := PWw (pw_or ha hb) fun _ _ _ hw => or_rd hw
theorem dt_w (h : DWt X C O e p) : DT X C O e p := h.pt
theorem dt_not (ha : DT X C O a p) : DT X C O (.UnaryOp .Not a pos) (bNot p) := PTw (pt_not ha) fun σ H Q ⟨F, ρ, t, E, hf, k⟩ => by
  obtain ⟨d, h1, hf⟩ := bind_some hf
  cases hf
  exact ⟨F, ρ, d, E, h1, k⟩
/-- and, or, not as values (of bools) -/
theorem de_one {op : BoolOp} (ha : DE X C O a f) : DE X C O (.BoolOp op [a] pos) f := pe_one ha
def dAnd (f g : DF) : DF := fun ρ => (f ρ).bind fun x => (asB x).bind fun b => if b = true then g ρ else some (.bl false)
def dOr (f g : DF) : DF := fun ρ => (f ρ).bind fun x => (asB x).bind fun b => if b = true then some (.bl true) else g ρ
def dNot (f : DF) : DF := fun ρ => (f ρ).bind fun x => (asB x).bind fun b => some (.bl (!b))
theorem de_and (ha : DE X C O a f) (hb : DE X C O (.BoolOp .And (b :: rest) pos) g) : DE X C O (.BoolOp .And (a :: b :: rest) pos) (dAnd f g) := PEw (pe_and ha hb) fun σ H Q ⟨F, ρ, t, E, hf, k⟩ => by
  obtain ⟨x, h1, hf1⟩ := bind_some hf
  obtain ⟨d, h2, hf2⟩ := bind_some hf1
  obtain rfl := asB_some h2
  clear hf hf1
  have hf := hf2
  clear hf2
  refine ⟨F, ρ, _, E, h1, fun v F1 H1 s1 r1 => ⟨d, r1, ?_⟩⟩
  cases d with
  | true =>
    rw [if_pos rfl] at hf ⊢
    exact ⟨F1, ρ, t, E.step s1, hf, k.step s1⟩
  | false =>
    rw [if_neg Bool.false_ne_true] at hf ⊢
    cases hf
    exact k _ F1 H1 s1 rfl
theorem de_not (ha : DE X C O a f) : DE X C O (.UnaryOp .Not a pos) (dNot f) := PEw (pe_not ha) fun σ H Q ⟨F, ρ, t, E, hf, k⟩ => by
  obtain ⟨x, h1, hf1⟩ := bind_some hf
  obtain ⟨d, h2, hf2⟩ := bind_some hf1
  obtain rfl := asB_some h2
  clear hf hf1
  have hf := hf2
  clear hf2
  cases hf
  exact ⟨F, ρ, _, E, h1, fun v F1 H1 s1 r1 => ⟨d, r1, k _ F1 H1 s1 rfl⟩⟩
theorem de_if (ht : DT X C O c p) (ha : DE X C O a f) (hb : DE X C O b g) : DE X C O (.IfExp c a b pos) (dIf p f g) := PEw (pe_ifExp ht ha hb) fun σ H Q ⟨F, ρ, t, E, hf, k⟩ => by
  obtain ⟨d, h1, hf⟩ := bind_some hf
  refine ⟨F, ρ, d, E, h1, fun F1 H1 s1 => ?_⟩
  cases d with
  | true =>
    rw [if_pos rfl] at hf ⊢
    exact ⟨F1, ρ, t, E.step s1, hf, k.step s1⟩
  | false =>
    rw [if_neg Bool.false_ne_true] at hf ⊢
    exact ⟨F1, ρ, t, E.step s1, hf, k.step s1⟩
theorem da_nil : DA X C O [] dnil := PAw pa_nil fun σ H Q ⟨F, ρ, t, E, hf, k⟩ => by
  cases hf
  exact k [] F H (Stp.refl E.fh) RpL.nil
theorem da_cons (ha : DE X C O a f) (hr : DA X C O es fs) (hs : starEach (a :: es) X.env = (false, eval a X.env) :: starEach es X.env := by rfl) : DA X C O (a :: es) (dcons f fs) := PAw (pa_cons ha hr hs) fun σ H Q ⟨F, ρ, t, E, hf, k⟩ => by
  obtain ⟨x, h1, hf⟩ := bind_some hf
  obtain ⟨xs, h2, hf⟩ := bind_some hf
  cases hf
  exact ⟨F, ρ, x, E, h1, fun v F1 H1 s1 r1 => ⟨F1, ρ, xs, E.step s1, h2, fun vs F2 H2 s2 r2 => k _ F2 H2 (s1.trans s2) (RpL.cons (Rp.mono s2.ff x v r1) r2)⟩⟩
theorem de_tup {j : Nat} (ha : DA X C O es fs) : DE X C O (.Tuple es j pos) (dL opTup fs) := PEw (pe_tup ha) fun σ H Q ⟨F, ρ, t, E, hf, k⟩ => by
  obtain ⟨ds, h1, hf⟩ := bind_some hf
  unfold opTup at hf
  split at hf
  · rename_i hz
    cases hf
    refine ⟨F, ρ, ds, E, h1, fun vs F1 H1 s1 r1 => ⟨by rw [← r1.len]; exact sz100 hz, fun p hp => ?_⟩⟩
    have s2 := Stp.new (o := .tup vs) s1.fh hp
    exact k _ _ _ (s1.trans s2) ⟨p, vs, rfl, upd_same, RpL.mono s2.ff _ _ r1⟩
  · cases hf
theorem de_lst (ha : DA X C O es fs) : DE X C O (.List es pos) (dL opLst fs) := PEw (pe_lst ha) fun σ H Q ⟨F, ρ, t, E, hf, k⟩ => by
  obtain ⟨ds, h1, hf⟩ := bind_some hf
  unfold opLst at hf
  split at hf
  · rename_i hz
    cases hf
    refine ⟨F, ρ, ds, E, h1, fun vs F1 H1 s1 r1 => ⟨by rw [← r1.len]; exact sz100 hz, fun p hp => ?_⟩⟩
    have s2 := Stp.new (o := .lst vs) s1.fh hp
    exact k _ _ _ (s1.trans s2) ⟨p, vs, rfl, upd_same, RpL.mono s2.ff _ _ r1⟩
  · cases hf
theorem rdl_rd {K : PySem.W.Frag} {o : List D → Option D} {σ : L2.St} {H : Hp} {Q : VK} (hw : tD K C O (dL o fs) σ H Q) : tCB (rDL K C o) (tDA K C O fs) σ H Q := by
  obtain ⟨F, ρ, t, E, hf, k⟩ := hw
  obtain ⟨ds, h1, hf⟩ := bind_some hf
  exact ⟨F, ρ, ds, E, h1, fun vs F1 H1 s1 r1 => ⟨F1, ds, t, s1.fh, r1, hf, k.step s1⟩⟩
theorem de_callB {x : Str} {id : String} {p : Pos} {o : List D → Option D} (hc : CallD X C (.builtin id) o) (hg : Gl X x) (hm : X.mg x = none) (hv : bootBuiltins x = some (.builtin id)) (ha : DA X C O (e :: es) fs)
    (hn : x ≠ "__name__" := by decide) (hd : (x == ("__debug__" : Str)) = false := by decide) (he : starEach (e :: es) X.env = (false, eval e X.env) :: starEach es X.env := by rfl) (hpl : (backTo pos (starEach es X.env)).any (·.1) = false := by rfl) :
    DE X C O (.Call (.Name x p) (e :: es) [] pos) (dL o fs) := PEw (by first | exact pe_callB hc hg hm hv ha | exact pe_callB hc hg hm hv ha hn hd he hpl) fun _ _ _ hw => rdl_rd hw
theorem de_callTy {x : Str} {T : String} {p : Pos} {o : List D → Option D} (hc : CallD X C (.type T) o) (hg : Gl X x) (hm : X.mg x = none) (hv : bootBuiltins x = some (.type T)) (ha : DA X C O (e :: es) fs)
    (hn : x ≠ "__name__" := by decide) (hd : (x == ("__debug__" : Str)) = false := by decide) (he : starEach (e :: es) X.env = (false, eval e X.env) :: starEach es X.env := by rfl) (hpl : (backTo pos (starEach es X.env)).any (·.1) = false := by rfl) :
    DE X C O (.Call (.Name x p) (e :: es) [] pos) (dL o fs) := PEw (by first | exact pe_callTy hc hg hm hv ha | exact pe_callTy hc hg hm hv ha hn hd he hpl) fun _ _ _ hw => rdl_rd hw
/-- the promise of a pure def -/
def spD (K : PySem.W.Frag) (C : Addr) (m : List D → Option D) : Sp := fun vs H Q _ => ∃ F ds d, Same F H ∧ RpL K C F ds vs ∧ m ds = some d ∧ Got K C F H d Q
/-- a pure def that may be called by its name x -/
structure Cal (P : Program) (w : World) (K : PySem.W.Frag) (mg : Str → Option Value) (base : Heap) (C : Addr) (k : Nat) (x : Str) (ps : List Str) (m : List D → Option D) : Prop where
  ex : ∃ f fd, FnOk P w K mg base CX0 k f fd ps (spD K C m) ∧ mg x = some (.ref f) ∧ PySem.W.keepIn K (.ref f) = true ∧ Binds K fd ps []
theorem de_call {x : Str} {p : Pos} {k j : Nat} {ps : List Str} {m : List D → Option D} (cl : Cal X.prog X.w X.K X.mg X.base C k x ps m) (hr : Room j X.A) (hg : Gl X x) (ha : DA X C O (e :: es) fs) (hk : k ≤ j := by decide)
    (hdb : (x == ("__debug__" : Str)) = false := by decide) (he : starEach (e :: es) X.env = (false, eval e X.env) :: starEach es X.env := by rfl) (hpl : (backTo pos (starEach es X.env)).any (·.1) = false := by rfl) :
    DE X C O (.Call (.Name x p) (e :: es) [] pos) (dL m fs) := by
  obtain ⟨f, fd, F, hm, hkp, hb⟩ := cl.ex
  refine PEw (pe_call F (hr.mono hk) hg hm hkp hb .nil pass0 ha hdb he hpl) fun σ H Q ⟨F, ρ, t, E, hf, k⟩ => ?_
  obtain ⟨ds, h1, hf⟩ := bind_some hf
  refine ⟨F, ρ, ds, E, h1, fun vs F1 H1 s1 r1 => ?_⟩
  show spD X.K C m (vs ++ []) H1 Q E0
  rw [List.append_nil]
  exact ⟨F1, ds, t, s1.fh, r1, hf, k.step s1⟩
theorem de_ix {o : D → D → Option D} (ho : IxD X C o) (ha : DE X C O a f) (hb : DE X C O b g) (hs : PlainIx b := by exact fun _ _ => rfl) : DE X C O (.Subscript a b pos) (d2 o f g) := PEw (pe_ix ho ha hb hs) fun _ _ _ hw => two hw
end
end DL
namespace DL
open PySem PySem.Spec PyProof.Rows L2
mutual
def eqD : D → D → Bool
  | .non, .non => true
  | .bl a, .bl b => a == b
  | .bl a, .int j => (if a then 1 else 0) == j
  | .int i, .bl b => i == (if b then 1 else 0)
  | .int i, .int j => i == j
  | .str x, .str y => x == y
  | .tup xs, .tup ys => eqDs xs ys
  | .lst xs, .lst ys => eqDs xs ys
  | _, _ => false
def eqDs : List D → List D → Bool
  | [], [] => true
  | x :: xs, y :: ys => eqD x y && eqDs xs ys
  | _, _ => false
end
mutual
/-- nested at most n deep, no bells, no script within -/
def okD : Nat → D → Bool
  | _, .non => true
  | _, .bl _ => true
  | _, .int _ => true
  | _, .str x => PySem.PyData.strOk x
  | 0, .tup _ => false
  | 0, .lst _ => false
  | n + 1, .tup xs => okDs n xs
  | n + 1, .lst xs => okDs n xs
  | _, .bell _ => false
  | _, .scr _ => false
def okDs : Nat → List D → Bool
  | _, [] => true
  | n, x :: xs => okD n x && okDs n xs
end
mutual
def toP : D → PyData
  | .non => .none
  | .bl b => .bool b
  | .int i => .int i
  | .str x => .str x
  | .tup xs => .tuple (toPs xs)
  | .lst xs => .list (toPs xs)
  | .bell _ => .dict []
  | .scr _ => .dict []
def toPs : List D → List PyData
  | [] => []
  | x :: xs => toP x :: toPs xs
end
mutual
theorem eqD_toP : ∀ (n : Nat) (d e : D), okD n d = true → okD n e = true → PyData.eqv (toP d) (toP e) = eqD d e
  | n, .non, e, h1, h2 => by cases e <;> simp [okD, toP, eqD, PyData.eqv] at h2 ⊢
  | n, .bl b, e, h1, h2 => by cases e <;> simp [okD, toP, eqD, PyData.eqv] at h2 ⊢
  | n, .int i, e, h1, h2 => by cases e <;> simp [okD, toP, eqD, PyData.eqv] at h2 ⊢
  | n, .str x, e, h1, h2 => by cases e <;> simp [okD, toP, eqD, PyData.eqv] at h2 ⊢
  | 0, .tup xs, e, h1, h2 => by simp [okD] at h1
  | 0, .lst xs, e, h1, h2 => by simp [okD] at h1
  | n + 1, .tup xs, e, h1, h2 => by
    cases e with
    | tup ys =>
      simp only [okD, toP, eqD, PyData.eqv] at h1 h2 ⊢
      exact eqDs_toP n xs ys h1 h2
    | _ => simp [okD, toP, eqD, PyData.eqv] at h2 ⊢
  | n + 1, .lst xs, e, h1, h2 => by
    cases e with
    | lst ys =>
      simp only [okD, toP, eqD, PyData.eqv] at h1 h2 ⊢
      exact eqDs_toP n xs ys h1 h2
    | _ => simp [okD, toP, eqD, PyData.eqv] at h2 ⊢
  | n, .bell _, e, h1, h2 => by cases n <;> simp [okD] at h1
  | n, .scr _, e, h1, h2 => by cases n <;> simp [okD] at h1
theorem eqDs_toP : ∀ (n : Nat) (xs ys : List D), okDs n xs = true → okDs n ys = true → PyData.eqvAll (toPs xs) (toPs ys) = eqDs xs ys
  | n, [], ys, h1, h2 => by cases ys <;> simp [toPs, eqDs, PyData.eqvAll]
  | n, x :: xs, [], h1, h2 => by simp [toPs, eqDs, PyData.eqvAll]
  | n, x :: xs, y :: ys, h1, h2 => by
    simp only [okDs, Bool.and_eq_true] at h1 h2
    simp only [toPs, eqDs, PyData.eqvAll]
    rw [eqD_toP n x y h1.1 h2.1, eqDs_toP n xs ys h1.2 h2.2]
end
mutual
theorem okD_lay : ∀ (n : Nat) (d : D), okD n d = true → (toP d).canLay0 = true ∧ (toP d).depth ≤ n
  | n, .non, _ => by simp [toP, PyData.canLay0, PyData.depth]
  | n, .bl b, _ => by simp [toP, PyData.canLay0, PyData.depth]
  | n, .int i, _ => by simp [toP, PyData.canLay0, PyData.depth]
  | n, .str x, h => by cases n <;> simpa [okD, toP, PyData.canLay0, PyData.depth] using h
  | 0, .tup xs, h => by simp [okD] at h
  | 0, .lst xs, h => by simp [okD] at h
  | n + 1, .tup xs, h => by
    simp only [okD] at h
    obtain ⟨h1, h2⟩ := okDs_lay n xs h
    simp only [toP, PyData.canLay0, PyData.depth]
    exact ⟨h1, by omega⟩
  | n + 1, .lst xs, h => by
    simp only [okD] at h
    obtain ⟨h1, h2⟩ := okDs_lay n xs h
    simp only [toP, PyData.canLay0, PyData.depth]
    exact ⟨h1, by omega⟩
  | n, .bell _, h => by cases n <;> simp [okD] at h
  | n, .scr _, h => by cases n <;> simp [okD] at h
theorem okDs_lay : ∀ (n : Nat) (ds : List D), okDs n ds = true → PyData.canLayAll0 (toPs ds) = true ∧ PyData.depthAll (toPs ds) ≤ n
  | n, [], _ => by simp [toPs, PyData.canLayAll0, PyData.depthAll]
  | n, x :: xs, h => by
    simp only [okDs, Bool.and_eq_true] at h
    obtain ⟨h1, h2⟩ := okD_lay n x h.1
    obtain ⟨h3, h4⟩ := okDs_lay n xs h.2
    simp only [toPs, PyData.canLayAll0, PyData.depthAll, h1, h3, Bool.and_self]
    exact ⟨trivial, by omega⟩
end
theorem shaped_ok {d : D} {n : Nat} (h : okD n d = true) (hn : n ≤ 64) : SeqAt.shaped (toP d) = true := by
  obtain ⟨h1, h2⟩ := okD_lay n d h
  unfold SeqAt.shaped
  rw [h1, decide_eq_true (Nat.le_trans h2 hn)]
  rfl
section
variable {K : PySem.W.Frag} {C : Addr} {H : Hp}
mutual
theorem Rp.dp : ∀ (n : Nat) (d : D) (v : V), okD n d = true → Rp K C H d v → Dp K H v (toP d)
  | _, .non, v, _, h => by
    have e : v = .non := h
    subst e
    exact .non
  | _, .bl b, v, _, h => by
    have e : v = .bl b := h
    subst e
    exact .bl b
  | _, .int i, v, _, h => by
    have e : v = .int i := h
    subst e
    exact .int i
  | _, .str x, v, _, h => by
    have e : v = .str x := h
    subst e
    exact .str x
  | 0, .tup xs, v, o, h => by simp [okD] at o
  | 0, .lst xs, v, o, h => by simp [okD] at o
  | n + 1, .tup ds, v, o, h => by
    simp only [Rp] at h
    simp only [okD] at o
    obtain ⟨a, xs, rfl, ha, hl⟩ := h
    simp only [toP]
    exact .tup (SqT.of ha) (RpL.dp n ds xs o hl)
  | n + 1, .lst ds, v, o, h => by
    simp only [Rp] at h
    simp only [okD] at o
    obtain ⟨a, xs, rfl, ha, hl⟩ := h
    simp only [toP]
    exact .lst (SqL.of ha) (RpL.dp n ds xs o hl)
  | n, .bell _, _, o, _ => by cases n <;> simp [okD] at o
  | n, .scr _, _, o, _ => by cases n <;> simp [okD] at o
theorem RpL.dp : ∀ (n : Nat) (ds : List D) (vs : List V), okDs n ds = true → RpL K C H ds vs → DpAll K H vs (toPs ds)
  | _, [], vs, _, h => by
    have e : vs = [] := h
    subst e
    simp only [toPs]
    exact .nil
  | n, d :: ds, vs, o, h => by
    simp only [RpL] at h
    simp only [okDs, Bool.and_eq_true] at o
    obtain ⟨x, r, rfl, h1, h2⟩ := h
    simp only [toPs]
    exact .cons (Rp.dp n d x o.1 h1) (RpL.dp n ds r o.2 h2)
end
end
theorem szl_ok {n : Nat} (h : n ≤ 16777216) : n ≤ sizeLine := by rw [sizeLine_eq]; exact h
def opAdd : D → D → Option D
  | .int a, .int b => some (.int (a + b))
  | .tup a, .tup b => if a.length + b.length ≤ 16777216 then some (.tup (a ++ b)) else none
  | .lst a, .lst b => if a.length + b.length ≤ 16777216 then some (.lst (a ++ b)) else none
  | .str a, .str b => if a.length + b.length ≤ 16777216 then some (.str (a ++ b)) else none
  | _, _ => none
def opSub : D → D → Option D
  | .int a, .int b => some (.int (a - b))
  | _, _ => none
/-- one factor below 2 ^ 64 -/
def mulOk (a b : Int) : Bool := (decide (-18446744073709551616 < a) && decide (a < 18446744073709551616)) || (decide (-18446744073709551616 < b) && decide (b < 18446744073709551616))
def opMul : D → D → Option D
  | .int a, .int b => if mulOk a b = true then some (.int (a * b)) else none
  | .lst a, .int k => if k ≤ 16777216 ∧ -16777216 ≤ k ∧ a.length * k.toNat ≤ 16777216 then some (.lst (List.replicate k.toNat a).flatten) else none
  | .tup a, .int k => if 2 ≤ k ∧ k ≤ 1000 ∧ a.length ≤ 1000 ∧ a.isEmpty = false then some (.tup (List.replicate k.toNat a).flatten) else none
  | _, _ => none
def opFdiv : D → D → Option D
  | .int a, .int b => if 0 < b ∧ b < 18446744073709551616 then some (.int (a / b)) else none
  | _, _ => none
def opMod : D → D → Option D
  | .int a, .int b => if 0 < b then some (.int (a % b)) else none
  | _, _ => none
def opPow : D → D → Option D
  | .int a, .int b => if 0 ≤ b ∧ b ≤ 1000 ∧ 0 ≤ a ∧ a ≤ 1000000 then some (.int (a ^ b.toNat)) else none
  | _, _ => none
def opNeg : D → Option D
  | .int a => some (.int (-a))
  | _ => none
def opEq (d e : D) : Option D := if okD 60 d = true ∧ okD 60 e = true then some (.bl (eqD d e)) else none
def opNe (d e : D) : Option D := if okD 60 d = true ∧ okD 60 e = true then some (.bl (!eqD d e)) else none
def asInts : List D → Option (List Int)
  | [] => some []
  | .int i :: r => (asInts r).map (i :: ·)
  | _ :: _ => none
def lexI : List Int → List Int → Bool
  | _, [] => false
  | [], _ :: _ => true
  | x :: xs, y :: ys => if x = y then lexI xs ys else decide (x < y)
def opLt : D → D → Option D
  | .int a, .int b => some (.bl (decide (a < b)))
  | .tup a, .tup b => (asInts a).bind fun x => (asInts b).bind fun y => some (.bl (lexI x y))
  | _, _ => none
def opLe : D → D → Option D
  | .int a, .int b => some (.bl (decide (a ≤ b)))
  | _, _ => none
def opGt : D → D → Option D
  | .int a, .int b => some (.bl (decide (b < a)))
  | .tup a, .tup b => (asInts a).bind fun x => (asInts b).bind fun y => some (.bl (lexI y x))
  | _, _ => none
def opGe : D → D → Option D
  | .int a, .int b => some (.bl (decide (b ≤ a)))
  | _, _ => none
def isNone : D → Bool
  | .non => true
  | _ => false
def opIs : D → D → Option D
  | .bl a, .bl b => some (.bl (decide (a = b)))
  | d, .non => some (.bl (isNone d))
  | _, _ => none
def opIsNot : D → D → Option D
  | .bl a, .bl b => some (.bl (!decide (a = b)))
  | d, .non => some (.bl (!isNone d))
  | _, _ => none
def ixNat (n : Nat) (i : Int) : Option Nat := if 0 ≤ i then (if i < n then some i.toNat else none) else if -(n : Int) ≤ i then some (i + n).toNat else none
def opIx : D → D → Option D
  | .tup xs, .int i => (ixNat xs.length i).bind fun j => xs[j]?
  | .lst xs, .int i => (ixNat xs.length i).bind fun j => xs[j]?
  | .scr xs, .int i => (ixNat xs.length i).bind fun j => xs[j]?.map D.int
  | _, _ => none
section
variable {X : Cx} {C : Addr}
theorem got0 {K : PySem.W.Frag} {F H : Hp} {d : D} {Q : VK} {v : V} (g : Got K C F H d Q) (fh : Same F H) (r : Rp K C F d v) : Q v H := g v F H (Stp.refl fh) r
theorem gotN {K : PySem.W.Frag} {F H : Hp} {d : D} {Q : VK} {p : Addr} {o : HO} (g : Got K C F H d Q) (fh : Same F H) (hp : H p = none) (r : Rp K C (upd F p o) d (.ref p)) : Q (.ref p) (upd H p o) := g _ _ _ (Stp.new fh hp) r
theorem intsRp {K : PySem.W.Frag} {F : Hp} : ∀ {ds : List D} {ns : List Int} {vs : List V}, asInts ds = some ns → RpL K C F ds vs → vs = ns.map V.int
  | [], ns, vs, e, h => by
    cases e
    exact h
  | .int i :: ds, ns, vs, e, h => by
    simp only [asInts, Option.map_eq_some_iff] at e
    obtain ⟨ns', e1, rfl⟩ := e
    obtain ⟨x, r, rfl, h1, h2⟩ := h
    have h1' : x = .int i := h1
    rw [h1', intsRp e1 h2]
    rfl
  | .non :: _, _, _, e, _ => by simp [asInts] at e
  | .bl _ :: _, _, _, e, _ => by simp [asInts] at e
  | .str _ :: _, _, _, e, _ => by simp [asInts] at e
  | .tup _ :: _, _, _, e, _ => by simp [asInts] at e
  | .lst _ :: _, _, _, e, _ => by simp [asInts] at e
  | .bell _ :: _, _, _, e, _ => by simp [asInts] at e
  | .scr _ :: _, _, _, e, _ => by simp [asInts] at e
theorem RpL.nil_of {K : PySem.W.Frag} {F : Hp} {ds : List D} (h : RpL K C F ds []) : ds = [] := List.eq_nil_of_length_eq_zero h.len
theorem od_add : OpD X C (binaryOp .Add) opAdd := OpRw (op_add.or (op_catA.or (op_cat.or op_add_str))) fun x y H Q ⟨F, d, e, c, fh, r1, r2, ho, g⟩ => by
  cases d <;> cases e <;> first | (cases ho; done) | skip
  · cases ho
    exact .inl ⟨_, _, r1, r2, got0 g fh rfl⟩
  · simp only [opAdd] at ho
    split at ho
    · rename_i hz
      cases ho
      exact .inr (.inr (.inr ⟨_, _, r1, r2, szl_ok hz, got0 g fh rfl⟩))
    · cases ho
  · simp only [opAdd] at ho
    split at ho
    · rename_i hz
      cases ho
      obtain ⟨a, xs, rfl, ha, hl⟩ := r1
      obtain ⟨b, ys, rfl, hb, hm⟩ := r2
      have l1 := hl.len
      have l2 := hm.len
      refine .inr (.inl ⟨a, b, xs, ys, rfl, rfl, SqT.of (fh _ _ ha), SqT.of (fh _ _ hb), szl_ok (by omega), fun e0 => ?_, fun e0 e1 => ?_, fun e0 e1 p hp => ?_⟩)
      · subst e0
        obtain rfl := RpL.nil_of hl
        exact got0 g fh ⟨b, ys, rfl, hb, hm⟩
      · subst e1
        obtain rfl := RpL.nil_of hm
        rw [List.append_nil] at g
        exact got0 g fh ⟨a, xs, rfl, ha, hl⟩
      · have sm := same_upd (o := .tup (xs ++ ys)) (none_of_same fh hp)
        exact gotN g fh hp ⟨p, _, rfl, upd_same, RpL.append (RpL.mono sm _ _ hl) (RpL.mono sm _ _ hm)⟩
    · cases ho
  · simp only [opAdd] at ho
    split at ho
    · rename_i hz
      cases ho
      obtain ⟨a, xs, rfl, ha, hl⟩ := r1
      obtain ⟨b, ys, rfl, hb, hm⟩ := r2
      have l1 := hl.len
      have l2 := hm.len
      refine .inr (.inr (.inl ⟨a, b, xs, ys, rfl, rfl, fh _ _ ha, fh _ _ hb, szl_ok (by omega), fun p hp => ?_⟩))
      have sm := same_upd (o := .lst (xs ++ ys)) (none_of_same fh hp)
      exact gotN g fh hp ⟨p, _, rfl, upd_same, RpL.append (RpL.mono sm _ _ hl) (RpL.mono sm _ _ hm)⟩
    · cases ho
theorem od_sub : OpD X C (binaryOp .Sub) opSub := OpRw op_sub fun x y H Q ⟨F, d, e, c, fh, r1, r2, ho, g⟩ => by
  cases d <;> cases e <;> first | (cases ho; done) | skip
  cases ho
  exact ⟨_, _, r1, r2, got0 g fh rfl⟩
theorem mulOk_CMul {a b : Int} (h : mulOk a b = true) : CMul a b := by
  unfold mulOk at h
  simp only [Bool.or_eq_true, Bool.and_eq_true, decide_eq_true_eq] at h
  unfold CMul
  have e : (2 : Int) ^ 64 = 18446744073709551616 := by decide
  rw [e]
  exact h
theorem od_mul : OpD X C (binaryOp .Mult) opMul := OpRw (op_mul.or (op_rep.or op_repT)) fun x y H Q ⟨F, d, e, c, fh, r1, r2, ho, g⟩ => by
  cases d <;> cases e <;> first | (cases ho; done) | skip
  · simp only [opMul] at ho
    split at ho
    · rename_i hz
      cases ho
      exact .inl ⟨_, _, r1, r2, mulOk_CMul hz, got0 g fh rfl⟩
    · cases ho
  · simp only [opMul] at ho
    split at ho
    · rename_i hz
      cases ho
      obtain ⟨a, xs, rfl, ha, hl⟩ := r1
      have l1 := hl.len
      refine .inr (.inr ⟨a, _, xs, rfl, r2, SqT.of (fh _ _ ha), fun e0 => ?_, hz.1, hz.2.1, by omega, fun p hp => ?_⟩)
      · subst e0
        obtain rfl := RpL.nil_of hl
        exact absurd hz.2.2.2 (by simp)
      · exact gotN g fh hp ⟨p, _, rfl, upd_same, RpL.rep (RpL.mono (same_upd (none_of_same fh hp)) _ _ hl) _⟩
    · cases ho
  · simp only [opMul] at ho
    split at ho
    · rename_i hz
      cases ho
      obtain ⟨a, xs, rfl, ha, hl⟩ := r1
      have l1 := hl.len
      have e63 : (2 : Int) ^ 63 = 9223372036854775808 := by decide
      refine .inr (.inl ⟨a, _, xs, rfl, r2, fh _ _ ha, by rw [e63]; omega, by rw [e63]; omega, szl_ok (by rw [← l1]; exact hz.2.2), fun p hp => ?_⟩)
      exact gotN g fh hp ⟨p, _, rfl, upd_same, RpL.rep (RpL.mono (same_upd (none_of_same fh hp)) _ _ hl) _⟩
    · cases ho
theorem od_fdiv : OpD X C (binaryOp .FloorDiv) opFdiv := OpRw op_fdivW fun x y H Q ⟨F, d, e, c, fh, r1, r2, ho, g⟩ => by
  cases d <;> cases e <;> first | (cases ho; done) | skip
  simp only [opFdiv] at ho
  split at ho
  · rename_i hz
    cases ho
    exact ⟨_, _, r1, r2, wide_div (b := 64) hz.1 (by omega) (by decide) (by decide), got0 g fh rfl⟩
  · cases ho
theorem od_mod : OpD X C (binaryOp .Mod) opMod := OpRw op_mod fun x y H Q ⟨F, d, e, c, fh, r1, r2, ho, g⟩ => by
  cases d <;> cases e <;> first | (cases ho; done) | skip
  simp only [opMod] at ho
  split at ho
  · rename_i hz
    cases ho
    exact ⟨_, _, r1, r2, hz, got0 g fh rfl⟩
  · cases ho
theorem od_pow : OpD X C (binaryOp .Pow) opPow := OpRw op_pow fun x y H Q ⟨F, d, e, c, fh, r1, r2, ho, g⟩ => by
  cases d <;> cases e <;> first | (cases ho; done) | skip
  simp only [opPow] at ho
  split at ho
  · rename_i hz
    cases ho
    exact ⟨_, _, r1, r2, ⟨hz.1, by omega, by omega⟩, got0 g fh rfl⟩
  · cases ho
theorem od_eq (hu : X.A.units + 64 < cLine) : OpD X C (compareOp .Eq) opEq := OpRw (op_eqD hu) fun x y H Q ⟨F, d, e, c, fh, r1, r2, ho, g⟩ => by
  unfold opEq at ho
  split at ho
  · rename_i hz
    cases ho
    refine ⟨_, _, Rp.dp 60 d x hz.1 (Rp.mono fh _ _ r1), Rp.dp 60 e y hz.2 (Rp.mono fh _ _ r2), shaped_ok hz.1 (by decide), shaped_ok hz.2 (by decide), ?_⟩
    rw [eqD_toP 60 d e hz.1 hz.2]
    exact got0 g fh rfl
  · cases ho
theorem od_ne (hu : X.A.units + 64 < cLine) : OpD X C (compareOp .NotEq) opNe := OpRw (op_neD hu) fun x y H Q ⟨F, d, e, c, fh, r1, r2, ho, g⟩ => by
  unfold opNe at ho
  split at ho
  · rename_i hz
    cases ho
    refine ⟨_, _, Rp.dp 60 d x hz.1 (Rp.mono fh _ _ r1), Rp.dp 60 e y hz.2 (Rp.mono fh _ _ r2), shaped_ok hz.1 (by decide), shaped_ok hz.2 (by decide), ?_⟩
    rw [eqD_toP 60 d e hz.1 hz.2]
    exact got0 g fh rfl
  · cases ho
theorem lexI_eq : ∀ xs ys : List Int, HT.lexLt xs ys = lexI xs ys
  | [], [] => rfl
  | [], _ :: _ => rfl
  | _ :: _, [] => rfl
  | x :: xs, y :: ys => by
    rw [HT.lexLt_cons]
    show _ = if x = y then lexI xs ys else decide (x < y)
    rw [lexI_eq xs ys]
theorem op_gtT {X : Cx} (hu : X.A.units < cLine) : OpR X (compareOp .Gt) (fun x y H Q => ∃ (a b : Addr) (ns ms : List Int), x = .ref a ∧ y = .ref b ∧ SqT X.K H a (ns.map V.int) ∧ SqT X.K H b (ms.map V.int) ∧
  Q (.bl (Ob.lexAt (fun j => decide (ns.getD j 0 = ms.getD j 0)) (fun j => decide (ms.getD j 0 < ns.getD j 0)) (decide (ns.length > ms.length)) 0 (min ns.length ms.length))) H) := by
  intro pins s σ H x y v u Q I rx ry h
  obtain ⟨a, b, ns, ms, rfl, rfl, ha, hb, q⟩ := h
  cases rx
  cases ry
  obtain ⟨its, r1, p1, _⟩ := I.tuple ha
  obtain ⟨its2, r2, p2, _⟩ := I.tuple hb
  have i1 : IntsAre its ns := Vals.ints r1
  have i2 : IntsAre its2 ms := Vals.ints r2
  have e1 : its.toArray.size = ns.length := by rw [List.size_toArray]; exact i1.length
  have e2 : its2.toArray.size = ms.length := by rw [List.size_toArray]; exact i2.length
  have at1 : ∀ j (h1 : j < its.toArray.size), ∃ t, its.toArray[j] = .int (ns.getD j 0) t := fun j h1 => PyProof.Rows.IntsAre.int_at i1 _ _ (by simp at h1; simp [h1])
  have at2 : ∀ j (h1 : j < its2.toArray.size), ∃ t, its2.toArray[j] = .int (ms.getD j 0) t := fun j h1 => PyProof.Rows.IntsAre.int_at i2 _ _ (by simp at h1; simp [h1])
  have R := Ob.RcOp.tuples_gt (A := X.A) (s := s) (e := fun j => decide (ns.getD j 0 = ms.getD j 0)) (r := fun j => decide (ms.getD j 0 < ns.getD j 0)) p1 p2 hu (fun j h1 h2 => by
    obtain ⟨t, et⟩ := at1 j h1
    obtain ⟨t', et'⟩ := at2 j h2
    rw [et, et']
    have z : (ns.getD j 0 == ms.getD j 0) = decide (ns.getD j 0 = ms.getD j 0) := by
      by_cases q : ns.getD j 0 = ms.getD j 0
      · rw [decide_eq_true q]; exact beq_iff_eq.mpr q
      · rw [decide_eq_false q]; exact beq_eq_false_iff_ne.mpr q
    rw [← z]
    exact SeqAt.EqAt.int_int _ _ _ _) (fun j h1 h2 _ => by
    obtain ⟨t, et⟩ := at1 j h1
    obtain ⟨t', et'⟩ := at2 j h2
    rw [et, et']
    exact Ob.RcOp.gt_int _ _ _ _)
  rw [e1, e2] at R
  have z : wpAny (model X.prog X.w) X.A (compareOp .Gt (.ref a) (.ref b)) (EP X pins σ Q) X.xe s := R X.prog X.w X.xe (EP X pins σ Q) ⟨.bl _, H, I, rfl, q⟩
  exact z
theorem lexAt_shift (e r : Nat → Bool) (z : Bool) : ∀ (k i : Nat), Ob.lexAt e r z (i + 1) k = Ob.lexAt (fun j => e (j + 1)) (fun j => r (j + 1)) z i k
  | 0, i => rfl
  | k + 1, i => by
    rw [Ob.lexAt_succ, Ob.lexAt_succ, lexAt_shift e r z k (i + 1)]
theorem lexAt_gt : ∀ (ns ms : List Int), Ob.lexAt (fun j => decide (ns.getD j 0 = ms.getD j 0)) (fun j => decide (ms.getD j 0 < ns.getD j 0)) (decide (ns.length > ms.length)) 0 (min ns.length ms.length) = lexI ms ns
  | [], [] => rfl
  | [], _ :: _ => rfl
  | _ :: _, [] => by simp [Ob.lexAt_zero, lexI]
  | x :: xs, y :: ys => by
    have e : min (x :: xs).length (y :: ys).length = min xs.length ys.length + 1 := by simp only [List.length_cons]; omega
    rw [e, Ob.lexAt_succ, lexAt_shift]
    have e2 : decide ((x :: xs).length > (y :: ys).length) = decide (xs.length > ys.length) := by
      rw [List.length_cons, List.length_cons]
      exact decide_eq_decide.mpr (by omega)
    rw [e2]
    show (if decide (x = y) = true then Ob.lexAt (fun j => decide (xs.getD j 0 = ys.getD j 0)) (fun j => decide (ys.getD j 0 < xs.getD j 0)) (decide (xs.length > ys.length)) 0 (min xs.length ys.length) else decide (y < x)) = if y = x then lexI ys xs else decide (y < x)
    rw [lexAt_gt xs ys]
    by_cases h : x = y
    · rw [decide_eq_true h, if_pos rfl, if_pos h.symm]
    · rw [decide_eq_false h, if_neg Bool.false_ne_true, if_neg (fun z => h z.symm)]
theorem od_lt (hu : X.A.units < cLine) : OpD X C (compareOp .Lt) opLt := OpRw (op_lt.or (op_ltT hu)) fun x y H Q ⟨F, d, e, c, fh, r1, r2, ho, g⟩ => by
  cases d <;> cases e <;> first | (cases ho; done) | skip
  · cases ho
    exact .inl ⟨_, _, r1, r2, got0 g fh rfl⟩
  · obtain ⟨ns, e1, ho1⟩ := bind_some ho
    obtain ⟨ms, e2, ho2⟩ := bind_some ho1
    cases ho2
    obtain ⟨a, xs, rfl, ha, hl⟩ := r1
    obtain ⟨b, ys, rfl, hb, hm⟩ := r2
    rw [intsRp e1 hl] at ha
    rw [intsRp e2 hm] at hb
    refine .inr ⟨a, b, ns, ms, rfl, rfl, SqT.of (fh _ _ ha), SqT.of (fh _ _ hb), ?_⟩
    rw [lexI_eq]
    exact got0 g fh rfl
theorem od_gt (hu : X.A.units < cLine) : OpD X C (compareOp .Gt) opGt := OpRw (op_gt.or (op_gtT hu)) fun x y H Q ⟨F, d, e, c, fh, r1, r2, ho, g⟩ => by
  cases d <;> cases e <;> first | (cases ho; done) | skip
  · cases ho
    exact .inl ⟨_, _, r1, r2, got0 g fh rfl⟩
  · obtain ⟨ns, e1, ho1⟩ := bind_some ho
    obtain ⟨ms, e2, ho2⟩ := bind_some ho1
    cases ho2
    obtain ⟨a, xs, rfl, ha, hl⟩ := r1
    obtain ⟨b, ys, rfl, hb, hm⟩ := r2
    rw [intsRp e1 hl] at ha
    rw [intsRp e2 hm] at hb
    refine .inr ⟨a, b, ns, ms, rfl, rfl, SqT.of (fh _ _ ha), SqT.of (fh _ _ hb), ?_⟩
    rw [lexAt_gt]
    exact got0 g fh rfl
theorem od_le : OpD X C (compareOp .LtE) opLe := OpRw op_le fun x y H Q ⟨F, d, e, c, fh, r1, r2, ho, g⟩ => by
  cases d <;> cases e <;> first | (cases ho; done) | skip
  cases ho
  exact ⟨_, _, r1, r2, got0 g fh rfl⟩
theorem od_ge : OpD X C (compareOp .GtE) opGe := OpRw op_ge fun x y H Q ⟨F, d, e, c, fh, r1, r2, ho, g⟩ => by
  cases d <;> cases e <;> first | (cases ho; done) | skip
  cases ho
  exact ⟨_, _, r1, r2, got0 g fh rfl⟩
theorem ixNat_eq (n : Nat) (i : Int) : ixNat n i = ixN n i := rfl
theorem ix_d : IxD X C opIx := by
  intro vl sl pins s σ H x y v u Q I rx ry q
  refine (ix_tup.or ix_list) vl sl pins s σ H x y v u Q I rx ry ?_
  obtain ⟨F, d, e, c, fh, r1, r2, ho, g⟩ := q
  cases d <;> cases e <;> first | (cases ho; done) | skip
  · obtain ⟨j, e1, e2⟩ := bind_some ho
    obtain ⟨a, xs, rfl, ha, hl⟩ := r1
    obtain ⟨w, h1, h2⟩ := RpL.get hl e2
    refine .inl ⟨a, xs, _, w, rfl, r2, SqT.of (fh _ _ ha), ?_, got0 g fh h2⟩
    unfold atI
    rw [← hl.len, ← ixNat_eq, e1]
    exact h1
  · obtain ⟨j, e1, e2⟩ := bind_some ho
    obtain ⟨a, xs, rfl, ha, hl⟩ := r1
    obtain ⟨w, h1, h2⟩ := RpL.get hl e2
    refine .inr ⟨a, xs, _, w, rfl, r2, SqL.of (fh _ _ ha), ?_, got0 g fh h2⟩
    unfold atI
    rw [← hl.len, ← ixNat_eq, e1]
    exact h1
  · obtain ⟨j, e1, e2⟩ := bind_some ho
    obtain ⟨a, rfl, ha⟩ := r1
    obtain ⟨i', e3, rfl⟩ := Option.map_eq_some_iff.mp e2
    refine .inr ⟨a, _, _, .int i', rfl, r2, fh.seq ha, ?_, got0 g fh rfl⟩
    unfold atI
    rw [List.length_map, ← ixNat_eq, e1]
    show (List.map V.int _)[j]? = _
    rw [List.getElem?_map, e3]
    rfl
theorem de_neg {e : Expr} {O : List Nat} {f : DF} {pos : Pos} (h : DE X C O e f) : DE X C O (.UnaryOp .USub e pos) (d1 opNeg f) := PEw (pe_un un_neg h) fun σ H Q ⟨F, ρ, t, E, hf, k⟩ => by
  obtain ⟨x, h1, hf1⟩ := bind_some hf
  refine ⟨F, ρ, x, E, h1, fun v F1 H1 s1 r1 => ?_⟩
  cases x <;> first | (cases hf1; done) | skip
  cases hf1
  exact ⟨_, r1, k _ F1 H1 s1 rfl⟩
end
end DL
namespace DL
open PySem PySem.Spec PyProof.Rows L2
def opLen : List D → Option D
  | [.tup xs] => some (.int xs.length)
  | [.lst xs] => some (.int xs.length)
  | [.scr xs] => some (.int xs.length)
  | [.str x] => if x.length ≤ 16777216 then some (.int x.length) else none
  | _ => none
def opTuple : List D → Option D
  | [.tup xs] => some (.tup xs)
  | [.lst xs] => some (.tup xs)
  | _ => none
/-- sorted -/
def ins (a : Int) : List Int → List Int
  | [] => [a]
  | b :: r => if a ≤ b then a :: b :: r else b :: ins a r
def asBls : List D → Option (List Bool)
  | [] => some []
  | .bl i :: r => (asBls r).map (i :: ·)
  | _ :: _ => none
def opAll : List D → Option D
  | [.lst xs] => (asBls xs).bind fun bs => some (.bl (bs.all id))
  | _ => none
def maxI : List Int → Option Int
  | [] => none
  | a :: r => some (r.foldl (fun x y => if y > x then y else x) a)
def minI : List Int → Option Int
  | [] => none
  | a :: r => some (r.foldl (fun x y => if y < x then y else x) a)
def opMax : List D → Option D
  | [.lst xs] => (asInts xs).bind fun ns => (maxI ns).bind fun m => some (.int m)
  | [.int i, .int j] => some (.int (if j > i then j else i))
  | _ => none
def opMin : List D → Option D
  | [.lst xs] => (asInts xs).bind fun ns => (minI ns).bind fun m => some (.int m)
  | [.int i, .int j] => some (.int (if j < i then j else i))
  | _ => none
def opInt : List D → Option D
  | [.int i] => some (.int i)
  | [.bl b] => some (.int (if b then 1 else 0))
  | _ => none
theorem maxI_spec : ∀ {ns : List Int} {m : Int}, maxI ns = some m → m ∈ ns ∧ ∀ y, y ∈ ns → y ≤ m
  | [], m, h => by cases h
  | a :: r, m, h => by
    have e : r.foldl (fun x y => if y > x then y else x) a = m := Option.some.inj h
    clear h
    revert a
    induction r with
    | nil =>
      intro a e
      have e' : a = m := e
      subst e'
      exact ⟨List.mem_cons_self, fun y hy => by
        rw [List.mem_singleton.mp hy]
        exact Int.le_refl _⟩
    | cons b r ih =>
      intro a e
      obtain ⟨h1, h2⟩ := ih (if b > a then b else a) e
      have hx := h2 _ List.mem_cons_self
      refine ⟨?_, fun y hy => ?_⟩
      · rcases List.mem_cons.mp h1 with e1 | h1
        · split at e1
          · rw [e1]
            exact List.mem_cons_of_mem _ List.mem_cons_self
          · rw [e1]
            exact List.mem_cons_self
        · exact List.mem_cons_of_mem _ (List.mem_cons_of_mem _ h1)
      · rcases List.mem_cons.mp hy with rfl | hy
        · split at hx <;> omega
        · rcases List.mem_cons.mp hy with rfl | hy
          · split at hx <;> omega
          · exact h2 y (List.mem_cons_of_mem _ hy)
theorem minI_spec : ∀ {ns : List Int} {m : Int}, minI ns = some m → m ∈ ns ∧ ∀ y, y ∈ ns → m ≤ y
  | [], m, h => by cases h
  | a :: r, m, h => by
    have e : r.foldl (fun x y => if y < x then y else x) a = m := Option.some.inj h
    clear h
    revert a
    induction r with
    | nil =>
      intro a e
      have e' : a = m := e
      subst e'
      exact ⟨List.mem_cons_self, fun y hy => by
        rw [List.mem_singleton.mp hy]
        exact Int.le_refl _⟩
    | cons b r ih =>
      intro a e
      obtain ⟨h1, h2⟩ := ih (if b < a then b else a) e
      have hx := h2 _ List.mem_cons_self
      refine ⟨?_, fun y hy => ?_⟩
      · rcases List.mem_cons.mp h1 with e1 | h1
        · split at e1
          · rw [e1]
            exact List.mem_cons_of_mem _ List.mem_cons_self
          · rw [e1]
            exact List.mem_cons_self
        · exact List.mem_cons_of_mem _ (List.mem_cons_of_mem _ h1)
      · rcases List.mem_cons.mp hy with rfl | hy
        · split at hx <;> omega
        · rcases List.mem_cons.mp hy with rfl | hy
          · split at hx <;> omega
          · exact h2 y (List.mem_cons_of_mem _ hy)
section
variable {X : Cx} {C : Addr}
theorem RpL.one_inv {K : PySem.W.Frag} {F : Hp} {d : D} {vs : List V} (h : RpL K C F [d] vs) : ∃ v, vs = [v] ∧ Rp K C F d v := by
  obtain ⟨x, r, e, h1, h2⟩ := h
  have e2 : r = [] := h2
  subst e2
  exact ⟨x, e, h1⟩
theorem RpL.two_inv {K : PySem.W.Frag} {F : Hp} {d e : D} {vs : List V} (h : RpL K C F [d, e] vs) : ∃ v w, vs = [v, w] ∧ Rp K C F d v ∧ Rp K C F e w := by
  obtain ⟨x, r, e1, h1, h2⟩ := h
  obtain ⟨w, rfl, h3⟩ := RpL.one_inv h2
  exact ⟨x, w, e1, h1, h3⟩
theorem cd_len : CallD X C (.builtin "len") opLen := CallRw (call_len_seq.or call_len_str) fun xs H Q ⟨F, ds, c, fh, r, ho, g⟩ => by
  match ds, ho, r with
  | [.tup es], ho, r =>
    cases ho
    obtain ⟨v, rfl, a, xs, rfl, ha, hl⟩ := RpL.one_inv r
    refine .inl ⟨a, xs, rfl, .inr (SqT.of (fh _ _ ha)), ?_⟩
    rw [← hl.len]
    exact got0 g fh rfl
  | [.lst es], ho, r =>
    cases ho
    obtain ⟨v, rfl, a, xs, rfl, ha, hl⟩ := RpL.one_inv r
    refine .inl ⟨a, xs, rfl, .inl (SqL.of (fh _ _ ha)), ?_⟩
    rw [← hl.len]
    exact got0 g fh rfl
  | [.scr es], ho, r =>
    cases ho
    obtain ⟨v, rfl, a, rfl, ha⟩ := RpL.one_inv r
    refine .inl ⟨a, _, rfl, .inl (fh.seq ha), ?_⟩
    rw [List.length_map]
    exact got0 g fh rfl
  | [.str z], ho, r =>
    simp only [opLen] at ho
    split at ho
    · rename_i hz
      cases ho
      obtain ⟨v, rfl, h⟩ := RpL.one_inv r
      have e : v = .str z := h
      subst e
      exact .inr ⟨z, rfl, szl_ok hz, got0 g fh rfl⟩
    · cases ho
theorem cd_tuple : CallD X C (.type "tuple") opTuple := CallRw call_tuple_of fun xs H Q ⟨F, ds, c, fh, r, ho, g⟩ => by
  match ds, ho, r with
  | [.tup es], ho, r =>
    cases ho
    obtain ⟨v, rfl, a, xs, rfl, ha, hl⟩ := RpL.one_inv r
    exact ⟨a, xs, rfl, .inr ⟨SqT.of (fh _ _ ha), got0 g fh ⟨a, xs, rfl, ha, hl⟩⟩⟩
  | [.lst es], ho, r =>
    cases ho
    obtain ⟨v, rfl, a, xs, rfl, ha, hl⟩ := RpL.one_inv r
    exact ⟨a, xs, rfl, .inl ⟨SqL.of (fh _ _ ha), fun l hn => gotN g fh hn ⟨l, xs, rfl, upd_same, RpL.mono (same_upd (none_of_same fh hn)) _ _ hl⟩⟩⟩
theorem blsRp {K : PySem.W.Frag} {F : Hp} : ∀ {ds : List D} {ns : List Bool} {vs : List V}, asBls ds = some ns → RpL K C F ds vs → vs = ns.map V.bl
  | [], ns, vs, e, h => by
    cases e
    exact h
  | .bl i :: ds, ns, vs, e, h => by
    simp only [asBls, Option.map_eq_some_iff] at e
    obtain ⟨ns', e1, rfl⟩ := e
    obtain ⟨x, r, rfl, h1, h2⟩ := h
    have h1' : x = .bl i := h1
    rw [h1', blsRp e1 h2]
    rfl
  | .non :: _, _, _, e, _ => by simp [asBls] at e
  | .int _ :: _, _, _, e, _ => by simp [asBls] at e
  | .str _ :: _, _, _, e, _ => by simp [asBls] at e
  | .tup _ :: _, _, _, e, _ => by simp [asBls] at e
  | .lst _ :: _, _, _, e, _ => by simp [asBls] at e
  | .bell _ :: _, _, _, e, _ => by simp [asBls] at e
  | .scr _ :: _, _, _, e, _ => by simp [asBls] at e
theorem cd_all (hc : X.calm = true) : CallD X C (.builtin "all") opAll := CallRw (cr_all hc) fun xs H Q ⟨F, ds, c, fh, r, ho, g⟩ => by
  match ds, ho, r with
  | [.lst es], ho, r =>
    obtain ⟨ns, e1, ho1⟩ := bind_some ho
    cases ho1
    obtain ⟨v, rfl, a, xs, rfl, ha, hl⟩ := RpL.one_inv r
    rw [blsRp e1 hl] at ha
    exact ⟨a, ns, rfl, SqL.of (fh _ _ ha), got0 g fh rfl⟩
theorem le_uniq_max {ns : List Int} {m m' : Int} (h1 : m ∈ ns) (h2 : ∀ y, y ∈ ns → y ≤ m) (h3 : m' ∈ ns) (h4 : ∀ y, y ∈ ns → y ≤ m') : m = m' := Int.le_antisymm (h4 m h1) (h2 m' h3)
theorem le_uniq_min {ns : List Int} {m m' : Int} (h1 : m ∈ ns) (h2 : ∀ y, y ∈ ns → m ≤ y) (h3 : m' ∈ ns) (h4 : ∀ y, y ∈ ns → m' ≤ y) : m = m' := Int.le_antisymm (h2 m' h3) (h4 m h1)
theorem cd_max (hc : X.calm = true) : CallD X C (.builtin "max") opMax := CallRw ((cr_max hc).or (call_max2 hc)) fun xs H Q ⟨F, ds, c, fh, r, ho, g⟩ => by
  match ds, ho, r with
  | [.lst es], ho, r =>
    obtain ⟨ns, e1, ho1⟩ := bind_some ho
    obtain ⟨m, e2, ho2⟩ := bind_some ho1
    cases ho2
    obtain ⟨v, rfl, a, xs, rfl, ha, hl⟩ := RpL.one_inv r
    rw [intsRp e1 hl] at ha
    obtain ⟨s1, s2⟩ := maxI_spec e2
    refine .inl ⟨a, ns, rfl, SqL.of (fh _ _ ha), List.length_pos_of_mem s1, fun m' h1 h2 => ?_⟩
    rw [le_uniq_max h1 h2 s1 s2]
    exact got0 g fh rfl
  | [.int i, .int j], ho, r =>
    cases ho
    obtain ⟨v, w, rfl, h1, h2⟩ := RpL.two_inv r
    rw [Rp.int h1, Rp.int h2]
    exact .inr ⟨i, j, rfl, got0 g fh rfl⟩
theorem cd_min (hc : X.calm = true) : CallD X C (.builtin "min") opMin := CallRw ((cr_min hc).or (call_min2 hc)) fun xs H Q ⟨F, ds, c, fh, r, ho, g⟩ => by
  match ds, ho, r with
  | [.lst es], ho, r =>
    obtain ⟨ns, e1, ho1⟩ := bind_some ho
    obtain ⟨m, e2, ho2⟩ := bind_some ho1
    cases ho2
    obtain ⟨v, rfl, a, xs, rfl, ha, hl⟩ := RpL.one_inv r
    rw [intsRp e1 hl] at ha
    obtain ⟨s1, s2⟩ := minI_spec e2
    refine .inl ⟨a, ns, rfl, SqL.of (fh _ _ ha), List.length_pos_of_mem s1, fun m' h1 h2 => ?_⟩
    rw [le_uniq_min h1 h2 s1 s2]
    exact got0 g fh rfl
  | [.int i, .int j], ho, r =>
    cases ho
    obtain ⟨v, w, rfl, h1, h2⟩ := RpL.two_inv r
    rw [Rp.int h1, Rp.int h2]
    exact .inr ⟨i, j, rfl, got0 g fh rfl⟩
theorem cd_int : CallD X C (.type "int") opInt := CallRw call_int1 fun xs H Q ⟨F, ds, c, fh, r, ho, g⟩ => by
  match ds, ho, r with
  | [.int i], ho, r =>
    cases ho
    obtain ⟨v, rfl, h⟩ := RpL.one_inv r
    rw [Rp.int h]
    exact .inl ⟨i, rfl, got0 g fh rfl⟩
  | [.bl i], ho, r =>
    cases ho
    obtain ⟨v, rfl, h⟩ := RpL.one_inv r
    rw [Rp.bl h]
    exact .inr ⟨i, rfl, got0 g fh rfl⟩
def opIsi (T : String) : D → Option D
  | .non => some (.bl false)
  | .bl _ => some (.bl (T == "bool" || T == "int"))
  | .int _ => some (.bl (T == "int"))
  | .str _ => some (.bl (T == "str"))
  | .tup _ => some (.bl (T == "tuple"))
  | .lst _ => some (.bl (T == "list"))
  | _ => none
theorem isi_tab {K : PySem.W.Frag} {T : String} (hT : T = "int" ∨ T = "bool" ∨ T = "tuple" ∨ T = "list" ∨ T = "str") : PySem.W.kitOne K (.type "NoneType") (.type T) = some false ∧
    PySem.W.kitOne K (.type "bool") (.type T) = some (T == "bool" || T == "int") ∧ PySem.W.kitOne K (.type "int") (.type T) = some (T == "int") ∧ PySem.W.kitOne K (.type "str") (.type T) = some (T == "str") ∧
    PySem.W.kitOne K (.type "tuple") (.type T) = some (T == "tuple") ∧ PySem.W.kitOne K (.type "list") (.type T) = some (T == "list") := by
  rcases hT with rfl | rfl | rfl | rfl | rfl <;> refine ⟨?_, ?_, ?_, ?_, ?_, ?_⟩ <;> exact kit_ty (by decide +kernel)
variable {O : List Nat} {e : Expr} {f : DF} {pos p p' : Pos}
theorem isi_val {K : PySem.W.Frag} {F H : Hp} {T : String} {d c : D} {v : V} {Q : VK} (hT : T = "int" ∨ T = "bool" ∨ T = "tuple" ∨ T = "list" ∨ T = "str") (fh : Same F H) (r : Rp K C F d v) (ho : opIsi T d = some c) (g : Got K C F H c Q) : rIsi K [v, .ty T] H Q := by
  obtain ⟨t1, t2, t3, t4, t5, t6⟩ := isi_tab (K := K) hT
  have go : ∀ {t : Value} {b : Bool}, TyOf K H v t → PySem.W.kitOne K t (.type T) = some b → c = .bl b → rIsi K [v, .ty T] H Q := fun {t b} ty hk e => by
    subst e
    exact ⟨v, .ty T, t, .type T, b, rfl, .ty T, .base ty, hk, got0 g fh rfl⟩
  cases d with
  | non =>
    cases ho
    have e : v = .non := r
    subst e
    exact go .non t1 rfl
  | bl b =>
    cases ho
    have e : v = .bl b := r
    subst e
    exact go (.bl b) t2 rfl
  | int i =>
    cases ho
    have e : v = .int i := r
    subst e
    exact go (.int i) t3 rfl
  | str z =>
    cases ho
    have e : v = .str z := r
    subst e
    exact go (.str z) t4 rfl
  | tup ds =>
    cases ho
    obtain ⟨a, xs, rfl, ha, _⟩ := r
    exact go (.tup (fh _ _ ha)) t5 rfl
  | lst ds =>
    cases ho
    obtain ⟨a, xs, rfl, ha, _⟩ := r
    exact go (.lst (fh _ _ ha)) t6 rfl
  | bell _ => cases ho
  | scr _ => cases ho
/-- isinstance(e, T), T a name of a built-in class -/
theorem de_isi {T : String} {x : Str} (hT : T = "int" ∨ T = "bool" ∨ T = "tuple" ∨ T = "list" ∨ T = "str") (ha : DE X C O e f) (hg : Gl X "isinstance") (hm : X.mg "isinstance" = none) (hg2 : Gl X x) (hm2 : X.mg x = none) (hv : bootBuiltins x = some (.type T))
    (hn2 : x ≠ "__name__" := by decide) (hd2 : (x == ("__debug__" : Str)) = false := by decide)
    (he : starEach [e, .Name x p'] X.env = (false, eval e X.env) :: starEach [.Name x p'] X.env := by rfl) (he2 : starEach [.Name x p'] X.env = (false, eval (.Name x p') X.env) :: starEach [] X.env := by rfl) (hpl : (backTo pos (starEach [.Name x p'] X.env)).any (·.1) = false := by rfl) :
    DE X C O (.Call (.Name "isinstance" p) [e, .Name x p'] [] pos) (d1 (opIsi T) f) := by
  have hp : PE X (.Name x p') (tC (.ty T)) := pe_bltn hg2 hm2 hv rfl hn2 hd2
  refine PEw (pe_callB call_isi hg hm PyProof.Rows.boot_isinstance (pa_cons ha (pa_cons hp pa_nil he2) he) (by decide) (by decide) he hpl) fun σ H Q ⟨F, ρ, t, E, hf, k⟩ => ?_
  obtain ⟨d, h1, hf1⟩ := bind_some hf
  exact ⟨F, ρ, d, E, h1, fun v F1 H1 s1 r1 => isi_val hT s1.fh r1 hf1 (k.step s1)⟩
end
def cutL (xs : List D) (lo hi : Option Int) : List D := (xs.drop (HT.sIx xs.length 0 lo)).take (HT.sIx xs.length xs.length hi - HT.sIx xs.length 0 lo)
def opSl (lo hi : Option Int) : D → Option D
  | .tup xs => some (.tup (cutL xs lo hi))
  | .lst xs => some (.lst (cutL xs lo hi))
  | _ => none
def asIx : D → Option Int
  | .int i => some i
  | _ => none
abbrev DOx := Rho → Option (Option Int)
def oNo : DOx := fun _ => some none
def oIx (f : DF) : DOx := fun ρ => (f ρ).bind fun d => (asIx d).bind fun i => some (some i)
def dSl (f : DF) (l u : DOx) : DF := fun ρ => (f ρ).bind fun x => (l ρ).bind fun lo => (u ρ).bind fun hi => opSl lo hi x
def tDO (K : PySem.W.Frag) (C : Addr) (O : List Nat) (f : DOx) : TO := fun σ H Q => ∃ F ρ o, En K C O F H σ ρ ∧ f ρ = some o ∧ ∀ F' H', Stp F H F' H' → Q o H'
section
variable {X : Cx} {C : Addr} {O : List Nat} {e : Expr} {f : DF} {l u : DOx} {pos p2 : Pos} {lo hi : Option Expr}
theorem POw {e : Option Expr} {t t' : TO} (h : PO X e t) (w : ∀ σ H Q, t' σ H Q → t σ H Q) : PO X e t' := ⟨fun pins s σ H Q I q => h.run pins s σ H Q I (w σ H Q q)⟩
theorem do_no : PO X none (tDO X.K C O oNo) := POw po_none fun σ H Q ⟨F, ρ, o, E, hf, k⟩ => by
  cases hf
  exact k F H (Stp.refl E.fh)
theorem do_ix (h : DE X C O e f) : PO X (some e) (tDO X.K C O (oIx f)) := POw (po_some h) fun σ H Q ⟨F, ρ, o, E, hf, k⟩ => by
  obtain ⟨d, h1, hf1⟩ := bind_some hf
  obtain ⟨i, h2, hf2⟩ := bind_some hf1
  cases hf2
  refine ⟨F, ρ, d, E, h1, fun v F1 H1 s1 r1 => ?_⟩
  cases d <;> first | (cases h2; done) | skip
  cases h2
  exact ⟨i, r1, k F1 H1 s1⟩
theorem RpL.cut {K : PySem.W.Frag} {F : Hp} {ds : List D} {vs : List V} (h : RpL K C F ds vs) (lo hi : Option Int) : RpL K C F (cutL ds lo hi) (cutV vs lo hi) := by
  unfold cutL cutV
  rw [h.len]
  exact RpL.take _ (RpL.drop _ h)
theorem whole_cut {ds : List D} {lo hi : Option Int} (h : HT.sIx ds.length 0 lo = 0 ∧ HT.sIx ds.length ds.length hi = ds.length) : cutL ds lo hi = ds := by
  unfold cutL
  rw [h.1, h.2, List.drop_zero, Nat.sub_zero, List.take_length]
theorem SlRw {r r' : V → Option Int → Option Int → Hp → VK → Prop} (h : SlR X r) (w : ∀ x lo hi H Q, r' x lo hi H Q → r x lo hi H Q) : SlR X r' := fun pins s σ H x v vl vu lo hi sl Q I rx hs pl pu q => h pins s σ H x v vl vu lo hi sl Q I rx hs pl pu (w x lo hi H Q q)
theorem sl_d : SlR X (fun x lo hi H Q => ∃ F d c, Same F H ∧ Rp X.K C F d x ∧ opSl lo hi d = some c ∧ Got X.K C F H c Q) := SlRw (sl_list.or sl_tupA) fun x lo hi H Q ⟨F, d, c, fh, r, ho, g⟩ => by
  cases d <;> first | (cases ho; done) | skip
  · cases ho
    obtain ⟨a, xs, rfl, ha, hl⟩ := r
    refine .inr ⟨a, xs, rfl, SqT.of (fh _ _ ha), fun hw => ?_, fun hw p hp => gotN g fh hp ⟨p, _, rfl, upd_same, (RpL.mono (same_upd (none_of_same fh hp)) _ _ (RpL.cut hl lo hi))⟩⟩
    rw [← hl.len] at hw
    rw [whole_cut hw] at g
    exact got0 g fh ⟨a, xs, rfl, ha, hl⟩
  · cases ho
    obtain ⟨a, xs, rfl, ha, hl⟩ := r
    exact .inl ⟨a, xs, rfl, SqL.of (fh _ _ ha), fun p hp => gotN g fh hp ⟨p, _, rfl, upd_same, (RpL.mono (same_upd (none_of_same fh hp)) _ _ (RpL.cut hl lo hi))⟩⟩
theorem de_slice (he : DE X C O e f) (hl : PO X lo (tDO X.K C O l)) (hu : PO X hi (tDO X.K C O u)) : DE X C O (.Subscript e (.Slice lo hi none p2) pos) (dSl f l u) := PEw (pe_slice sl_d he hl hu) fun σ H Q ⟨F, ρ, t, E, hf, k⟩ => by
  obtain ⟨x, h1, hf1⟩ := bind_some hf
  obtain ⟨lo', h2, hf2⟩ := bind_some hf1
  obtain ⟨hi', h3, hf3⟩ := bind_some hf2
  exact ⟨F, ρ, x, E, h1, fun v F1 H1 s1 r1 => ⟨F1, ρ, lo', E.step s1, h2, fun F2 H2 s2 => ⟨F2, ρ, hi', E.step (s1.trans s2), h3, fun F3 H3 s3 => ⟨F3, x, t, s3.fh, Rp.mono (s2.ff.trans s3.ff) x v r1, hf3, k.step (s1.trans (s2.trans s3))⟩⟩⟩⟩
end
end DL
namespace DL
open PySem PySem.Spec PyProof.Rows L2
theorem meets_enum1 {v : Value} {o : Obj} {H : Heap → Prop} (B : Begins v o H) :
    Meets (Builtin.«enumerate.__new__» ⟨[.type "enumerate", v], []⟩) (fun _ R s => H s.heap ∧
      R (.ok (.ret (.ref (s.heap.push o).objs.size))) { s with heap := (s.heap.push o).push { cls := .type "enumerate", data := .fields #[.none, .bool false, .ref s.heap.objs.size, rawInt 0, .none, .none] } }) :=
  .of_wp fun prog w A R s h => by
    obtain ⟨hp, g, d, tk, os⟩ := s; obtain ⟨h1, h⟩ := h
    have hsub := sub_enumerate
    have q1 : ∀ {A' : Around} {E : Value → Shared → Prop} {Q : Value → Shared → Prop}, Q (.ref hp.objs.size) ⟨hp.push o, g, d, tk, os⟩ → wpAny (model prog w) A' (pyIter v) Q E ⟨hp, g, d, tk, os⟩ :=
      fun q => B.iter prog w _ _ ⟨hp, g, d, tk, os⟩ _ h1 q
    wp_walk using q1
    refine wpAny_stack_any fun st => wpAny_pure ?_
    split
    · rename_i c _ _ _ _ _
      cases (c == Value.type "enumerate")
      · wp_walk using q1
        exact ⟨_, rfl, h⟩
      · wp_walk using q1
        exact ⟨_, rfl, h⟩
    · wp_walk using q1
      exact ⟨_, rfl, h⟩
theorem call_enum_begins {prog : Program} {w : World} {A : Around} {E : Value → Shared → Prop} {s : Shared} {v : Value} {o : Obj} {H : Heap → Prop} {Q : Value → Shared → Prop} (B : Begins v o H) (h1 : H s.heap)
    (h : ∀ h', IsEnum h' (s.heap.objs.size + 1) s.heap.objs.size 0 .none → h'.get? s.heap.objs.size = some o → h'.objs.size = s.heap.objs.size + 2 →
      (∀ b o, s.heap.get? b = some o → h'.get? b = some o) → Q (.ref (s.heap.objs.size + 1)) { s with heap := h' }) :
    wpAny (model prog w) A (call (.type "enumerate") [v]) Q E s := by
  refine callType_new F.called_enumerate (by decide) (F.typeCall_enumerate_1 _) (F.newCall_enumerate_1 _) (fun obj => F.args_object_init_2 obj _) F.entry_enumerate_new
    (meets_enum1 B) ⟨h1, ?_⟩
  have hz : (s.heap.push o).objs.size = s.heap.objs.size + 1 := Heap.size_push ..
  show _ ∧ _
  rw [hz]
  have he : IsEnum ((s.heap.push o).push { cls := .type "enumerate", data := .fields #[.none, .bool false, .ref s.heap.objs.size, rawInt 0, .none, .none] }) (s.heap.objs.size + 1) s.heap.objs.size 0 .none := by
    have := Heap.get?_push_size (s.heap.push o) (o := { cls := .type "enumerate", data := .fields #[.none, .bool false, .ref s.heap.objs.size, rawInt 0, .none, .none] }) rfl
    rw [hz] at this; exact this
  refine ⟨⟨_, he, rfl⟩, h _ he (Heap.get?_push_of_some _ (Heap.get?_push_size _ B.free)) (by rw [Heap.size_push, hz]) fun b o x => Heap.get?_push_of_some _ (Heap.get?_push_of_some _ x)⟩
def IteT (K : PySem.W.Frag) (a : Addr) : It :=
  ⟨fun i H => ∃ (xs : List V) (x : V), SqT K H a xs ∧ xs[i]? = some x, fun i H v H' => ∃ T x, v = .ref T ∧ H T = none ∧ H' = upd H T (.tup [.int (i : Nat), x]) ∧ ∀ xs, SqT K H a xs → xs[i]? = some x, fun i H => ∃ xs : List V, SqT K H a xs ∧ xs.length = i⟩
theorem turn_enumT {P : Program} {w : World} {K : PySem.W.Frag} {elts : List Expr} {kk : Nat} {tpos : Pos} (a e it : Addr) (hai : a ≠ it) (hae : a ≠ e) :
    Turn P w K (.Tuple elts kk tpos) (IteT K a) [e, it] e (fun i h => (∃ old, IsEnum h e it ((i : Nat) : Int) old) ∧ h.IsTupleIter it a i ∧ e ≠ it) where
  mem := by simp
  obj := fun i h st b hb => by
    obtain ⟨⟨old, he⟩, ⟨o, ho, hc, hd⟩, _⟩ := st
    have e' : b = e ∨ b = it := by simpa using hb
    rcases e' with z | z
    · rw [z]; exact ⟨_, he, fun v q => nomatch q⟩
    · rw [z]; exact ⟨o, ho, fun v q => by rw [hd] at q; cases q⟩
  keep := fun i h h' st k => let ⟨⟨old, he⟩, hi, hne⟩ := st; ⟨⟨old, k e (by simp) _ he⟩, hi.at fun o q => k it (by simp) o q, hne⟩
  item := by
    intro X hP hw hK hc i pins s σ H E I hf st hg
    subst hP hw hK
    obtain ⟨⟨old, he⟩, hit, hne⟩ := st
    obtain ⟨xs, x, hq, hx⟩ := hg
    obtain ⟨its, rv, p, hz⟩ := I.tuple hq
    obtain ⟨u, hu, ru⟩ := rv.get hx
    have hel : e < s.heap.objs.size := Heap.lt_size he
    have hil : it < s.heap.objs.size := by obtain ⟨_, q, _⟩ := hit; exact Heap.lt_size q
    have hi : i < its.toArray.size := by
      have := (List.getElem?_eq_some_iff.mp hu).1
      simpa using this
    refine wpAny_pyNext_enum_itemC (Draws.tuple (A := X.A.in1) (I.ok.hd hc) it a hai its.toArray) he ⟨hit, p⟩ hi hne (by
      intro z
      rcases List.mem_cons.mp z with z | z
      · exact hne z
      · exact hae (List.mem_singleton.mp z).symm) fun x' h' tk hx' ho hst' hT hsz hk => ?_
    have ex : x' = u := by
      have h1 : its.toArray[i]? = some u := by simpa using hu
      rw [h1] at hx'
      exact (Option.some.inj hx').symm
    subst ex
    refine ⟨_, rfl, wpAny_letOwnedTupleGo_enum (s := { s with heap := h', toks := tk + 1 }) ho fun h'' he' sb => ?_⟩
    have hT2 : h''.get? s.heap.objs.size = some { cls := .type "tuple", data := .seq #[.int i tk, x'] } := (sb.2 _ (Nat.ne_of_gt hel)).trans hT
    have new : ObjOk X.prog X.w (upd H s.heap.objs.size (.tup [.int (i : Nat), x])) h'' s.heap.objs.size (.tup [.int (i : Nat), x]) :=
      ⟨by show 2 ≤ sizeLine; decide, [.int i tk, x'], .cons ⟨_, rfl⟩ (.cons ru .nil), ⟨_, hT2, rfl, _, rfl⟩⟩
    have I1 : Inv X pins σ (upd H s.heap.objs.size (.tup [.int (i : Nat), x])) { s with heap := h'', toks := tk + 1 } :=
      I.turnedNew (ch := [e, it]) (fun b ob hb q => (sb.2 b (fun z => hb (by simp [z]))).trans (hk b ob (fun z => hb (by simp [z])) (fun z => hb (by simp [z])) q)) hf (Nat.le_refl _) new
    refine ⟨.ref s.heap.objs.size, _, I1, rfl, ⟨_, x, rfl, I.hok.fresh (Nat.le_refl _), rfl, fun ys hy => by rw [I.tuple_inj hy hq]; exact hx⟩, ⟨⟨x', ?_⟩, hst'.1.at fun o q => (sb.2 it (Ne.symm hne)).trans q, hne⟩, fun b hb => ?_⟩
    · have e1 : ((i + 1 : Nat) : Int) = (i : Int) + 1 := by omega
      rw [e1]; exact he'
    · have hb' : b < s.heap.objs.size := by
        have e' : b = e ∨ b = it := by simpa using hb
        rcases e' with z | z
        · rw [z]; exact hel
        · rw [z]; exact hil
      rw [upd_ne (Nat.ne_of_lt hb')]
      exact (hf b hb).1
  done := by
    intro X hP hw hK hc i pins s σ H E I hf st hg
    subst hP hw hK
    obtain ⟨⟨old, he⟩, hit, hne⟩ := st
    obtain ⟨xs, hq, hx⟩ := hg
    obtain ⟨its, rv, p, hz⟩ := I.tuple hq
    obtain ⟨f0, f1, f2, f3, f4, f5⟩ := hf it (by simp)
    have hl := rv.length
    have ei : i = its.toArray.size := by
      rw [List.size_toArray, ← hl]
      exact hx.symm
    subst ei
    refine wpAny_pyNext_enum_endD (Draws.tuple (A := X.A.in1) (I.ok.hd hc) it a hai its.toArray) he ⟨hit, p⟩ fun h' eb => ⟨rfl, I.turned (t' := s.toks) (fun b o hb q => eb b o hb q) f0 f1 f3 f4 f5⟩
  self := fun A i s Q E st h => let ⟨⟨_, he⟩, _⟩ := st; wpAny_pyIter_enum he h
def iEnumT (K : PySem.W.Frag) (ta : TA) : TI := fun σ H R => ta σ H fun vs H1 => ∃ a xs, vs = [.ref a] ∧ H1 a = some (.tup xs) ∧ R (IteT K a) H1
theorem pi_enumT {X : Cx} {e : Expr} {ta : TA} {p pos tpos : Pos} {elts : List Expr} {kk : Nat} (hg : Gl X "enumerate") (hm : X.mg "enumerate" = none) (ha : PA X [e] ta) (hs : starEach [e] X.env = [(false, eval e X.env)] := by rfl) :
    PI X (.Tuple elts kk tpos) (.Call (.Name "enumerate" p) [e] [] pos) (iEnumT X.K ta) := by
  refine ⟨fun pins s σ H R I h => ?_⟩
  refine Call_ (ld_blt I hg hm boot_enumerate (PyProof.Rows.callWith_type1 (thn (ha.run pos pins s σ H _ I h) fun us s1 ⟨vs, H1, I1, r1, q1⟩ => ?_) hs rfl))
  obtain ⟨a, xs, ex, hq, q⟩ := q1
  subst ex
  cases r1 with
  | cons r rr =>
    cases rr
    cases r
    obtain ⟨its, rv, p', hz⟩ := I1.tuple (SqT.of hq)
    have hal : a < s1.heap.objs.size := p'.lt
    refine call_enum_begins (begins_tuple a its.toArray) p' fun h' he hit hsz hk => wpAny_pyIter_enum he ?_
    have I2 : Inv X pins σ H1 { s1 with heap := h' } := I1.kept (t' := s1.toks) hk
    refine ⟨s1.heap.objs.size + 1, [s1.heap.objs.size + 1, s1.heap.objs.size], _, _, H1, rfl, I2, turn_enumT a (s1.heap.objs.size + 1) s1.heap.objs.size (Nat.ne_of_lt hal) (Nat.ne_of_lt (Nat.lt_succ_of_lt hal)), ⟨⟨.none, he⟩, ⟨_, hit, rfl, rfl⟩, Nat.succ_ne_self _⟩, fun b hb => ?_, q⟩
    have e' : b = s1.heap.objs.size + 1 ∨ b = s1.heap.objs.size := by simpa using hb
    have hle : s1.heap.objs.size ≤ b := by
      rcases e' with z | z
      · rw [z]; exact Nat.le_add_right _ _
      · rw [z]; exact Nat.le_refl _
    exact I1.fpOk hle (I1.hok.fresh hle)
theorem PIor {X : Cx} {tg e : Expr} {w w' : TI} (h : PI X tg e w) (h' : PI X tg e w') : PI X tg e (fun σ H R => w σ H R ∨ w' σ H R) :=
  ⟨fun pins s σ H R I q => q.elim (h.run pins s σ H R I) (h'.run pins s σ H R I)⟩
theorem PIw {X : Cx} {tg e : Expr} {w w' : TI} (h : PI X tg e w) (k : ∀ σ H R, w' σ H R → w σ H R) : PI X tg e w' := ⟨fun pins s σ H R I q => h.run pins s σ H R I (k σ H R q)⟩
/-- J yields ds, whatever is made meanwhile -/
def JD (K : PySem.W.Frag) (C : Addr) (J : It) (F : Hp) (ds : List D) : Prop := ∀ i F1 H1, Same F F1 → Same F1 H1 → (i = ds.length → J.stop i H1) ∧
  ∀ d, ds[i]? = some d → J.go i H1 ∧ ∀ x H2, J.yld i H1 x H2 → ∃ F2, Stp F1 H1 F2 H2 ∧ Rp K C F2 d x
def tDI (K : PySem.W.Frag) (C : Addr) (O : List Nat) (f : DFs) : TI := fun σ H R => ∃ F ρ ds, En K C O F H σ ρ ∧ f ρ = some ds ∧ ∀ J F' H', Stp F H F' H' → JD K C J F' ds → R J H'
abbrev DI (X : Cx) (C : Addr) (O : List Nat) (tg e : Expr) (f : DFs) : Prop := PI X tg e (tDI X.K C O f)
def asSeq : D → Option (List D)
  | .tup xs => some xs
  | .lst xs => some xs
  | _ => none
def iSeq (f : DF) : DFs := fun ρ => (f ρ).bind asSeq
def rngD (a : Int) (n : Nat) : List D := (List.range n).map fun (i : Nat) => D.int (a + (i : Int))
def opRng1 : List D → Option (List D)
  | [.int n] => if -4611686018427387904 ≤ n ∧ n < 4611686018427387904 then some (rngD 0 n.toNat) else none
  | _ => none
def opRng2 : List D → Option (List D)
  | [.int a, .int b] => if -4611686018427387904 ≤ a ∧ a < 4611686018427387904 ∧ -4611686018427387904 ≤ b ∧ b < 4611686018427387904 then some (rngD a (b - a).toNat) else none
  | _ => none
def iRng1 (f : DFs) : DFs := fun ρ => (f ρ).bind opRng1
def iRng2 (f : DFs) : DFs := fun ρ => (f ρ).bind opRng2
def enumD (xs : List D) : List D := (List.range xs.length).zipWith (fun i d => D.tup [.int (i : Nat), d]) xs
def iEn (f : DFs) : DFs := fun ρ => (f ρ).bind fun ds => match ds with
  | [.tup xs] => some (enumD xs)
  | [.lst xs] => some (enumD xs)
  | _ => none
section
variable {K : PySem.W.Frag} {C : Addr} {F H : Hp} {a b : Addr} {xs ys : List V} {ds es : List D}
theorem SqL.uniq (h : H a = some (.lst xs)) (h' : SqL K H a ys) (hk : K.lookup a = none) : ys = xs := by
  rcases h' with (h' | ⟨o, h'⟩) | ⟨o, _, _, h', _⟩
  · rw [h] at h'
    cases h'
    rfl
  · rw [h] at h'
    cases h'
  · rw [hk] at h'
    cases h'
theorem jd_list (h : F a = some (.lst xs)) (hl : RpL K C F ds xs) : JD K C (Itl K a) F ds := fun i F1 H1 s1 s2 => by
  have ha : SqL K H1 a xs := SqL.of (s2 _ _ (s1 _ _ h))
  refine ⟨fun hi => ⟨xs, ha, by rw [hi, hl.len]; exact Nat.le_refl _⟩, fun d hd => ?_⟩
  obtain ⟨v, hv, r⟩ := RpL.get hl hd
  refine ⟨⟨xs, v, ha, hv⟩, fun x H2 y => ?_⟩
  obtain ⟨rfl, y⟩ := y
  have e := y xs ha
  rw [hv] at e
  cases e
  exact ⟨F1, Stp.refl s2, Rp.mono s1 d _ r⟩
theorem jd_tup (h : F a = some (.tup xs)) (hl : RpL K C F ds xs) : JD K C (Itt K a) F ds := fun i F1 H1 s1 s2 => by
  have ha : SqT K H1 a xs := SqT.of (s2 _ _ (s1 _ _ h))
  refine ⟨fun hi => ⟨xs, ha, by rw [hi, hl.len]; exact Nat.le_refl _⟩, fun d hd => ?_⟩
  obtain ⟨v, hv, r⟩ := RpL.get hl hd
  refine ⟨⟨xs, v, ha, hv⟩, fun x H2 y => ?_⟩
  obtain ⟨rfl, y⟩ := y
  have e := y xs ha
  rw [hv] at e
  cases e
  exact ⟨F1, Stp.refl s2, Rp.mono s1 d _ r⟩
theorem rngD_len (a : Int) (n : Nat) : (rngD a n).length = n := by
  unfold rngD
  rw [List.length_map, List.length_range]
theorem rngD_get {a : Int} {n i : Nat} {d : D} (h : (rngD a n)[i]? = some d) : i < n ∧ d = .int (a + (i : Int)) := by
  unfold rngD at h
  rw [List.getElem?_map] at h
  obtain ⟨j, h1, h2⟩ := Option.map_eq_some_iff.mp h
  obtain ⟨h3, h4⟩ := List.getElem?_eq_some_iff.mp h1
  rw [List.getElem_range] at h4
  rw [List.length_range] at h3
  subst h4
  exact ⟨h3, h2.symm⟩
theorem jd_rng {lo : Int} {n : Nat} : JD K C (Itr lo n) F (rngD lo n) := fun i F1 H1 s1 s2 => by
  refine ⟨fun hi => by
    rw [hi, rngD_len]
    exact Nat.le_refl _, fun d hd => ?_⟩
  obtain ⟨h1, rfl⟩ := rngD_get hd
  refine ⟨h1, fun x H2 y => ?_⟩
  obtain ⟨rfl, rfl⟩ := y
  exact ⟨F1, Stp.refl s2, rfl⟩
theorem enumD_len (xs : List D) : (enumD xs).length = xs.length := by
  unfold enumD
  rw [List.length_zipWith, List.length_range, Nat.min_self]
theorem enumD_get {xs : List D} {i : Nat} {d : D} (h : (enumD xs)[i]? = some d) : ∃ c, xs[i]? = some c ∧ d = .tup [.int (i : Nat), c] := by
  unfold enumD at h
  rw [List.getElem?_zipWith] at h
  cases e1 : (List.range xs.length)[i]? with
  | none =>
    rw [e1] at h
    cases h
  | some j =>
    cases e2 : xs[i]? with
    | none =>
      rw [e1, e2] at h
      cases h
    | some c =>
      rw [e1, e2] at h
      obtain ⟨h3, h4⟩ := List.getElem?_eq_some_iff.mp e1
      rw [List.getElem_range] at h4
      subst h4
      exact ⟨c, rfl, (Option.some.inj h).symm⟩
theorem pair_new {F1 H1 : Hp} (s2 : Same F1 H1) {T : Addr} {x y : V} {c d : D} (hT : H1 T = none) (r1 : Rp K C F1 c x) (r2 : Rp K C F1 d y) :
    ∃ F2, Stp F1 H1 F2 (upd H1 T (.tup [x, y])) ∧ Rp K C F2 (.tup [c, d]) (.ref T) := by
  have st := Stp.new (o := .tup [x, y]) s2 hT
  exact ⟨_, st, T, [x, y], rfl, upd_same, RpL.cons (Rp.mono st.ff c x r1) (RpL.cons (Rp.mono st.ff d y r2) RpL.nil)⟩
theorem jd_enumL (h : F a = some (.lst xs)) (hl : RpL K C F ds xs) : JD K C (Ite K a) F (enumD ds) := fun i F1 H1 s1 s2 => by
  have ha : SqL K H1 a xs := SqL.of (s2 _ _ (s1 _ _ h))
  refine ⟨fun hi => ⟨xs, ha, by rw [hi, enumD_len, hl.len]; exact Nat.le_refl _⟩, fun d hd => ?_⟩
  obtain ⟨c, hc, rfl⟩ := enumD_get hd
  obtain ⟨v, hv, r⟩ := RpL.get hl hc
  refine ⟨⟨xs, v, ha, hv⟩, fun x H2 y => ?_⟩
  obtain ⟨T, x', rfl, hT, rfl, y⟩ := y
  have e := y xs ha
  rw [hv] at e
  cases e
  exact pair_new s2 hT rfl (Rp.mono s1 c _ r)
theorem jd_enumT (h : F a = some (.tup xs)) (hl : RpL K C F ds xs) : JD K C (IteT K a) F (enumD ds) := fun i F1 H1 s1 s2 => by
  have ha : SqT K H1 a xs := SqT.of (s2 _ _ (s1 _ _ h))
  refine ⟨fun hi => ⟨xs, ha, by rw [hi, enumD_len, hl.len]⟩, fun d hd => ?_⟩
  obtain ⟨c, hc, rfl⟩ := enumD_get hd
  obtain ⟨v, hv, r⟩ := RpL.get hl hc
  refine ⟨⟨xs, v, ha, hv⟩, fun x H2 y => ?_⟩
  obtain ⟨T, x', rfl, hT, rfl, y⟩ := y
  have e := y xs ha
  rw [hv] at e
  cases e
  exact pair_new s2 hT rfl (Rp.mono s1 c _ r)
end
section
variable {X : Cx} {C : Addr} {O : List Nat} {tg e e2 : Expr} {es : List Expr} {f : DF} {fs : DFs} {p pos tpos : Pos}
theorem di_seq (he : DE X C O e f) : DI X C O tg e (iSeq f) := PIw (PIor (pi_list he) (pi_tup he)) fun σ H R ⟨F, ρ, ds, E, hf, k⟩ => by
  obtain ⟨d, h1, hf1⟩ := bind_some hf
  cases d <;> first | (cases hf1; done) | skip
  · cases hf1
    refine .inr ⟨F, ρ, _, E, h1, fun v F1 H1 s1 r1 => ?_⟩
    obtain ⟨a, xs, rfl, ha, hl⟩ := r1
    exact ⟨a, rfl, ⟨xs, SqT.of (s1.fh _ _ ha)⟩, k _ F1 H1 s1 (jd_tup ha hl)⟩
  · cases hf1
    refine .inl ⟨F, ρ, _, E, h1, fun v F1 H1 s1 r1 => ?_⟩
    obtain ⟨a, xs, rfl, ha, hl⟩ := r1
    exact ⟨a, rfl, ⟨xs, SqL.of (s1.fh _ _ ha)⟩, k _ F1 H1 s1 (jd_list ha hl)⟩
theorem e62 : (2 : Int) ^ 62 = 4611686018427387904 := by decide
theorem di_rng1 (hg : Gl X "range") (hm : X.mg "range" = none) (ha : DA X C O [e] fs) (hs : starEach [e] X.env = [(false, eval e X.env)] := by rfl) : DI X C O tg (.Call (.Name "range" p) [e] [] pos) (iRng1 fs) :=
  PIw (pi_range1 hg hm ha hs) fun σ H R ⟨F, ρ, ds, E, hf, k⟩ => by
    obtain ⟨d, h1, hf1⟩ := bind_some hf
    refine ⟨F, ρ, d, E, h1, fun vs F1 H1 s1 r1 => ?_⟩
    match d, hf1, r1 with
    | [.int n], hf1, r1 =>
      simp only [opRng1] at hf1
      split at hf1
      · rename_i hz
        cases hf1
        obtain ⟨v, rfl, h⟩ := RpL.one_inv r1
        rw [Rp.int h]
        exact ⟨n, rfl, by rw [e62]; omega, by rw [e62]; omega, k _ F1 H1 s1 jd_rng⟩
      · cases hf1
variable {elts : List Expr} {kk : Nat}
theorem di_enum (hg : Gl X "enumerate") (hm : X.mg "enumerate" = none) (ha : DA X C O [e] fs) (hs : starEach [e] X.env = [(false, eval e X.env)] := by rfl) : DI X C O (.Tuple elts kk tpos) (.Call (.Name "enumerate" p) [e] [] pos) (iEn fs) :=
  PIw (PIor (pi_enum hg hm ha hs) (pi_enumT hg hm ha hs)) fun σ H R ⟨F, ρ, ds, E, hf, k⟩ => by
    obtain ⟨d, h1, hf1⟩ := bind_some hf
    match d, hf1, h1 with
    | [.tup xs], hf1, h1 =>
      cases hf1
      refine .inr ⟨F, ρ, _, E, h1, fun vs F1 H1 s1 r1 => ?_⟩
      obtain ⟨v, rfl, a, us, rfl, ha, hl⟩ := RpL.one_inv r1
      exact ⟨a, us, rfl, s1.fh _ _ ha, k _ F1 H1 s1 (jd_enumT ha hl)⟩
    | [.lst xs], hf1, h1 =>
      cases hf1
      refine .inl ⟨F, ρ, _, E, h1, fun vs F1 H1 s1 r1 => ?_⟩
      obtain ⟨v, rfl, a, us, rfl, ha, hl⟩ := RpL.one_inv r1
      exact ⟨a, us, rfl, SqL.of (s1.fh _ _ ha), k _ F1 H1 s1 (jd_enumL ha hl)⟩
end
end DL
namespace DL
open PySem PySem.Spec PyProof.Rows L2
/-- a target: what the slots hold behind it -/
abbrev DG := D → Rho → Option Rho
def gN (i : Nat) : DG := fun d ρ => some (st ρ i d)
abbrev DGs := List D → Rho → Option Rho
def gsNil : DGs := fun ds ρ => match ds with
  | [] => some ρ
  | _ => none
def gsCons (g : DG) (h : DGs) : DGs := fun ds ρ => match ds with
  | d :: r => (g d ρ).bind (h r)
  | [] => none
def gT (h : DGs) : DG := fun d ρ => (asSeq d).bind fun ds => match d with
  | .tup _ => h ds ρ
  | _ => none
/-- but at the places ws the slots are as they were -/
def Bar (ws : List Nat) (σ σ' : L2.St) : Prop := σ'.length = σ.length ∧ ∀ j, j ∉ ws → σ'[j]? = σ[j]?
/-- the lists of one's own are as they were -/
def Kp (O : List Nat) (σ σ' : L2.St) (ρ ρ' : Rho) : Prop := ∀ i ∈ O, σ'[i]? = σ[i]? ∧ lk ρ' i = lk ρ i
theorem Kp.refl {O : List Nat} {σ : L2.St} {ρ : Rho} : Kp O σ σ ρ ρ := fun _ _ => ⟨rfl, rfl⟩
theorem Kp.trans {O : List Nat} {σ σ1 σ2 : L2.St} {ρ ρ1 ρ2 : Rho} (a : Kp O σ σ1 ρ ρ1) (b : Kp O σ1 σ2 ρ1 ρ2) : Kp O σ σ2 ρ ρ2 := fun i hi => ⟨(b i hi).1.trans (a i hi).1, (b i hi).2.trans (a i hi).2⟩
def tDG (K : PySem.W.Frag) (C : Addr) (O ws : List Nat) (g : DG) : TG := fun v σ H Q => ∃ F ρ d ρ', En K C O F H σ ρ ∧ Rp K C F d v ∧ g d ρ = some ρ' ∧ ∀ σ' , En K C O F H σ' ρ' → Bar ws σ σ' → Kp O σ σ' ρ ρ' → Q σ' H
def tDGs (K : PySem.W.Frag) (C : Addr) (O ws : List Nat) (g : DGs) : TGs := fun vs σ H Q => ∃ F ρ ds ρ', En K C O F H σ ρ ∧ RpL K C F ds vs ∧ g ds ρ = some ρ' ∧ ∀ σ', En K C O F H σ' ρ' → Bar ws σ σ' → Kp O σ σ' ρ ρ' → Q σ' H
abbrev DTg (X : Cx) (C : Addr) (O ws : List Nat) (e : Expr) (g : DG) : Prop := PG X e (tDG X.K C O ws g)
abbrev DTgs (X : Cx) (C : Addr) (O ws : List Nat) (es : List Expr) (g : DGs) : Prop := PGs X es (tDGs X.K C O ws g)
theorem Bar.trans {ws vs : List Nat} {a b c : L2.St} (h : Bar ws a b) (h' : Bar vs b c) : Bar (ws ++ vs) a c :=
  ⟨h'.1.trans h.1, fun j hj => (h'.2 j fun z => hj (List.mem_append_right _ z)).trans (h.2 j fun z => hj (List.mem_append_left _ z))⟩
theorem Bar.refl {ws : List Nat} {a : L2.St} : Bar ws a a := ⟨rfl, fun _ _ => rfl⟩
theorem wipe_get (σ : L2.St) : ∀ (vs : List Nat) (j : Nat), (wipe σ vs)[j]? = if j ∈ vs ∧ j < σ.length then some none else σ[j]?
  | [], j => by
    rw [if_neg (fun z => by cases z.1)]
    rfl
  | v :: vs, j => by
    show ((wipe σ vs).set v none)[j]? = _
    by_cases hv : v = j
    · subst hv
      by_cases hl : v < σ.length
      · rw [if_pos ⟨List.mem_cons_self, hl⟩, List.getElem?_set_self (by rw [wipe_length]; exact hl)]
      · rw [if_neg (fun z => hl z.2), List.getElem?_eq_none (by rw [List.length_set, wipe_length]; omega), List.getElem?_eq_none (by omega)]
    · rw [List.getElem?_set_ne hv, wipe_get σ vs j]
      have e : (j ∈ v :: vs ∧ j < σ.length) ↔ (j ∈ vs ∧ j < σ.length) := by
        constructor
        · rintro ⟨h1, h2⟩
          exact ⟨(List.mem_cons.mp h1).elim (fun z => absurd z.symm hv) id, h2⟩
        · rintro ⟨h1, h2⟩
          exact ⟨List.mem_cons_of_mem _ h1, h2⟩
      by_cases h : j ∈ vs ∧ j < σ.length
      · rw [if_pos h, if_pos (e.mpr h)]
      · rw [if_neg h, if_neg (fun z => h (e.mp z))]
theorem wipe_bar {ws vs : List Nat} {σ σ' : L2.St} (h : Bar ws (wipe σ vs) σ') (hs : ∀ i ∈ ws, i ∈ vs) : wipe σ' vs = wipe σ vs := by
  apply List.ext_getElem?
  intro j
  have hl : σ'.length = σ.length := by rw [h.1, wipe_length]
  rw [wipe_get, wipe_get, hl]
  split
  · rfl
  · rename_i hn
    by_cases hj : j ∈ vs
    · have hjl : ¬ j < σ.length := fun z => hn ⟨hj, z⟩
      rw [List.getElem?_eq_none (by omega), List.getElem?_eq_none (by omega)]
    · rw [h.2 j fun z => hj (hs j z), wipe_get, if_neg (fun z => hj z.1)]
section
variable {X : Cx} {C : Addr} {O : List Nat} {e : Expr} {es : List Expr} {g : DG} {h : DGs} {ws vs' : List Nat} {pos : Pos}
theorem PGw {e : Expr} {t t' : TG} (h : PG X e t) (w : ∀ v σ H Q, t' v σ H Q → t v σ H Q) : PG X e t' := ⟨fun pins s σ H v u Q I r q => h.run pins s σ H v u Q I r (w v σ H Q q)⟩
theorem PGsw {e : List Expr} {t t' : TGs} (h : PGs X e t) (w : ∀ v σ H Q, t' v σ H Q → t v σ H Q) : PGs X e t' := ⟨fun pins s σ H v u Q I r q => h.run pins s σ H v u Q I r (w v σ H Q q)⟩
theorem dg_name (i : Nat) {x : Str} (hN : X.N.Nodup) (hi : X.N[i]? = some x := by rfl) (hx : Loc X.env.scope x := by first | exact Or.inl rfl | exact Or.inr rfl) (hO : i ∉ O := by decide)
    (hf : X.fn x = true ∨ X.env.scope.names.lookup x = some .local := by first | exact .inl rfl | exact .inr rfl) : DTg X C O [i] (.Name x pos) (gN i) := PGw (pg_name hN hi hx hf) fun v σ H Q ⟨F, ρ, d, ρ', E, r, hg, k⟩ => by
  cases hg
  exact k _ (E.set hO r) ⟨by rw [List.length_set], fun j hj => List.getElem?_set_ne fun z => hj (by rw [z]; exact List.mem_cons_self)⟩ fun j hj => ⟨List.getElem?_set_ne fun (z : i = j) => hO (by rw [z]; exact hj), lk_st_ne fun (z : j = i) => hO (by rw [← z]; exact hj)⟩
theorem dg_nil : DTgs X C O [] [] gsNil := PGsw pgs_nil fun vs σ H Q ⟨F, ρ, ds, ρ', E, r, hg, k⟩ => by
  cases ds with
  | nil =>
    cases hg
    exact ⟨r, k σ E Bar.refl Kp.refl⟩
  | cons _ _ => cases hg
theorem dg_cons (h1 : DTg X C O ws e g) (h2 : DTgs X C O vs' es h) (hs : (assignEach (e :: es) X.env).map (·.2) = assign e X.env :: (assignEach es X.env).map (·.2) := by rfl) : DTgs X C O (ws ++ vs') (e :: es) (gsCons g h) := PGsw (pgs_cons h1 h2 hs) fun vs σ H Q ⟨F, ρ, ds, ρ', E, r, hg, k⟩ => by
  cases ds with
  | nil => cases hg
  | cons d ds =>
    obtain ⟨ρ1, g1, g2⟩ := bind_some hg
    obtain ⟨v, vr, rfl, r1, r2⟩ := r
    exact ⟨v, vr, rfl, F, ρ, d, ρ1, E, r1, g1, fun σ1 E1 b1 k1 => ⟨F, ρ1, ds, ρ', E1, r2, g2, fun σ2 E2 b2 k2 => k σ2 E2 (b1.trans b2) (k1.trans k2)⟩⟩
theorem dg_tup {n k : Nat} (hc : X.calm = true) (h1 : DTgs X C O ws es h) (hl : ∀ ds ρ ρ', h ds ρ = some ρ' → ds.length = n) (hn : (assignEach es X.env).length = n := by rfl) (hst : (assignEach es X.env).findIdx? (·.1) = none := by rfl) :
    DTg X C O ws (.Tuple es k pos) (gT h) := PGw (pg_tup hc h1 hn hst) fun v σ H Q ⟨F, ρ, d, ρ', E, r, hg, kk⟩ => by
  obtain ⟨ds, g1, g2⟩ := bind_some hg
  cases d with
  | tup es' =>
    cases g1
    obtain ⟨a, xs, rfl, ha, hr⟩ := r
    exact ⟨a, xs, rfl, SqT.of (E.fh _ _ ha), by rw [← hr.len]; exact hl _ _ _ g2, F, ρ, _, ρ', E, hr, g2, kk⟩
  | _ => cases g2
theorem gl0 : ∀ ds ρ ρ', gsNil ds ρ = some ρ' → ds.length = 0 := fun ds ρ ρ' h => by
  cases ds with
  | nil => rfl
  | cons _ _ => cases h
theorem gl1 {n : Nat} {g : DG} {h : DGs} (hh : ∀ ds ρ ρ', h ds ρ = some ρ' → ds.length = n) : ∀ ds ρ ρ', gsCons g h ds ρ = some ρ' → ds.length = n + 1 := fun ds ρ ρ' q => by
  cases ds with
  | nil => cases q
  | cons d r =>
    obtain ⟨ρ1, _, g2⟩ := bind_some q
    rw [List.length_cons, hh _ _ _ g2]
end
def compL (g : DG) (t : DB) (e : DF) (ρ : Rho) : List D → Option (List D)
  | [] => some []
  | d :: ds => (g d ρ).bind fun ρ1 => (t ρ1).bind fun b => if b = true then (e ρ1).bind fun x => (compL g t e ρ ds).bind fun r => some (x :: r) else compL g t e ρ ds
def lstOk (ds : List D) : Option D := if ds.length ≤ 16777216 then some (.lst ds) else none
def dComp (it : DFs) (g : DG) (t : DB) (e : DF) (vs : List Nat) : DF := fun ρ => (it ρ).bind fun ds => (compL g t e (wipeR ρ vs) ds).bind lstOk
def bYes : DB := fun _ => some true
abbrev DTs (X : Cx) (C : Addr) (O : List Nat) (ifs : List Expr) (t : DB) : Prop := PTs X ifs (tDT X.K C O t)
section
variable {X : Cx} {C : Addr} {O : List Nat}
theorem PTsw {ifs : List Expr} {t t' : TT} (h : PTs X ifs t) (w : ∀ σ H Q, t' σ H Q → t σ H Q) : PTs X ifs t' := ⟨fun pins s σ H Q I q => h.run pins s σ H Q I (w σ H Q q)⟩
theorem dts_nil : DTs X C O [] bYes := PTsw pts_nil fun σ H Q ⟨F, ρ, b, E, hf, k⟩ => by
  cases hf
  exact k F H (Stp.refl E.fh)
theorem dts_one {c : Expr} {t : DB} (h : DT X C O c t) : DTs X C O [c] t := pts_one h
/-- the comprehension's loop: acc, what is made so far; rest: what is to come -/
def CW (K : PySem.W.Frag) (C : Addr) (F0 H0 : Hp) (g : DG) (t : DB) (e : DF) (ρ : Rho) (ds rs : List D) (Dl : Addr) (i m : Nat) (H : Hp) : Prop :=
  m = ds.length - i ∧ i ≤ ds.length ∧ ∃ F acc racc rest, Stp F0 H0 F H ∧ H Dl = some (.lst acc) ∧ F Dl = none ∧ RpL K C F racc acc ∧ compL g t e ρ (ds.drop i) = some rest ∧ rs = racc ++ rest
theorem comp_rd {K : PySem.W.Frag} {it : DFs} {g : DG} {t : DB} {e : DF} {ws vs : List Nat} {σ : L2.St} {H : Hp} {Q : VK} (hs : ∀ i ∈ ws, i ∈ vs) (hw : tD K C O (dComp it g t e vs) σ H Q) :
    tLc (tDI K C O it) (tDG K C O ws g) (tDT K C O t) (tD K C O e) vs σ H Q := by
  obtain ⟨F, ρ, d, E, hf, k⟩ := hw
  obtain ⟨ds, h1, hf1⟩ := bind_some hf
  obtain ⟨rs, h2, hf2⟩ := bind_some hf1
  clear hf hf1
  unfold lstOk at hf2
  split at hf2
  · rename_i hz
    cases hf2
    refine ⟨F, ρ, ds, E, h1, fun J F1 H1 s1 jd Dl hD => ?_⟩
    have E1 : En K C O F1 H1 (wipe σ vs) (wipeR ρ vs) := (E.step s1).wipe vs
    refine ⟨CW K C F1 H1 g t e (wipeR ρ vs) ds rs Dl, ⟨ds.length, rfl, Nat.zero_le _, F1, [], [], rs, Stp.own s1.fh hD, upd_same, none_of_same s1.fh hD, RpL.nil, h2, rfl⟩, fun i m H2 hW => ?_⟩
    obtain ⟨rfl, hi, F2, acc, racc, rest, s2, hH, hF, hR, hc, he⟩ := hW
    by_cases hlt : i < ds.length
    · right
      obtain ⟨_, jg⟩ := jd i F2 H2 s2.ff s2.fh
      obtain ⟨go, yl⟩ := jg ds[i] (List.getElem?_eq_getElem hlt)
      rw [List.drop_eq_getElem_cons hlt] at hc
      unfold compL at hc
      obtain ⟨ρ1, c1, hc1⟩ := bind_some hc
      obtain ⟨b, c2, hc2⟩ := bind_some hc1
      clear hc hc1
      refine ⟨go, fun H' => CW K C F1 H1 g t e (wipeR ρ vs) ds rs Dl (i + 1) (ds.length - (i + 1)) H', fun H' hN => ⟨_, by omega, hN⟩, fun x H3 y => ?_⟩
      obtain ⟨F3, s3, r3⟩ := yl x H3 y
      have s13 := s2.trans s3
      refine ⟨F3, wipeR ρ vs, ds[i], ρ1, E1.step s13, r3, c1, fun σ4 E4 bar _ => ⟨wipe_bar bar hs, F3, ρ1, b, E4, c2, fun F5 H5 s5 => ?_⟩⟩
      have s15 := s13.trans s5
      have sD := s3.trans s5
      cases b with
      | true =>
        dsimp only
        rw [if_pos rfl] at hc2 ⊢
        obtain ⟨z, c3, hc3⟩ := bind_some hc2
        obtain ⟨rest', c4, hc4⟩ := bind_some hc3
        cases hc4
        refine ⟨F5, ρ1, z, E4.step s5, c3, fun v F6 H6 s6 r6 => ?_⟩
        have s16 := s15.trans s6
        have sE := sD.trans s6
        have hlen := hR.len
        have hl2 : acc.length < 16777216 := by
          rw [he, List.length_append, List.length_cons] at hz
          omega
        refine ⟨acc, sE.hh _ _ hH, Nat.lt_of_lt_of_le hl2 (szl_ok (Nat.le_refl _)), rfl, hlt, F6, acc ++ [v], racc ++ [z], rest', ?_, upd_same, (sE.old _ _ hH).trans hF, RpL.append (RpL.mono sE.ff _ _ hR) (RpL.one r6), c4, by rw [he, List.append_assoc]; rfl⟩
        have hFn : F6 Dl = none := (sE.old _ _ hH).trans hF
        refine ⟨s16.ff, fun a o q => ?_, fun a o q => ?_, s16.old⟩
        · rw [upd_ne (ne_of_none q hD)]
          exact s16.hh a o q
        · rw [upd_ne (ne_of_none q hFn)]
          exact s16.fh a o q
      | false =>
        dsimp only
        rw [if_neg Bool.false_ne_true] at hc2 ⊢
        exact ⟨rfl, hlt, F5, acc, racc, rest, s15, sD.hh _ _ hH, (sD.old _ _ hH).trans hF, RpL.mono sD.ff _ _ hR, hc2, he⟩
    · left
      have ei : i = ds.length := by omega
      subst ei
      obtain ⟨js, _⟩ := jd ds.length F2 H2 s2.ff s2.fh
      refine ⟨js rfl, ?_⟩
      rw [List.drop_length] at hc
      cases hc
      rw [List.append_nil] at he
      subst he
      have sF : Same F2 (upd F2 Dl (.lst acc)) := same_upd hF
      refine k _ (upd F2 Dl (.lst acc)) H2 (s1.trans ⟨s2.ff.trans sF, s2.hh, fun a o q => ?_, fun a o q => ?_⟩) ⟨Dl, acc, rfl, upd_same, RpL.mono sF _ _ hR⟩
      · by_cases ha : a = Dl
        · subst ha
          rw [upd_same] at q
          rw [← q]
          exact hH
        · rw [upd_ne ha] at q
          exact s2.fh a o q
      · rw [upd_ne (ne_of_none q hD)]
        exact s2.old a o q
  · cases hf2
variable {elt tg iter : Expr} {ifs : List Expr} {scope : Scope} {pos : Pos} {it : DFs} {g : DG} {t : DB} {e : DF} {ws : List Nat}
theorem de_comp {own : List (Str × Nat)} (hc : X.calm = true) (hN : X.N.Nodup) (hi : DI X C O tg iter it) (ok : BlkOk X.N X.env.scope scope own)
    (hg : ∀ (s : Shared) (H : Hp) (D : Addr) (cl : List (Str × Addr)) (fp : List Addr), DTg (X.blk s H scope (compEnvC scope cl D X.env) fp) C O ws tg g) (ht : ∀ (s : Shared) (H : Hp) (D : Addr) (cl : List (Str × Addr)) (fp : List Addr), DTs (X.blk s H scope (compEnvC scope cl D X.env) fp) C O ifs t)
    (he : ∀ (s : Shared) (H : Hp) (D : Addr) (cl : List (Str × Addr)) (fp : List Addr), DE (X.blk s H scope (compEnvC scope cl D X.env) fp) C O elt e) (hv : ∀ i ∈ ws, i ∈ own.map (·.2) := by decide) (hs : ∀ x, foldedSetIterable iter X.env x = pure x := by intro _; rfl) :
    DE X C O (.ListComp elt [⟨tg, iter, ifs, 0⟩] scope pos) (dComp it g t e (own.map (·.2))) := PEw (pe_lc hc hN hi ok hg ht he hs) fun _ _ _ hw => comp_rd hv hw
end
end DL
namespace DL
open PySem PySem.Spec PyProof.Rows L2
inductive R where
  | nx (ρ : Rho) | rt (d : D)
abbrev DS := Rho → Option R
/-- the slots at a statement; F0, H0: as the def was entered -/
structure Sn (K : PySem.W.Frag) (C : Addr) (O : List Nat) (F0 H0 F H : Hp) (σ : L2.St) (ρ : Rho) : Prop where
  en : En K C O F H σ ρ
  sp : Stp F0 H0 F H
  nw : ∀ i d p, i ∈ O → lk ρ i = some d → σ[i]? = some (some (.ref p)) → H0 p = none
def endR (K : PySem.W.Frag) (C : Addr) (O' : List Nat) (F0 H0 F : Hp) (Z : Ends) : R → Prop
  | .nx ρ' => ∀ σ' F' H', Sn K C O' F0 H0 F' H' σ' ρ' → Same F F' → Z.nx σ' H'
  | .rt d => ∀ v F' H', Stp F0 H0 F' H' → Rp K C F' d v → Z.rt v H'
def tDS (K : PySem.W.Frag) (C : Addr) (O O' : List Nat) (f : DS) : TS := fun Z σ H => ∃ F0 H0 F ρ r, Sn K C O F0 H0 F H σ ρ ∧ f ρ = some r ∧ endR K C O' F0 H0 F Z r
abbrev DSt (X : Cx) (C : Addr) (O O' : List Nat) (s : Stmt) (f : DS) : Prop := PS X s (tDS X.K C O O' f)
abbrev DSs (X : Cx) (C : Addr) (O O' : List Nat) (s : List Stmt) (f : DS) : Prop := PSs X s (tDS X.K C O O' f)
section
variable {K : PySem.W.Frag} {C : Addr} {O O' : List Nat} {F0 H0 F H F' H' : Hp} {σ : L2.St} {ρ : Rho} {Z : Ends}
theorem endR.mono {r : R} (h : endR K C O' F0 H0 F Z r) (s : Same F F') : endR K C O' F0 H0 F' Z r := by
  cases r with
  | nx ρ' => exact fun σ' F2 H2 S sm => h σ' F2 H2 S (s.trans sm)
  | rt d => exact h
theorem Sn.step (h : Sn K C O F0 H0 F H σ ρ) (s : Stp F H F' H') : Sn K C O F0 H0 F' H' σ ρ := ⟨h.en.step s, h.sp.trans s, h.nw⟩
theorem Sn.set {i : Nat} {d : D} {v : V} (h : Sn K C O F0 H0 F H σ ρ) (hi : i ∉ O) (hv : Rp K C F d v) : Sn K C O F0 H0 F H (σ.set i (some v)) (st ρ i d) := by
  refine ⟨h.en.set hi hv, h.sp, fun j e p hj q1 q2 => ?_⟩
  have hji : j ≠ i := fun z => hi (z ▸ hj)
  rw [lk_st_ne hji] at q1
  rw [List.getElem?_set_ne (Ne.symm hji)] at q2
  exact h.nw j e p hj q1 q2
/-- the slots are another, the lists of one's own the same -/
theorem Sn.keep {σ' : L2.St} {ρ' : Rho} (h : Sn K C O F0 H0 F H σ ρ) (E : En K C O F H σ' ρ') (kp : Kp O σ σ' ρ ρ') : Sn K C O F0 H0 F H σ' ρ' := by
  refine ⟨E, h.sp, fun j e p hj q1 q2 => ?_⟩
  rw [(kp j hj).2] at q1
  rw [(kp j hj).1] at q2
  exact h.nw j e p hj q1 q2
/-- a list that nobody knows becomes one's own -/
theorem Sn.adopt {i : Nat} {p : Addr} {ds : List D} {vs : List V} (h : Sn K C O F0 H0 F H σ ρ) (hi : i ∉ O) (hH : H p = some (.lst vs)) (hF : F p = none) (h0 : H0 p = none)
    (hn : ∀ j d, j ∈ O → lk ρ j = some d → σ[j]? ≠ some (some (.ref p))) (hl : RpL K C F ds vs) : Sn K C (i :: O) F0 H0 F H (σ.set i (some (.ref p))) (st ρ i (.lst ds)) := by
  have hE := h.en
  have nlt : ∀ {d : D}, lk (st ρ i (.lst ds)) i = some d → i < σ.length := fun {d} q => by
    have := lk_lt q
    rw [st_len, ← hE.len] at this
    exact this
  refine ⟨⟨hE.fh, by rw [List.length_set, st_len]; exact hE.len, fun j e hj q => ?_, fun j e hj q => ?_, fun j k e e' p' hj hk q1 q2 q3 q4 => ?_⟩, h.sp, fun j e p' hj q1 q2 => ?_⟩
  · have hji : j ≠ i := fun z => hj (by rw [z]; exact List.mem_cons_self)
    rw [lk_st_ne hji] at q
    rw [List.getElem?_set_ne (Ne.symm hji)]
    exact hE.pl j e (fun z => hj (List.mem_cons_of_mem _ z)) q
  · by_cases hji : j = i
    · subst hji
      have e1 := lk_st_same q
      subst e1
      exact ⟨p, vs, ds, List.getElem?_set_self (nlt q), rfl, hH, hF, hl⟩
    · rw [lk_st_ne hji] at q
      rw [List.getElem?_set_ne (Ne.symm hji)]
      exact hE.ow j e ((List.mem_cons.mp hj).elim (fun z => absurd z hji) id) q
  · by_cases hji : j = i
    · by_cases hki : k = i
      · rw [hji, hki]
      · exfalso
        subst hji
        rw [lk_st_ne hki] at q2
        rw [List.getElem?_set_ne (Ne.symm hki)] at q4
        rw [List.getElem?_set_self (nlt q1)] at q3
        cases q3
        exact hn k e' ((List.mem_cons.mp hk).elim (fun z => absurd z hki) id) q2 q4
    · by_cases hki : k = i
      · exfalso
        subst hki
        rw [lk_st_ne hji] at q1
        rw [List.getElem?_set_ne (Ne.symm hji)] at q3
        rw [List.getElem?_set_self (nlt q2)] at q4
        cases q4
        exact hn j e ((List.mem_cons.mp hj).elim (fun z => absurd z hji) id) q1 q3
      · rw [lk_st_ne hji] at q1
        rw [lk_st_ne hki] at q2
        rw [List.getElem?_set_ne (Ne.symm hji)] at q3
        rw [List.getElem?_set_ne (Ne.symm hki)] at q4
        exact hE.ap j k e e' p' ((List.mem_cons.mp hj).elim (fun z => absurd z hji) id) ((List.mem_cons.mp hk).elim (fun z => absurd z hki) id) q1 q2 q3 q4
  · by_cases hji : j = i
    · subst hji
      rw [List.getElem?_set_self (nlt q1)] at q2
      cases q2
      exact h0
    · rw [lk_st_ne hji] at q1
      rw [List.getElem?_set_ne (Ne.symm hji)] at q2
      exact h.nw j e p' ((List.mem_cons.mp hj).elim (fun z => absurd z hji) id) q1 q2
/-- a list just made, known to nobody, becomes one's own -/
theorem Sn.own {i : Nat} {p : Addr} {ds : List D} {vs : List V} (h : Sn K C O F0 H0 F H σ ρ) (hi : i ∉ O) (hH : H p = none) (hl : RpL K C F ds vs) :
    Sn K C (i :: O) F0 H0 F (upd H p (.lst vs)) (σ.set i (some (.ref p))) (st ρ i (.lst ds)) := by
  refine (h.step (Stp.own h.en.fh hH)).adopt hi upd_same (none_of_same h.en.fh hH) (h.sp.hh.free hH) (fun j d hj q1 q2 => ?_) hl
  obtain ⟨p', _, _, g1, _, g3, _, _⟩ := h.en.ow j d hj q1
  rw [g1] at q2
  cases q2
  rw [hH] at g3
  cases g3
theorem Sn.mut {i : Nat} {ds ds' : List D} {vs' : List V} {p : Addr} (h : Sn K C O F0 H0 F H σ ρ) (hi : i ∈ O) (he : lk ρ i = some (.lst ds)) (hp : σ[i]? = some (some (.ref p))) (hl : RpL K C F ds' vs') :
    Sn K C O F0 H0 F (upd H p (.lst vs')) σ (st ρ i (.lst ds')) := by
  obtain ⟨p', vs, ds2, g1, g2, g3, g4, g5⟩ := h.en.ow i _ hi he
  rw [g1] at hp
  cases hp
  have h0 : H0 p = none := h.nw i _ p hi he g1
  refine ⟨h.en.mut hi he g1 g3 g4 hl, ⟨h.sp.ff, fun a o q => ?_, fun a o q => ?_, h.sp.old⟩, fun j e p' hj q1 q2 => ?_⟩
  · rw [upd_ne (ne_of_none q h0)]
    exact h.sp.hh a o q
  · rw [upd_ne (ne_of_none q g4)]
    exact h.en.fh a o q
  · by_cases hji : j = i
    · subst hji
      rw [g1] at q2
      cases q2
      exact h0
    · rw [lk_st_ne hji] at q1
      exact h.nw j e p' hj q1 q2
theorem Sn.freeze {i : Nat} (h : Sn K C O F0 H0 F H σ ρ) (hO : ∀ j, j ∈ O' ↔ j ∈ O ∧ j ≠ i) : ∃ F', Same F F' ∧ Sn K C O' F0 H0 F' H σ ρ := by
  obtain ⟨F', sm, E, ch⟩ := h.en.freeze hO
  refine ⟨F', sm, E, ⟨h.sp.ff.trans sm, h.sp.hh, E.fh, fun a o q => ?_⟩, fun j d p hj q1 q2 => h.nw j d p ((hO j).mp hj).1 q1 q2⟩
  by_cases hne : F' a = F a
  · rw [hne]
    exact h.sp.old a o q
  · obtain ⟨hi, d, e1, e2⟩ := ch a hne
    rw [h.nw i d a hi e1 e2] at q
    cases q
end
def dSeq (f g : DS) : DS := fun ρ => (f ρ).bind fun r => match r with
  | .nx ρ' => g ρ'
  | .rt d => some (.rt d)
def dNx : DS := fun ρ => some (.nx ρ)
def dRet (f : DF) : DS := fun ρ => (f ρ).bind fun d => some (.rt d)
def dSet (i : Nat) (f : DF) : DS := fun ρ => (f ρ).bind fun d => some (.nx (st ρ i d))
def dIfS (t : DB) (f g : DS) : DS := fun ρ => (t ρ).bind fun b => if b = true then f ρ else g ρ
def dAsg (g : DG) (f : DF) : DS := fun ρ => (f ρ).bind fun d => (g d ρ).bind fun ρ' => some (.nx ρ')
def forL (g : DG) (b : DS) : List D → Rho → Option R
  | [], ρ => some (.nx ρ)
  | d :: ds, ρ => (g d ρ).bind fun ρ1 => (b ρ1).bind fun r => match r with
    | .nx ρ2 => forL g b ds ρ2
    | .rt x => some (.rt x)
def dFor (it : DFs) (g : DG) (b : DS) : DS := fun ρ => (it ρ).bind fun ds => forL g b ds ρ
def whileN (t : DB) (b : DS) : Nat → Rho → Option R
  | 0, _ => none
  | n + 1, ρ => (t ρ).bind fun c => if c = true then (b ρ).bind fun r => match r with
    | .nx ρ' => whileN t b n ρ'
    | .rt d => some (.rt d) else some (.nx ρ)
def FUEL : Nat := 1000000000000000000000000000000
def dWhile (t : DB) (b : DS) : DS := fun ρ => whileN t b FUEL ρ
def dPar (i j : Nat) (f g : DF) : DS := fun ρ => (f ρ).bind fun x => (g ρ).bind fun y => some (.nx (st (st ρ i x) j y))
def asI : D → Option Int
  | .int i => some i
  | _ => none
def dAug (i : Nat) (f : DF) : DS := fun ρ => (lk ρ i).bind fun x => (asI x).bind fun a => (f ρ).bind fun y => (asI y).bind fun b => some (.nx (st ρ i (.int (a + b))))
def asL : D → Option (List D)
  | .lst xs => some xs
  | _ => none
def dApp (i : Nat) (f : DF) : DS := fun ρ => (f ρ).bind fun d => (lk ρ i).bind fun x => (asL x).bind fun ds => if ds.length < 16777216 then some (.nx (st ρ i (.lst (ds ++ [d])))) else none
def dSetIx (i : Nat) (k f : DF) : DS := fun ρ => (f ρ).bind fun d => (k ρ).bind fun j => (asI j).bind fun n => (lk ρ i).bind fun x => (asL x).bind fun ds => (ixNat ds.length n).bind fun m => some (.nx (st ρ i (.lst (ds.set m d))))
theorem asL_some {d : D} {b : List D} (h : asL d = some b) : d = .lst b := by
  cases d <;> first | (cases h; rfl) | cases h
section
variable {X : Cx} {C : Addr} {O O' O1 : List Nat} {s : Stmt} {ss : List Stmt} {f g : DS} {e a b c : Expr} {fe ge : DF} {t : DB} {pos : Pos}
theorem dss_nil : DSs X C O O [] dNx := PSsw pss_nil fun D σ H ⟨F0, H0, F, ρ, r, S, hf, k⟩ => by
  cases hf
  exact k σ F H S (Same.refl _)
theorem dss_cons (h1 : DSt X C O O1 s f) (h2 : DSs X C O1 O' ss g) : DSs X C O O' (s :: ss) (dSeq f g) := PSsw (pss_cons h1 h2) fun D σ H ⟨F0, H0, F, ρ, r, S, hf, k⟩ => by
  obtain ⟨r1, e1, e2⟩ := bind_some hf
  refine ⟨F0, H0, F, ρ, r1, S, e1, ?_⟩
  cases r1 with
  | nx ρ1 => exact fun σ1 F1 H1 S1 sm => ⟨F0, H0, F1, ρ1, r, S1, e2, k.mono sm⟩
  | rt d =>
    cases e2
    exact k
theorem dss_one (h1 : DSt X C O O' s f) : DSs X C O O' [s] f := pss_one h1
/-- ghosts: a list of one's own is frozen ahead of a statement, of a block -/
theorem ds_frz (i : Nat) (h : DSt X C O1 O' s f) (hO : ∀ j, j ∈ O1 ↔ j ∈ O ∧ j ≠ i := by intro j; simp only [List.mem_cons, List.not_mem_nil, or_false]; constructor <;> (intro h; first | omega | exact h.elim)) : DSt X C O O' s f := PSw h fun D σ H ⟨F0, H0, F, ρ, r, S, hf, k⟩ => by
  obtain ⟨F', sm, S'⟩ := S.freeze hO
  exact ⟨F0, H0, F', ρ, r, S', hf, k.mono sm⟩
theorem ds_ret (h : DE X C O e fe) : DSt X C O O (.Return (some e) pos) (dRet fe) := PSw (ps_ret h) fun D σ H ⟨F0, H0, F, ρ, r, S, hf, k⟩ => by
  obtain ⟨d, e1, e2⟩ := bind_some hf
  cases e2
  exact ⟨F, ρ, d, S.en, e1, fun v F1 H1 s1 r1 => k v F1 H1 (S.sp.trans s1) r1⟩
theorem ds_if (hc : DT X C O c t) (ha : DSs X C O O' ss f) {us : List Stmt} (hb : DSs X C O O' us g) : DSt X C O O' (.If c ss us pos) (dIfS t f g) := PSw (ps_if hc ha hb) fun D σ H ⟨F0, H0, F, ρ, r, S, hf, k⟩ => by
  obtain ⟨d, e1, e2⟩ := bind_some hf
  refine ⟨F, ρ, d, S.en, e1, fun F1 H1 s1 => ?_⟩
  cases d with
  | true =>
    rw [if_pos rfl] at e2 ⊢
    exact ⟨F0, H0, F1, ρ, r, S.step s1, e2, k.mono s1.ff⟩
  | false =>
    rw [if_neg Bool.false_ne_true] at e2 ⊢
    exact ⟨F0, H0, F1, ρ, r, S.step s1, e2, k.mono s1.ff⟩
theorem set_rd {K : PySem.W.Frag} {i : Nat} {Z : Ends} {σ : L2.St} {H : Hp} (hi : i ∉ O) (hw : tDS K C O O (dSet i fe) Z σ H) : tAsg (tD K C O fe) (gName i) Z σ H := by
  obtain ⟨F0, H0, F, ρ, r, S, hf, k⟩ := hw
  obtain ⟨d, e1, e2⟩ := bind_some hf
  cases e2
  exact ⟨F, ρ, d, S.en, e1, fun v F1 H1 s1 r1 => k _ F1 H1 ((S.step s1).set hi r1) s1.ff⟩
theorem ds_set (i : Nat) {x : Str} {pos' : Pos} (hN : X.N.Nodup) (he : DE X C O e fe) (hi : X.N[i]? = some x := by rfl) (hx : Loc X.env.scope x := by first | exact Or.inl rfl | exact Or.inr rfl) (hO : i ∉ O := by decide)
    (hs : swapsWith e (some (.Name x pos')) pos.line X.env = pure false := by rfl) (hf : X.fn x = true ∨ X.env.scope.names.lookup x = some .local := by first | exact .inl rfl | exact .inr rfl) :
    DSt X C O O (.Assign [.Name x pos'] e pos) (dSet i fe) := PSw (ps_set hN hi hx he hs hf) fun D σ H hw => set_rd hO hw
theorem ds_par (i j : Nat) {x y : Str} {px py pt : Pos} {kt k2 : Nat} {pt2 : Pos} (hc : X.calm = true) (hN : X.N.Nodup) (ha : DE X C O a fe) (hb : DE X C O b ge) (hi : X.N[i]? = some x := by rfl) (hj : X.N[j]? = some y := by rfl) (hij : i ≠ j := by decide)
    (hx : X.env.scope.names.lookup x = some .local := by rfl) (hy : X.env.scope.names.lookup y = some .local := by rfl) (hO : i ∉ O := by decide) (hO2 : j ∉ O := by decide)
    (hw : swappedStores [.Tuple [.Name x px, .Name y py] kt pt] (.Tuple [a, b] k2 pt2) X.env = pure (some [x, y]) := by rfl)
    (hs : swapsWithSole [.Tuple [.Name x px, .Name y py] kt pt] (.Tuple [a, b] k2 pt2) pos.line X.env = pure false := by rfl)
    (h1 : starEach [a, b] X.env = (false, eval a X.env) :: starEach [b] X.env := by rfl) (h2 : starEach [b] X.env = (false, eval b X.env) :: starEach [] X.env := by rfl) :
    DSt X C O O (.Assign [.Tuple [.Name x px, .Name y py] kt pt] (.Tuple [a, b] k2 pt2) pos) (dPar i j fe ge) := PSw (ps_par hc hN hi hj hij hx hy (pa_cons ha (pa_cons hb pa_nil h2) h1) hw hs) fun D σ H ⟨F0, H0, F, ρ, r, S, hf, k⟩ => by
  obtain ⟨d, e1, e2⟩ := bind_some hf
  obtain ⟨d', e3, e4⟩ := bind_some e2
  cases e4
  exact ⟨F, ρ, d, S.en, e1, fun v F1 H1 s1 r1 => ⟨F1, ρ, d', S.en.step s1, e3, fun v2 F2 H2 s2 r2 => ⟨v, v2, rfl, k _ F2 H2 (((S.step (s1.trans s2)).set hO (Rp.mono s2.ff _ _ r1)).set hO2 r2) (s1.ff.trans s2.ff)⟩⟩⟩
theorem ds_while {body : List Stmt} (hp : PassesOwn (model X.prog X.w) X.A X.env X.xe) (hc : DT X C O c t) (hb : DSs X C O O body f) : DSt X C O O (.While c body [] pos) (dWhile t f) := PSw (ps_while hp hc hb) fun D σ H ⟨F0, H0, F, ρ, r, S, hf, k⟩ => by
  refine ⟨fun m σ H => ∃ F1 ρ, Sn X.K C O F0 H0 F1 H σ ρ ∧ Same F F1 ∧ whileN t f m ρ = some r, ⟨FUEL, F, ρ, S, Same.refl _, hf⟩, fun m σ1 H1 ⟨F1, ρ1, S1, sm, hw⟩ => ?_⟩
  cases m with
  | zero => cases hw
  | succ m =>
    obtain ⟨c', e1, e2⟩ := bind_some hw
    refine ⟨F1, ρ1, c', S1.en, e1, fun F2 H2 s2 => ?_⟩
    cases c' with
    | true =>
      dsimp only
      rw [if_pos rfl] at e2 ⊢
      obtain ⟨r1, e3, e4⟩ := bind_some e2
      refine ⟨fun σ H => ∃ F1 ρ, Sn X.K C O F0 H0 F1 H σ ρ ∧ Same F F1 ∧ whileN t f m ρ = some r, fun σ' H' q => ⟨m, Nat.lt_succ_self _, q⟩, F0, H0, F2, ρ1, r1, S1.step s2, e3, ?_⟩
      cases r1 with
      | nx ρ2 => exact fun σ' F' H' S' sm' => ⟨F', ρ2, S', sm.trans (s2.ff.trans sm'), e4⟩
      | rt d =>
        cases e4
        exact k
    | false =>
      dsimp only
      rw [if_neg Bool.false_ne_true] at e2 ⊢
      cases e2
      exact k σ1 F2 H2 (S1.step s2) (sm.trans s2.ff)
theorem ds_for {tg iter : Expr} {body : List Stmt} {it : DFs} {ws : List Nat} {gg : DG} (hp : PassesOwn (model X.prog X.w) X.A X.env X.xe) (hc : X.calm = true) (hi : DI X C O tg iter it) (hg : DTg X C O ws tg gg) (hb : DSs X C O O body f)
    (hs : ∀ x, foldedSetIterable iter X.env x = pure x := by intro _; rfl) : DSt X C O O (.For tg iter body [] pos) (dFor it gg f) := PSw (ps_for hp hc hi hg hb hs) fun D σ H ⟨F0, H0, F, ρ, r, S, hf, k⟩ => by
  obtain ⟨ds, e1, e2⟩ := bind_some hf
  refine ⟨F, ρ, ds, S.en, e1, fun J F1 H1 s1 jd => ?_⟩
  refine ⟨fun i m σ H => m = ds.length - i ∧ i ≤ ds.length ∧ ∃ F2 ρ, Sn X.K C O F0 H0 F2 H σ ρ ∧ Same F1 F2 ∧ forL gg f (ds.drop i) ρ = some r, ⟨ds.length, rfl, Nat.zero_le _, F1, ρ, S.step s1, Same.refl _, e2⟩, fun i m σ2 H2 ⟨em, hi, F2, ρ2, S2, sm, hw⟩ => ?_⟩
  subst em
  by_cases hlt : i < ds.length
  · right
    obtain ⟨_, jg⟩ := jd i F2 H2 sm S2.en.fh
    obtain ⟨go, yl⟩ := jg ds[i] (List.getElem?_eq_getElem hlt)
    rw [List.drop_eq_getElem_cons hlt] at hw
    unfold forL at hw
    obtain ⟨ρ3, c1, c2⟩ := bind_some hw
    obtain ⟨r3, c3, c4⟩ := bind_some c2
    refine ⟨go, fun σ H => (ds.length - (i + 1)) = ds.length - (i + 1) ∧ i + 1 ≤ ds.length ∧ ∃ F2 ρ, Sn X.K C O F0 H0 F2 H σ ρ ∧ Same F1 F2 ∧ forL gg f (ds.drop (i + 1)) ρ = some r, fun σ' H' q => ⟨_, by omega, q⟩, fun x H3 y => ?_⟩
    obtain ⟨F3, s3, r3'⟩ := yl x H3 y
    refine ⟨F3, ρ2, ds[i], ρ3, S2.en.step s3, r3', c1, fun σ4 E4 bar kp => ⟨F0, H0, F3, ρ3, r3, (S2.step s3).keep E4 kp, c3, ?_⟩⟩
    cases r3 with
    | nx ρ4 => exact fun σ' F' H' S' sm' => ⟨rfl, hlt, F', ρ4, S', sm.trans (s3.ff.trans sm'), c4⟩
    | rt d =>
      cases c4
      exact k
  · left
    have ei : i = ds.length := by omega
    subst ei
    obtain ⟨js, _⟩ := jd ds.length F2 H2 sm S2.en.fh
    rw [List.drop_length] at hw
    cases hw
    exact ⟨js rfl, k σ2 F2 H2 S2 (s1.ff.trans sm)⟩
end
end DL
namespace DL
open PySem PySem.Spec PyProof.Rows L2
/-- a new list that nobody knows yet -/
def tDN (K : PySem.W.Frag) (C : Addr) (O : List Nat) (f : DFs) : TE := fun σ H Q => ∃ F ρ ds, En K C O F H σ ρ ∧ f ρ = some ds ∧ ∀ p vs F' H1, Stp F H F' H1 → H1 p = none → RpL K C F' ds vs → Q (.ref p) (upd H1 p (.lst vs))
abbrev DN (X : Cx) (C : Addr) (O : List Nat) (e : Expr) (f : DFs) : Prop := PE X e (tDN X.K C O f)
def nLst (f : DFs) : DFs := fun ρ => (f ρ).bind fun ds => if ds.length ≤ 100000 then some ds else none
def nRep (f g : DF) : DFs := fun ρ => (f ρ).bind fun x => (asL x).bind fun ds => (g ρ).bind fun y => (asI y).bind fun k => if k ≤ 16777216 ∧ -16777216 ≤ k ∧ ds.length * k.toNat ≤ 16777216 then some (List.replicate k.toNat ds).flatten else none
def nOf (f : DF) : DFs := fun ρ => (f ρ).bind asSeq
def dSetN (i : Nat) (f : DFs) : DS := fun ρ => (f ρ).bind fun ds => some (.nx (st ρ i (.lst ds)))
def dParN1 (i j : Nat) (f : DFs) (g : DF) : DS := fun ρ => (f ρ).bind fun ds => (g ρ).bind fun y => some (.nx (st (st ρ i (.lst ds)) j y))
def dParNN (i j : Nat) (f g : DFs) : DS := fun ρ => (f ρ).bind fun ds => (g ρ).bind fun es => some (.nx (st (st ρ i (.lst ds)) j (.lst es)))
section
variable {X : Cx} {C : Addr} {O O' O1 : List Nat} {s : Stmt} {ss : List Stmt} {f g : DS} {e a b c : Expr} {es : List Expr} {fe ge : DF} {fs gs : DFs} {t : DB} {pos : Pos}
theorem dn_lst (ha : DA X C O es fs) : DN X C O (.List es pos) (nLst fs) := PEw (pe_lst ha) fun σ H Q ⟨F, ρ, t, E, hf, k⟩ => by
  obtain ⟨ds, h1, hf1⟩ := bind_some hf
  split at hf1
  · rename_i hz
    cases hf1
    exact ⟨F, ρ, _, E, h1, fun vs F1 H1 s1 r1 => ⟨by rw [← r1.len]; exact sz100 hz, fun p hp => k p vs F1 H1 s1 hp r1⟩⟩
  · cases hf1
theorem ds_setN (i : Nat) {x : Str} {pos' : Pos} (hN : X.N.Nodup) (he : DN X C O e fs) (hi : X.N[i]? = some x := by rfl) (hx : Loc X.env.scope x := by first | exact Or.inl rfl | exact Or.inr rfl) (hO : i ∉ O := by decide)
    (hs : swapsWith e (some (.Name x pos')) pos.line X.env = pure false := by rfl) (hf : X.fn x = true ∨ X.env.scope.names.lookup x = some .local := by first | exact .inl rfl | exact .inr rfl) :
    DSt X C O (i :: O) (.Assign [.Name x pos'] e pos) (dSetN i fs) := PSw (ps_set hN hi hx he hs hf) fun Z σ H ⟨F0, H0, F, ρ, r, S, hf, k⟩ => by
  obtain ⟨ds, e1, e2⟩ := bind_some hf
  cases e2
  exact ⟨F, ρ, ds, S.en, e1, fun p vs F1 H1 s1 hp r1 => k _ F1 _ ((S.step s1).own hO hp r1) s1.ff⟩
/-- x.append(e) -/
theorem ds_app (i : Nat) {x : Str} {p1 p2 p3 : Pos} (he : DE X C O e fe) (hi : X.N[i]? = some x := by rfl) (hv : Vis X.env.scope x := by first | exact Or.inl rfl | exact Or.inr (Or.inl rfl) | exact Or.inr (Or.inr rfl)) (hO : i ∈ O := by decide)
    (hd : (x == ("__debug__" : Str)) = false := by decide) (hcd : (x == ("__classdict__" : Str)) = false := by decide)
    (hbase : attributeBase (.Name x p1) "append" X.env (eval (.Name x p1) X.env) = eval (.Name x p1) X.env := by rfl)
    (hfew : ((backTo p3 (starEach [e] X.env)).all (fun x => !x.1) && (backToKw p3 (keywordEach [] X.env)).all (fun x => x.1.isSome)
      && decide ([e].length + ([] : List Keyword).length + (if ([] : List Keyword).isEmpty then 0 else 1) < 30)) = true := by rfl)
    (hline : (p2.endLine == p3.line) = true := by rfl) (hs : starEach [e] X.env = (false, eval e X.env) :: starEach [] X.env := by rfl) (hplain : (backTo p3 (starEach [] X.env)).any (·.1) = false := by rfl)
    (hsw : swapsWith (.Call (.Attribute (.Name x p1) "append" p2) [e] [] p3) none pos.line X.env = pure false := by rfl) :
    DSt X C O O (.Expr (.Call (.Attribute (.Name x p1) "append" p2) [e] [] p3) pos) (dApp i fe) :=
  PSw (ps_expr (pe_bm PySem.F.plainAttrs_list PySem.F.slot_list_append PySem.F.type_list_append mt_append (pe_var hi hv hd hcd) (pa_cons he pa_nil hs) hbase hfew hline hs hplain) hsw) fun Z σ H ⟨F0, H0, F, ρ, r, S, hf, k⟩ => by
    obtain ⟨d, e1, e2⟩ := bind_some hf
    obtain ⟨y, e3, e4⟩ := bind_some e2
    obtain ⟨ds, e5, e6⟩ := bind_some e4
    obtain rfl := asL_some e5
    split at e6
    · rename_i hz
      cases e6
      obtain ⟨p, vs, ds2, g1, g2, g3, g4, g5⟩ := S.en.ow i _ hO e3
      cases g2
      refine ⟨.ref p, g1, .inl ⟨rfl, vs, SqL.of g3⟩, F, ρ, d, S.en, e1, fun v F1 H1 s1 r1 => ?_⟩
      have S1 := S.step s1
      have hl : RpL X.K C F1 (ds ++ [d]) (vs ++ [v]) := RpL.append (RpL.mono s1.ff _ _ g5) (RpL.one r1)
      exact ⟨p, vs, v, rfl, rfl, s1.hh _ _ g3, Nat.lt_of_lt_of_le (by rw [← g5.len]; exact hz) (szl_ok (Nat.le_refl _)), k σ F1 _ (S1.mut hO e3 g1 hl) s1.ff⟩
    · cases e6
/-- y = [..] on one line -/
theorem ds_setLc (i : Nat) {y : Str} {py : Pos} {elt tg iter : Expr} {ifs : List Expr} {scope : Scope} {own : List (Str × Nat)} {pos spos : Pos} {it : DFs} {gg : DG} {tt : DB} {ee : DF} {ws : List Nat} (hc : X.calm = true) (hN : X.N.Nodup)
    (hi : DI X C O tg iter it) (ok : BlkOk X.N X.env.scope scope own)
    (hg : ∀ (s : Shared) (H : Hp) (D : Addr) (cl : List (Str × Addr)) (fp : List Addr), DTg (X.blk s H scope (compEnvC scope cl D X.env) fp) C O ws tg gg) (ht : ∀ (s : Shared) (H : Hp) (D : Addr) (cl : List (Str × Addr)) (fp : List Addr), DTs (X.blk s H scope (compEnvC scope cl D X.env) fp) C O ifs tt)
    (he : ∀ (s : Shared) (H : Hp) (D : Addr) (cl : List (Str × Addr)) (fp : List Addr), DE (X.blk s H scope (compEnvC scope cl D X.env) fp) C O elt ee)
    (hy : X.N[i]? = some y := by rfl) (hyl : X.env.scope.names.lookup y = some .local := by rfl)
    (hsw : swapsWith (.ListComp elt [⟨tg, iter, ifs, 0⟩] scope pos) (some (.Name y py)) spos.line X.env = pure true := by exact sw_true rfl rfl rfl (by decide +kernel)) (hO : i ∉ O := by decide)
    (hv : ∀ i ∈ ws, i ∈ own.map (·.2) := by decide) (hs : ∀ x, foldedSetIterable iter X.env x = pure x := by intro _; rfl) :
    DSt X C O O (.Assign [.Name y py] (.ListComp elt [⟨tg, iter, ifs, 0⟩] scope pos) spos) (dSet i (dComp it gg tt ee (own.map (·.2)))) := PSw (ps_setLc hc hN hy hyl hsw hi ok hg ht he hs) fun Z σ H hw => by
  obtain ⟨F0, H0, F, ρ, r, S, hf, k⟩ := hw
  obtain ⟨d, e1, e2⟩ := bind_some hf
  cases e2
  exact comp_rd hv ⟨F, ρ, d, S.en, e1, fun v F1 H1 s1 r1 => k _ F1 H1 ((S.step s1).set hO r1) s1.ff⟩
end
def runD (n a : Nat) (f : DS) : List D → Option D := fun ds => if ds.length = a then (f (ds.map some ++ List.replicate (n - a) none)).bind fun r => match r with
  | .rt d => some d
  | .nx _ => some .non else none
theorem lk_app : ∀ {ds : List D} {r : Nat} {i : Nat} {d : D}, lk (ds.map some ++ List.replicate r none) i = some d → ds[i]? = some d
  | [], r, i, d, h => by
    exfalso
    have z : ∀ (r i : Nat), lk (List.replicate r none) i = none := by
      intro r
      induction r with
      | zero => intro i; rfl
      | succ r ih =>
        intro i
        cases i with
        | zero => rfl
        | succ i => exact ih i
    have h' : lk (List.replicate r none) i = some d := h
    rw [z] at h'
    cases h'
  | x :: ds, r, 0, d, h => h
  | x :: ds, r, i + 1, d, h => by
    rw [List.getElem?_cons_succ]
    exact lk_app (ds := ds) h
theorem start_get : ∀ {vs : List V} {r : List (Option V)} {i : Nat} {v : V}, vs[i]? = some v → (vs.map some ++ r)[i]? = some (some v)
  | [], r, i, v, h => by simp at h
  | x :: vs, r, 0, v, h => by
    have e : x = v := by simpa using h
    subst e
    rfl
  | x :: vs, r, i + 1, v, h => by
    rw [List.getElem?_cons_succ] at h
    show ((some x :: (vs.map some ++ r)))[i + 1]? = _
    rw [List.getElem?_cons_succ]
    exact start_get h
section
variable {P : Program} {w : World} {K : PySem.W.Frag} {mg : Str → Option Value} {base : Heap} {C : Addr}
/-- THE RULE for a pure def -/
theorem fnD {x qual : Str} {st : Stmt} {f : Addr} {fd : FuncData} {N ps : List Str} {k : Nat} {O' : List Nat} {body : DS} (F : Fun K x qual st f fd) (S : FnScope N ps (defScope st)) (hl : ps.length ≤ N.length)
    (h : ∀ (cdv : Value) (A : Around) (outer : List Env) (s : Shared) (H : Hp) (E : XK), Room k (A.deeper (envOfC qual (defScope st) s.heap.objs.size f cdv)) → DSs ((cxOf CX0 P w K mg base N qual (defScope st) f cdv A outer s H E).nox) C [] O' (defBody st) body) :
    FnOk P w K mg base CX0 (k + 1) f fd ps (spD K C (runD N.length ps.length body)) := by
  have ln : ∀ vs H Q E, spD K C (runD N.length ps.length body) vs H Q E → vs.length = ps.length := fun vs H Q E ⟨F, ds, d, fh, r, hm, _⟩ => by
    unfold runD at hm
    split at hm
    · rename_i hz
      rw [← r.len]
      exact hz
    · cases hm
  refine F.ok S ln fun cdv A outer s H vs Q E hr hsp => ⟨_, h cdv A outer s H E hr, ?_⟩
  have lv := ln vs H Q E hsp
  obtain ⟨F1, ds, d, fh, r, hm, g⟩ := hsp
  unfold runD at hm
  split at hm
  · rename_i hz
    obtain ⟨r1, e1, e2⟩ := bind_some hm
    refine ⟨F1, H, F1, _, r1, ⟨⟨fh, ?_, fun i d hi q => ?_, fun i d hi _ => absurd hi (List.not_mem_nil), fun i j d e p hi _ _ _ _ _ => absurd hi (List.not_mem_nil)⟩, Stp.refl fh, fun i d p hi _ _ => absurd hi (List.not_mem_nil)⟩, e1, ?_⟩
    · unfold L2.start
      rw [List.length_append, List.length_append, List.length_map, List.length_map, List.length_replicate, List.length_replicate, lv, hz]
    · have q1 := lk_app q
      obtain ⟨v, h1, h2⟩ := RpL.get r q1
      exact ⟨v, start_get h1, h2⟩
    · cases r1 with
      | nx ρ' =>
        cases e2
        exact fun σ' F' H' S' _ => g .non F' H' S'.sp rfl
      | rt d' =>
        cases e2
        exact fun v F' H' s' r' => g v F' H' s' r'
  · cases hm
end
end DL
namespace DL
open PySem PySem.Spec PyProof.Rows L2
theorem hu65 {k : Nat} {A : Around} (hr : Room k A) : A.units + 65 < cLine := by have := hr.un; omega
theorem bt_len : bootBuiltins "len" = some (.builtin "len") := by decide +kernel
theorem bt_all : bootBuiltins "all" = some (.builtin "all") := by decide +kernel
theorem bt_max : bootBuiltins "max" = some (.builtin "max") := by decide +kernel
theorem bt_min : bootBuiltins "min" = some (.builtin "min") := by decide +kernel
theorem bt_tuple : bootBuiltins "tuple" = some (.type "tuple") := by decide +kernel
theorem bt_list : bootBuiltins "list" = some (.type "list") := by decide +kernel
theorem bt_int : bootBuiltins "int" = some (.type "int") := by decide +kernel
theorem bt_bool : bootBuiltins "bool" = some (.type "bool") := by decide +kernel
end DL
namespace DL
open PySem PySem.Spec PyProof.Rows L2
theorem RpL.ofGet {K : PySem.W.Frag} {C : Addr} {F : Hp} : ∀ {ds : List D} {vs : List V}, ds.length = vs.length → (∀ (j : Nat) (d : D) (v : V), ds[j]? = some d → vs[j]? = some v → Rp K C F d v) → RpL K C F ds vs
  | [], vs, hl, _ => List.eq_nil_of_length_eq_zero hl.symm
  | d :: ds, vs, hl, h => by
    cases vs with
    | nil => cases hl
    | cons v vs => exact RpL.cons (h 0 d v rfl rfl) (RpL.ofGet (by simpa using hl) fun j d' v' h1 h2 => h (j + 1) d' v' (by simpa using h1) (by simpa using h2))
structure Nst (K : PySem.W.Frag) (C : Addr) (H0 F H : Hp) (p : Addr) (qs : List Addr) (dss : List (List D)) : Prop where
  hp : H p = some (.lst (qs.map V.ref))
  fp : F p = none
  h0 : H0 p = none
  ln : qs.length = dss.length
  at_ : ∀ (j : Nat) (q : Addr) (ds : List D), qs[j]? = some q → dss[j]? = some ds → ∃ vs, H q = some (.lst vs) ∧ F q = none ∧ H0 q = none ∧ RpL K C F ds vs
  nd : ∀ (j k : Nat) (q : Addr), qs[j]? = some q → qs[k]? = some q → j = k
  np : p ∉ qs
structure Sn2 (K : PySem.W.Frag) (C : Addr) (i : Nat) (F0 H0 F H : Hp) (σ : L2.St) (ρ : Rho) : Prop where
  en : En K C [] F H σ (un ρ i)
  sp : Stp F0 H0 F H
  ns : ∃ p qs dss, lk ρ i = some (.lst (dss.map D.lst)) ∧ σ[i]? = some (some (.ref p)) ∧ Nst K C H0 F H p qs dss
section
variable {K : PySem.W.Frag} {C : Addr} {i : Nat} {F0 H0 F H F' H' : Hp} {σ : L2.St} {ρ : Rho}
/-- all is frozen -/
theorem Sn2.freeze (S : Sn2 K C i F0 H0 F H σ ρ) : ∃ F', Same F F' ∧ Sn K C [] F0 H0 F' H σ ρ := by
  obtain ⟨p, qs, dss, e1, e2, N⟩ := S.ns
  have memq : ∀ {q : Addr}, q ∈ qs → ∃ vs ds j, qs[j]? = some q ∧ dss[j]? = some ds ∧ H q = some (.lst vs) ∧ F q = none ∧ H0 q = none ∧ RpL K C F ds vs := fun {q} hq => by
    obtain ⟨j, hj, rfl⟩ := List.getElem_of_mem hq
    have hj2 : j < dss.length := by rw [← N.ln]; exact hj
    obtain ⟨vs, h1, h2, h3, h4⟩ := N.at_ j qs[j] dss[j] (List.getElem?_eq_getElem hj) (List.getElem?_eq_getElem hj2)
    exact ⟨vs, dss[j], j, List.getElem?_eq_getElem hj, List.getElem?_eq_getElem hj2, h1, h2, h3, h4⟩
  let G : Hp := fun a => if a = p ∨ a ∈ qs then H a else F a
  have gin : ∀ {a}, (a = p ∨ a ∈ qs) → G a = H a := fun {a} h => if_pos h
  have gout : ∀ {a}, ¬ (a = p ∨ a ∈ qs) → G a = F a := fun {a} h => if_neg h
  have fin : ∀ {a}, (a = p ∨ a ∈ qs) → F a = none := fun {a} h => by
    rcases h with rfl | h
    · exact N.fp
    · obtain ⟨_, _, _, _, _, _, hf, _⟩ := memq h
      exact hf
  have hin : ∀ {a}, (a = p ∨ a ∈ qs) → H0 a = none := fun {a} h => by
    rcases h with rfl | h
    · exact N.h0
    · obtain ⟨_, _, _, _, _, _, _, hf, _⟩ := memq h
      exact hf
  have sm : Same F G := fun a o e => by
    have hn : ¬ (a = p ∨ a ∈ qs) := fun h => by rw [fin h] at e; cases e
    rw [gout hn]
    exact e
  have gh : Same G H := fun a o e => by
    by_cases h : a = p ∨ a ∈ qs
    · rw [gin h] at e
      exact e
    · rw [gout h] at e
      exact S.en.fh a o e
  refine ⟨G, sm, ⟨gh, ?_, fun j d hj q => ?_, fun j d hj => absurd hj List.not_mem_nil, fun j k d e p hj => absurd hj List.not_mem_nil⟩, ⟨S.sp.ff.trans sm, S.sp.hh, gh, fun a o e => ?_⟩, fun j d p hj => absurd hj List.not_mem_nil⟩
  · rw [S.en.len, un_len]
  · by_cases hji : j = i
    · subst hji
      rw [e1] at q
      cases q
      refine ⟨.ref p, e2, p, _, rfl, (gin (.inl rfl)).trans N.hp, RpL.ofGet (by rw [List.length_map, List.length_map, N.ln]) fun j d v h1 h2 => ?_⟩
      rw [List.getElem?_map] at h1 h2
      obtain ⟨ds, g1, rfl⟩ := Option.map_eq_some_iff.mp h1
      obtain ⟨q, g2, rfl⟩ := Option.map_eq_some_iff.mp h2
      obtain ⟨vs, g3, g4, g5, g6⟩ := N.at_ j q ds g2 g1
      exact ⟨q, vs, rfl, (gin (.inr (List.mem_of_getElem? g2))).trans g3, RpL.mono sm _ _ g6⟩
    · have q' : lk (un ρ i) j = some d := by rw [lk_un_ne hji]; exact q
      obtain ⟨v, h1, h2⟩ := S.en.pl j d List.not_mem_nil q'
      exact ⟨v, h1, Rp.mono sm _ _ h2⟩
  · have hn : ¬ (a = p ∨ a ∈ qs) := fun h => by rw [hin h] at e; cases e
    rw [gout hn]
    exact S.sp.old a o e
/-- what was evaluated meanwhile leaves it as it is -/
theorem Sn2.step (S : Sn2 K C i F0 H0 F H σ ρ) (hh : Same H H') : Sn2 K C i F0 H0 F H' σ ρ := by
  obtain ⟨p, qs, dss, e1, e2, N⟩ := S.ns
  have st : Stp F H F H' := ⟨Same.refl _, hh, S.en.fh.trans hh, fun _ _ _ => rfl⟩
  refine ⟨S.en.step st, S.sp.trans st, p, qs, dss, e1, e2, ⟨hh _ _ N.hp, N.fp, N.h0, N.ln, fun j q ds h1 h2 => ?_, N.nd, N.np⟩⟩
  obtain ⟨vs, g1, g2⟩ := N.at_ j q ds h1 h2
  exact ⟨vs, hh _ _ g1, g2⟩
theorem un_st_ne : ∀ {ρ : Rho} {i j : Nat} {d : D}, j ≠ i → un (st ρ j d) i = st (un ρ i) j d
  | [], _, _, _, _ => rfl
  | _ :: _, 0, 0, _, h => absurd rfl h
  | _ :: _, 0, j + 1, _, _ => rfl
  | _ :: _, i + 1, 0, _, _ => rfl
  | x :: r, i + 1, j + 1, d, h => by
    show x :: un (st r j d) i = x :: st (un r i) j d
    rw [un_st_ne fun z => h (by rw [z])]
/-- a scalar is stored -/
theorem Sn2.set {j : Nat} {d : D} {v : V} (S : Sn2 K C i F0 H0 F H σ ρ) (hj : j ≠ i) (r : Rp K C F d v) : Sn2 K C i F0 H0 F H (σ.set j (some v)) (st ρ j d) := by
  obtain ⟨p, qs, dss, e1, e2, N⟩ := S.ns
  refine ⟨?_, S.sp, p, qs, dss, ?_, ?_, N⟩
  · rw [un_st_ne hj]
    exact S.en.set List.not_mem_nil r
  · rw [lk_st_ne (Ne.symm hj)]
    exact e1
  · rw [List.getElem?_set_ne hj]
    exact e2
end
def endR2 (K : PySem.W.Frag) (C : Addr) (i : Nat) (F0 H0 F : Hp) (Z : Ends) : R → Prop
  | .nx ρ' => ∀ σ' F' H', Sn2 K C i F0 H0 F' H' σ' ρ' → Same F F' → Z.nx σ' H'
  | .rt d => ∀ v F' H', Stp F0 H0 F' H' → Rp K C F' d v → Z.rt v H'
theorem endR2.mono {K : PySem.W.Frag} {C : Addr} {i : Nat} {F0 H0 F F' : Hp} {Z : Ends} {r : R} (h : endR2 K C i F0 H0 F Z r) (s : Same F F') : endR2 K C i F0 H0 F' Z r := by
  cases r with
  | nx ρ' => exact fun σ' F2 H2 S sm => h σ' F2 H2 S (s.trans sm)
  | rt d => exact h
end DL
namespace DL
open PySem PySem.Spec PyProof.Rows L2
end DL
namespace DL
open PySem PySem.Spec PyProof.Rows L2
end DL
namespace DL
open PySem PySem.Spec PyProof.Rows L2
/-- the truth of None, bools and ints -/
def truI : D → Option Bool
  | .non => some false
  | .bl b => some b
  | .int i => some (i != 0)
  | _ => none
def dOrT (f g : DF) : DF := fun ρ => (f ρ).bind fun x => (truI x).bind fun k => if k = true then some x else g ρ
end DL
namespace DL
open PySem PySem.Spec PyProof.Rows L2
end DL
namespace DL
open PySem PySem.Spec PyProof.Rows L2
end DL
namespace DL
open PySem PySem.Spec PyProof.Rows L2
abbrev Pr := Int × List Int
def prD (p : Pr) : D := .tup [.int p.1, .tup (p.2.map .int)]
theorem asInts_eq : ∀ {ds : List D} {ns : List Int}, asInts ds = some ns → ds = ns.map .int
  | [], ns, e => by cases e; rfl
  | .int i :: ds, ns, e => by
    simp only [asInts, Option.map_eq_some_iff] at e
    obtain ⟨ns', e1, rfl⟩ := e
    rw [asInts_eq e1]
    rfl
  | .non :: _, _, e => by simp [asInts] at e
  | .bl _ :: _, _, e => by simp [asInts] at e
  | .str _ :: _, _, e => by simp [asInts] at e
  | .tup _ :: _, _, e => by simp [asInts] at e
  | .lst _ :: _, _, e => by simp [asInts] at e
  | .bell _ :: _, _, e => by simp [asInts] at e
  | .scr _ :: _, _, e => by simp [asInts] at e
theorem toPs_ints : ∀ ns : List Int, toPs (ns.map .int) = ns.map .int
  | [] => rfl
  | n :: ns => by
    rw [List.map_cons, List.map_cons, ← toPs_ints ns]
    rfl
end DL
namespace DL
open PySem PySem.Spec PyProof.Rows L2
end DL
namespace DL
open PySem PySem.Spec PyProof.Rows L2
inductive Kd
  | l
  | t
def ItrK (k : Kd) (h : Heap) (it a : Addr) (i : Nat) : Prop := match k with
  | .l => h.IsListIter it a i
  | .t => h.IsTupleIter it a i
def obK (k : Kd) (a : Addr) : Obj := match k with
  | .l => { cls := .type "list_iterator", data := .fields #[.ref a, .int 0 0] }
  | .t => { cls := .type "tuple_iterator", data := .fields #[.ref a, .int 0 0] }
theorem ItrK.start {k : Kd} {h : Heap} {it a : Addr} (g : h.get? it = some (obK k a)) : ItrK k h it a 0 := by
  cases k
  · exact ⟨_, g, rfl, rfl⟩
  · exact ⟨_, g, rfl, rfl⟩
theorem ItrK.obj {k : Kd} {h : Heap} {it a : Addr} {i : Nat} (g : ItrK k h it a i) : ∃ o vs, h.get? it = some o ∧ o.data = .fields vs := by
  cases k
  · obtain ⟨o, e, _, d⟩ := g
    exact ⟨o, _, e, d⟩
  · obtain ⟨o, e, _, d⟩ := g
    exact ⟨o, _, e, d⟩
theorem ItrK.at {k : Kd} {h h' : Heap} {it a : Addr} {i : Nat} (g : ItrK k h it a i) (f : ∀ o, h.get? it = some o → h'.get? it = some o) : ItrK k h' it a i := by
  cases k
  · exact Heap.IsListIter.at g f
  · exact Heap.IsTupleIter.at g f
section
variable {K : PySem.W.Frag} {C : Addr} {F H : Hp} {a b : Addr} {xs ys : List V} {ds es : List D}
def InK (F : Hp) (k : Kd) (a : Addr) (us : List V) : Prop := (k = Kd.l ∧ F a = some (.lst us)) ∨ (k = Kd.t ∧ F a = some (.tup us))
end
section
variable {X : Cx} {C : Addr} {O : List Nat} {e e2 e3 : Expr} {fs : DFs} {p pos tpos : Pos} {elts : List Expr} {kk : Nat}
theorem InK.mono {F F1 : Hp} {k : Kd} {a : Addr} {us : List V} (h : InK F k a us) (s : Same F F1) : InK F1 k a us := by
  rcases h with ⟨rfl, h⟩ | ⟨rfl, h⟩
  · exact .inl ⟨rfl, s _ _ h⟩
  · exact .inr ⟨rfl, s _ _ h⟩
end
end DL
namespace DL
open PySem PySem.Spec PyProof.Rows L2
def opPer : D → Option D
  | .bell ps => some (.tup (ps.map .int))
  | _ => none
def bellOk (ns : List Int) : Bool := decide (1 ≤ ns.length) && (decide (ns.length ≤ 5) && ns.all fun i => decide (1 ≤ i) && decide (i ≤ 1000))
def opBells : List D → Option D := fun ds => (asInts ds).bind fun ns => if bellOk ns = true then some (.bell ns) else none
/-- __init__ -/
def spInit (C : Addr) : Sp := fun vs H Q _ => ∃ x dx p ns, vs = [.ref x, .ref p] ∧ H x = some (.ins C dx []) ∧ H p = some (.tup (ns.map V.int)) ∧ bellOk ns = true ∧ ∀ H', Same H H' → Q .non (upd H' x (.ins C dx [("row", .ref p)]))
def spStar (sp : Sp) : Sp := fun vs H Q E => ∃ ws rest, vs = ws ++ rest ∧ ws.length = 1 ∧ rest.length ≤ sizeLine ∧ ∀ p, H p = Option.none → sp (ws ++ [V.ref p]) (upd H p (.tup rest)) Q E
/-- what the class must have -/
structure BeC (P : Program) (w : World) (K : PySem.W.Frag) (mg : Str → Option Value) (base : Heap) (C : Addr) : Prop where
  cls : Cls K C
  row : NoAttr K C "row"
  mks : ∃ f, Mk K C f ∧ FnR P w K mg base CX0 4 f (spStar (spInit C)) ∧ mg "Bells" = some (.ref C)
  prop : ∃ p g fd, PropOf K C "periods" p g ∧ FnOk P w K mg base CX0 1 g fd ["self"] (getSp C "row") ∧ Binds K fd ["self"] []
section
variable {X : Cx} {C : Addr} {O : List Nat} {e : Expr} {es : List Expr} {f : DF} {fs : DFs} {p pos : Pos}
theorem de_row (B : BeC X.prog X.w X.K X.mg X.base C) (he : DE X C O e f) (hb : attributeBase e "row" X.env (eval e X.env) = eval e X.env := by rfl) : DE X C O (.Attribute e "row" pos) (d1 opPer f) :=
  PEw (pe_fld he hb) fun σ H Q ⟨F, ρ, d, E, hf, k⟩ => by
    obtain ⟨x, q1, q2⟩ := bind_some hf
    refine ⟨F, ρ, x, E, q1, fun v F1 H1 s1 r1 => ?_⟩
    cases x with
    | bell ps =>
      cases q2
      obtain ⟨a, dx, t, rfl, ha, ht⟩ := r1
      exact ⟨a, C, dx, _, .ref t, rfl, s1.fh _ _ ha, B.cls, B.row, rfl, k _ F1 H1 s1 ⟨t, _, rfl, ht, RpL.ofInts ps⟩⟩
    | _ => cases q2
theorem de_periods {j : Nat} (B : BeC X.prog X.w X.K X.mg X.base C) (hr : Room j X.A) (he : DE X C O e f) (hk : 2 ≤ j := by decide) (hb : attributeBase e "periods" X.env (eval e X.env) = eval e X.env := by rfl) : DE X C O (.Attribute e "periods" pos) (d1 opPer f) := by
  obtain ⟨p, g, fd, hp, F0, hbi⟩ := B.prop
  refine PEw (pe_prop (E := E0) he B.cls hp F0 (hr.mono hk) hbi .nil pass0 hb) fun σ H Q ⟨F, ρ, d, E, hf, k⟩ => ?_
  obtain ⟨x, q1, q2⟩ := bind_some hf
  refine ⟨F, ρ, x, E, q1, fun v F1 H1 s1 r1 => ?_⟩
  cases x with
  | bell ps =>
    cases q2
    obtain ⟨a, dx, t, rfl, ha, ht⟩ := r1
    exact ⟨a, dx, _, rfl, s1.fh _ _ ha, a, dx, _, .ref t, rfl, s1.fh _ _ ha, rfl, k _ F1 H1 s1 ⟨t, _, rfl, ht, RpL.ofInts ps⟩⟩
  | _ => cases q2
theorem made_rd {K : PySem.W.Frag} {F H H' : Hp} {x dx p : Addr} {ns : List Int} (fh : Same F H) (hx : H x = none) (hdx : H dx = none) (hne : dx ≠ x) (hp : (upd (upd H dx (.own x)) x (.ins C dx [])) p = none)
    (s : Same (upd (upd (upd H dx (.own x)) x (.ins C dx [])) p (.tup (ns.map V.int))) H') :
    ∃ F2, Stp F H F2 (upd H' x (.ins C dx [("row", .ref p)])) ∧ Rp K C F2 (.bell ns) (.ref x) := by
  have px : p ≠ x := fun e => by rw [e, upd_same] at hp; cases hp
  have pd : p ≠ dx := fun e => by rw [e, upd_ne hne, upd_same] at hp; cases hp
  have hp' : H p = none := by rw [upd_ne px, upd_ne pd] at hp; exact hp
  have hh : Same H H' := fun b o e => s b o (by
    have b1 : b ≠ p := fun z => by rw [z, hp'] at e; cases e
    have b2 : b ≠ x := fun z => by rw [z, hx] at e; cases e
    have b3 : b ≠ dx := fun z => by rw [z, hdx] at e; cases e
    rw [upd_ne b1, upd_ne b2, upd_ne b3]
    exact e)
  have tp : H' p = some (.tup (ns.map V.int)) := s p _ upd_same
  have ne_of : ∀ {b : Addr} {o : HO}, H b = some o → b ≠ x := fun e z => by rw [z, hx] at e; cases e
  have nep : ∀ {b : Addr} {o : HO}, H b = some o → b ≠ p := fun e z => by rw [z, hp'] at e; cases e
  refine ⟨upd (upd F p (.tup (ns.map V.int))) x (.ins C dx [("row", .ref p)]), ⟨fun b o e => ?_, fun b o e => ?_, fun b o e => ?_, fun b o e => ?_⟩, x, dx, p, rfl, upd_same, ?_⟩
  · have e' := fh b o e
    rw [upd_ne (ne_of e'), upd_ne (nep e')]
    exact e
  · rw [upd_ne (ne_of e)]
    exact hh b o e
  · by_cases z : b = x
    · subst z
      rw [upd_same] at e ⊢
      exact e
    · rw [upd_ne z] at e ⊢
      by_cases z2 : b = p
      · subst z2
        rw [upd_same] at e
        rw [← e]
        exact tp
      · rw [upd_ne z2] at e
        exact hh b o (fh b o e)
  · rw [upd_ne (ne_of e), upd_ne (nep e)]
  · rw [upd_ne px, upd_same]
/-- Bells(..) -/
theorem de_bells {j : Nat} (B : BeC X.prog X.w X.K X.mg X.base C) (hr : Room j X.A) (hg : Gl X "Bells") (ha : DA X C O (e :: es) fs) (hk : 5 ≤ j := by decide)
    (he : starEach (e :: es) X.env = (false, eval e X.env) :: starEach es X.env := by rfl) (hpl : (backTo pos (starEach es X.env)).any (·.1) = false := by rfl) :
    DE X C O (.Call (.Name "Bells" p) (e :: es) [] pos) (dL opBells fs) := by
  obtain ⟨f, M, F0, hm⟩ := B.mks
  refine PEw (StX.pe_makeR (E := E0) M F0 (hr.mono hk) hg hm pass0 ha (he := he) (hpl := hpl)) fun σ H Q ⟨F, ρ, d, E, hf, k⟩ => ?_
  obtain ⟨ds, q1, q2⟩ := bind_some hf
  refine ⟨F, ρ, ds, E, q1, fun vs F1 H1 s1 r1 x dx hx hdx hne => ?_⟩
  obtain ⟨ns, q3, q4⟩ := bind_some q2
  by_cases ok : bellOk ns = true
  · rw [if_pos ok] at q4
    cases q4
    have ev := intsRp q3 r1
    subst ev
    have ln : ns.length ≤ 5 := by
      unfold bellOk at ok
      rw [Bool.and_eq_true, Bool.and_eq_true] at ok
      exact of_decide_eq_true ok.2.1
    refine ⟨[.ref x], ns.map V.int, rfl, rfl, by rw [List.length_map, sizeLine_eq]; omega, fun p hp => ⟨x, dx, p, ns, rfl, ?_, upd_same, ok, fun H' same => ⟨rfl, ?_⟩⟩⟩
    · have px : p ≠ x := fun e => by rw [e, upd_same] at hp; cases hp
      rw [upd_ne (Ne.symm px), upd_same]
    · obtain ⟨F2, st, rp⟩ := made_rd (K := X.K) (C := C) s1.fh hx hdx hne hp same
      exact k _ F2 _ (s1.trans st) rp
  · rw [if_neg ok] at q4
    cases q4
end
structure Most (K : PySem.W.Frag) (C : Addr) : Prop where
  ex : ∃ mc u, ClX.CRead K C mc ∧ ClX.CVal K C mc "MOST" (.int 5) u
section
variable {X : Cx} {C : Addr} {O : List Nat} {p pos : Pos}
theorem de_most (M : Most X.K C) (hg : Gl X "Bells") (hm : X.mg "Bells" = some (.ref C)) (hb : attributeBase (.Name "Bells" p) "MOST" X.env (eval (.Name "Bells" p) X.env) = eval (.Name "Bells" p) X.env := by rfl) :
    DE X C O (.Attribute (.Name "Bells" p) "MOST" pos) (dc (.int 5)) :=
  PEw (ClX.pe_cval (pe_glob (v := .ref C) hg hm rfl) hb) fun σ H Q ⟨F, ρ, d, E, hf, k⟩ => by
    cases hf
    obtain ⟨mc, u, r, v⟩ := M.ex
    exact ⟨C, mc, .int 5, u, rfl, r, v, k _ F H (Stp.refl E.fh) rfl⟩
end
section
variable {P : Program} {w : World} {K : PySem.W.Frag} {mg : Str → Option Value} {base : Heap} {C : Addr}
theorem init_ok {st : Stmt} {f : Addr} {fd : FuncData} {N : List Str} {k : Nat} {c : Expr} {ra : List Stmt} {g : DB} {p1 p2 p3 p4 p5 : Pos} (F : Fun K "__init__" "Bells.__init__" st f fd) (S : FnScope N ((["self"] : List Str) ++ [("periods" : Str)]) (defScope st)) (cl : Cls K C) (nr : NoAttr K C "row")
    (hbd : defBody st = [.If c ra [] p1, .Assign [.Attribute (.Name "self" p2) "row" p3] (.Name "periods" p4) p5])
    (hb : ∀ (kV doc pm : Value) (an : Option Addr) (cdv ct : Value) (us rest : List Value), us.length = 1 → bindArgs (PySem.W.fnOf "__init__" "Bells.__init__" (defArgs st) (defBody st) (defScope st) .none kV doc pm an cdv ct) ⟨us ++ rest, []⟩ = (newTuple rest >>= fun t => pure ((["self"] : List Str).zip us ++ [(("periods" : Str), t)])))
    (ht : ∀ (cdv : Value) (A : Around) (outer : List Env) (s : Shared) (H : Hp) (E : XK), Room k (A.deeper (envOfC "Bells.__init__" (defScope st) s.heap.objs.size f cdv)) → DT ((cxOf CX0 P w K mg base N "Bells.__init__" (defScope st) f cdv A outer s H E).nox) C [] c g)
    (hv : ∀ ns, bellOk ns = true → g (none :: some (.tup (ns.map .int)) :: List.replicate (N.length - 2) none) = some false) (h0 : N[0]? = some ("self" : Str)) (h1 : N[1]? = some ("periods" : Str)) (hl : 2 ≤ N.length) (v0 : Vis (defScope st) "self") (v1 : Vis (defScope st) "periods")
    (hs : ∀ env : Env, swapsWith (.Name "periods" p4) (some (.Attribute (.Name "self" p2) "row" p3)) p5.line env = pure false) : FnR P w K mg base CX0 (k + 1) f (spStar (spInit C)) := by
  obtain ⟨oc, od, kV, doc, pm, an, cdv, ct, osl, rfl, lk, hcd⟩ := F.ex
  refine StX.fn_star (ps := ["self"]) (sp := spInit C) lk hcd S (fun _ _ _ _ _ _ _ _ _ _ _ z => z) (fun us rest h => hb kV doc pm an cdv ct us rest h) fun A outer s H vs Q E hr hsp => ?_
  obtain ⟨x, dx, p, ns, rfl, hx, hp, ok, q⟩ := hsp
  refine ⟨_, PSs.nox (hbd ▸ pss_cons (ps_if (ht cdv A outer s H E hr) pss_never pss_nil) (pss_one (ps_fld (pe_var h0 v0) (pe_var h1 v1) (hs _)))), ?_⟩
  refine ⟨fun b => if b = p then some (.tup (ns.map V.int)) else none, none :: some (.tup (ns.map .int)) :: List.replicate (N.length - 2) none, false, ⟨fun b o e => ?_, ?_, fun i d hi e => ?_, fun i d hi _ => absurd hi List.not_mem_nil, fun i j d e p hi _ _ _ _ _ => absurd hi List.not_mem_nil⟩, hv ns ok, fun F' H' st => ?_⟩
  · by_cases z : b = p
    · rw [if_pos z] at e
      rw [z, hp]
      exact e
    · rw [if_neg z] at e
      cases e
  · unfold L2.start
    simp
  · match i, e with
    | 0, e => cases e
    | 1, e =>
      cases e
      exact ⟨.ref p, rfl, p, _, rfl, if_pos rfl, RpL.ofInts ns⟩
    | i + 2, e =>
      exfalso
      have e : DL.lk (List.replicate (N.length - 2) none) i = some d := e
      have : ∀ (r i : Nat), DL.lk (List.replicate r none) i = none := by
        intro r
        induction r with
        | zero => intro i; rfl
        | succ r ih =>
          intro i
          cases i with
          | zero => rfl
          | succ i => exact ih i
      rw [this] at e
      cases e
  · refine ⟨.ref p, rfl, .ref x, rfl, x, C, dx, [], rfl, st.hh x _ hx, cl, nr, by decide, ?_⟩
    exact q H' st.hh
theorem prop_ok {st : Stmt} {p g : Addr} {fd : FuncData} {N : List Str} {p1 p2 p3 : Pos} (F : Fun K "periods" "Bells.periods" st g fd) (S : FnScope N ["self"] (defScope st)) (hN : N[0]? = some ("self" : Str)) (hb : defBody st = [.Return (some (.Attribute (.Name "self" p1) "row" p2)) p3]) (cl : Cls K C) (nr : NoAttr K C "row")
    (hbi : ∀ (kV doc pm : Value) (an : Option Addr) (cdv ct : Value) (us : List Value), us.length = 1 → bindArgs (PySem.W.fnOf "periods" "Bells.periods" (defArgs st) (defBody st) (defScope st) .none kV doc pm an cdv ct) ⟨us, []⟩ = pure ((["self"] : List Str).zip us)) (hp : PropOf K C "periods" p g) :
    ∃ p g fd, PropOf K C "periods" p g ∧ FnOk P w K mg base CX0 1 g fd ["self"] (getSp C "row") ∧ Binds K fd ["self"] [] := by
  have bi := F.binds (ps := ["self"]) hbi
  obtain ⟨oc, od, kV, doc, pm, an, cdv, ct, osl, rfl, lk, hcd⟩ := F.ex
  exact ⟨p, g, _, hp, fn_getter lk hcd S hN hb cl nr, bi⟩
end
end DL
namespace DL
open PySem PySem.Spec PyProof.Rows L2
def opM (mm : List D → Option D) : List D → Option D := fun ds => match ds with
  | .bell ps :: r => mm (.bell ps :: r)
  | _ => none
/-- a method that is a pure def -/
structure MethD (P : Program) (w : World) (K : PySem.W.Frag) (mg : Str → Option Value) (base : Heap) (C : Addr) (k : Nat) (m : Str) (ps : List Str) (mm : List D → Option D) : Prop where
  ex : ∃ f fd, Meth K C m f ∧ FnOk P w K mg base CX0 k f fd ps (spD K C mm) ∧ Binds K fd ps []
section
variable {X : Cx} {C : Addr} {O : List Nat} {e a : Expr} {es : List Expr} {f : DF} {fs : DFs} {apos pos : Pos} {m : Str} {k j : Nat} {ps : List Str} {mm : List D → Option D} {pl : Sem Bool}
theorem de_meth0 (cl : Cls X.K C) (M : MethD X.prog X.w X.K X.mg X.base C k m ps mm) (hr : Room j X.A) (he : DE X C O e f) (hk : k ≤ j := by decide) (hm : (m == ("row" : Str)) = false := by decide)
    (ht : eval (.Call (.Attribute e m apos) [] [] pos) X.env = (do
      let ov ← eval e X.env
      standAt apos.atName
      let (f, first) ← holding [ov] (getMethod ov m pl)
      callWith pos f first (backTo pos (starEach [] X.env)) (backToKw pos (keywordEach [] X.env))) := by rfl) :
    DE X C O (.Call (.Attribute e m apos) [] [] pos) (dL (opM mm) (dcons f dnil)) := by
  obtain ⟨g, fd, hmeth, F0, hb⟩ := M.ex
  refine PEw (pe_meth0 (E := E0) he cl hmeth F0 (hr.mono hk) hb .nil pass0 ht) fun σ H Q ⟨F, ρ, d, E, hf, kk⟩ => ?_
  obtain ⟨ds, q1, q2⟩ := bind_some hf
  obtain ⟨x, q3, q4⟩ := bind_some q1
  obtain ⟨y, q5, q6⟩ := bind_some q4
  cases q5
  cases q6
  refine ⟨F, ρ, x, E, q3, fun v F1 H1 s1 r1 => ?_⟩
  cases x with
  | bell qs =>
    obtain ⟨b, dx, t, rfl, hb1, ht1⟩ := r1
    refine ⟨b, dx, _, rfl, s1.fh _ _ hb1, by simp only [List.lookup, hm], ?_⟩
    exact ⟨F1, [.bell qs], d, s1.fh, RpL.one (show Rp X.K C F1 (.bell qs) (.ref b) from ⟨b, dx, t, rfl, hb1, ht1⟩), q2, kk.step s1⟩
  | _ => cases q2
end
end DL
namespace DL
open PySem PySem.Spec PyProof.Rows L2
def opMinT : List D → Option D
  | [.tup xs] => (asInts xs).bind fun ns => match ns with
    | [] => none
    | n :: r => some (.int (r.foldl min n))
  | _ => none
section
variable {X : Cx} {C : Addr}
theorem okDs_intsT : ∀ ns : List Int, okDs 3 (ns.map .int) = true
  | [] => rfl
  | n :: ns => by
    rw [List.map_cons]
    unfold okDs
    rw [okDs_intsT ns]
    rfl
theorem cd_minT (hc : X.calm = true) (hu : X.A.units + 65 < cLine) : CallD X C (.builtin "min") opMinT := by
  intro pins s σ H xs us Q I r ⟨F, ds, c, fh, rl, ho, g⟩
  match ds, ho, rl with
  | [.tup es], ho, rl =>
    obtain ⟨ns, e1, e2⟩ := bind_some ho
    have ee := asInts_eq e1
    obtain ⟨v, rfl, a, vs, rfl, ha, hl⟩ := RpL.one_inv rl
    obtain ⟨its, rv, isl, hz⟩ := I.tuple (SqT.of (fh _ _ ha))
    rw [Vals.ref1 r]
    have lay := okDs_lay 3 es (by rw [ee]; exact okDs_intsT ns)
    have dp := RpL.dp 3 es vs (by rw [ee]; exact okDs_intsT ns) (RpL.mono fh _ _ hl)
    obtain ⟨as, rs⟩ := Dp.readsAll I (toPs es) vs its dp rv
    cases ns with
    | nil => cases e2
    | cons n ns =>
      cases e2
      have et : toPs es = PyData.int n :: ns.map .int := by rw [ee, toPs_ints]; rfl
      rw [et] at rs lay
      refine PySem.W.min_tuple_data (I.ok.hd hc) isl (as := as) (by simpa using rs) ⟨fun d hd e he => ?_, fun d hd => ?_⟩ (by omega) fun i w h' tk bs hi rd kp => ?_
      · rw [← List.map_cons] at hd he
        obtain ⟨p, _, rfl⟩ := List.mem_map.mp hd
        obtain ⟨q, _, rfl⟩ := List.mem_map.mp he
        simp [PySem.W.alike]
      · rw [← List.map_cons] at hd
        obtain ⟨p, _, rfl⟩ := List.mem_map.mp hd
        intro z
        cases z
      · rw [PySem.W.minD_ints] at rd
        have hw : ∃ t, w = .int (ns.foldl min n) t := by
          cases rd; exact ⟨_, rfl⟩
        exact ⟨.int (ns.foldl min n), H, I.kept kp, hw, got0 g fh rfl⟩
end
end DL
namespace DL
open PySem PySem.Spec PyProof.Rows L2
end DL
namespace DL
open PySem PySem.Spec PyProof.Rows L2
section
variable {M : Model} {A : Around} {R : GenEnd} {Y : Protocol} {n : Nat} {s₀ : Shared} {c : Code} {fs : List Frame} {s : Shared} {env : Env}
  {K : Flow → Sem PySem.Fin} {H : Value → Sem PySem.Fin} {gd : Bool → Bool} {lv : List Value → List Value}
theorem bind_wrap {α β γ : Type} (m : Sem α) (f : α → Sem β) (K : β → Sem γ) (H : Value → Sem γ) (gd : Bool → Bool) (lv : List Value → List Value) : (m >>= f).wrap K H gd lv = m.wrap (fun a => (f a).wrap K H gd lv) H gd lv := by
  rw [Sem.bind_eq_wrap', Sem.wrap_wrap]
  rfl
theorem seg_For {target iter : Expr} {body orelse : List Stmt} {pos : Pos} (hs : ∀ x, foldedSetIterable iter env x = pure x)
    (h : wpAny M (A.over c fs) (eval iter env) (fun x s1 => wpAny M (A.over c fs) (pyIter x) (fun it s2 => ∀ p, Seg M A R Y n s₀ (.forLoop target it body orelse env) (M.den (.forLoop target it body orelse env))
      (.ret (fun r => ((match r with | .ok f => (.pure f : Sem Flow) | .error e => .raise e).onRaise (cameBack env)).wrap K H gd lv) none (gd false) (lv []) c p [] :: fs) s2) (fun x s' => Seg M A R Y n s₀ c (H x) fs s') s1) (fun x s' => Seg M A R Y n s₀ c (H x) fs s') s) :
    Seg M A R Y n s₀ c ((exec (.For target iter body orelse pos) env).wrap K H gd lv) fs s := by
  rw [exec_For, bind_wrap]
  refine seg_wrap (wpAny_standAt ?_)
  rw [bind_wrap]
  refine seg_wrap (wpAny_mono h (fun x s1 h1 => ?_) fun _ _ z => z)
  rw [hs x, bind_wrap]
  refine seg_wrap (wpAny_pure ?_)
  rw [bind_wrap]
  refine seg_wrap (wpAny_standAt ?_)
  rw [bind_wrap]
  refine seg_wrap (wpAny_holding (wpAny_mono h1 (fun it s2 h2 => ?_) fun _ _ z => z))
  exact seg_call h2
end
section
variable {prog : Program} {w : World} {A : Around} {R : GenEnd} {Y : Protocol} {n : Nat} {s₀ : Shared} {fs : List Frame} {s : Shared} {env : Env}
def exW (env : Env) (e : Value) : Sem PySem.Fin := (do noteFrame e env; theTreesLotGoes e : Sem Unit).wrap (fun _ => .raise e) .raise id id
def bodyW (target : Expr) (it : Value) (body orelse : List Stmt) (env : Env) (f : Flow) : Sem PySem.Fin := match f with
  | .next | .cont => .pure (.again (.forLoop target it body orelse env))
  | .brk => .pure (.done .next)
  | .ret v => .pure (.done (.ret v))
theorem exW_eq (env : Env) (e : Value) : ((do noteFrame e env; theTreesLotGoes e : Sem Unit).bind fun _ => (.raise e : Sem PySem.Fin)) = exW env e := by rw [Sem.bind_eq_wrap]; rfl
theorem seg_forLoop {target : Expr} {it : Value} {body orelse : List Stmt}
    (h : wpAny (model prog w) (A.over (.forLoop target it body orelse env) fs) (pyNext it) (fun r s1 => match r with
      | none => Seg (model prog w) A R Y n s₀ (.forLoop target it body orelse env) (.pure (.again (.block orelse env))) fs s1
      | some v => wpAny (model prog w) (A.over (.forLoop target it body orelse env) fs) (letOwnedTupleGo target it v) (fun _ s1' => wpAny (model prog w) (A.over (.forLoop target it body orelse env) fs) (assign target env v)
          (fun _ s2 => Seg (model prog w) A R Y n s₀ (.forLoop target it body orelse env) ((execs body env).wrap (bodyW target it body orelse env) (exW env) id id) fs s2)
          (fun x s' => Seg (model prog w) A R Y n s₀ (.forLoop target it body orelse env) (exW env x) fs s') s1') (fun x s' => Seg (model prog w) A R Y n s₀ (.forLoop target it body orelse env) (exW env x) fs s') s1)
      (fun x s' => Seg (model prog w) A R Y n s₀ (.forLoop target it body orelse env) (exW env x) fs s') s) :
    Seg (model prog w) A R Y n s₀ (.forLoop target it body orelse env) ((model prog w).den (.forLoop target it body orelse env)) fs s := by
  show Seg _ A R Y n s₀ _ ((forTurn target it body orelse env).onRaise (fun x => do noteFrame x env; theTreesLotGoes x)) fs s
  rw [Sem.onRaise_eq_wrap, Sem.wrap_congr (forTurn target it body orelse env) _ _ (K' := .pure) (H' := exW env) (fun _ => rfl) (fun e => exW_eq env e)]
  simp only [forTurn]
  rw [bind_wrap]
  refine seg_wrap (wpAny_standAt ?_)
  rw [bind_wrap]
  refine seg_wrap (wpAny_onRaise (wpAny_mono h (fun r s1 h1 => ?_) fun _ _ z => wpAny_standAt z))
  cases r with
  | none => exact h1
  | some v =>
    show Seg _ A R Y n s₀ _ (Sem.wrap _ _ _ _ (letOwnedTupleGo target it v >>= _)) fs s1
    rw [bind_wrap]
    refine seg_wrap (wpAny_mono h1 (fun _ s1' h2 => ?_) fun _ _ z => z)
    rw [bind_wrap]
    refine seg_wrap (wpAny_mono h2 (fun _ s2 h3 => ?_) fun _ _ z => z)
    rw [bind_wrap, Sem.wrap_congr (execs body env) _ _ (K' := bodyW target it body orelse env) (H' := exW env) (fun f => by cases f <;> rfl) (fun _ => rfl)]
    exact h3
theorem seg_block0 (h : Seg (model prog w) A R Y n s₀ (.block [] env) (.pure (.done .next)) fs s) : Seg (model prog w) A R Y n s₀ (.block [] env) ((model prog w).den (.block [] env)) fs s := h
end
section
variable {X : Cx}
def tGFor (wi : TI) (g : TG) (tb : TGn) : TGn := fun D ys σ H => wi σ H fun J H1 => ∃ W : Nat → Nat → List V → L2.St → Hp → Prop, (∃ m, W 0 m ys σ H1) ∧ ∀ i m ys σ H, W i m ys σ H →
  (J.stop i H ∧ D.nx ys σ H) ∨ (J.go i H ∧ ∃ N : List V → L2.St → Hp → Prop, (∀ ys' σ' H', N ys' σ' H' → ∃ m', m' < m ∧ W (i + 1) m' ys' σ' H') ∧ ∀ x H', J.yld i H x H' → g x σ H' fun σ2 H2 => tb { D with nx := N, ct := N, bk := D.nx } ys σ2 H2)
theorem gs_for {tg iter : Expr} {body : List Stmt} {wi : TI} {g : TG} {tb : TGn} {pos : Pos} (hp : PassesOwn (model X.prog X.w) X.A X.env X.xe) (hc : X.calm = true) (hi : PI X tg iter wi) (hg : PG X tg g) (hb : GSs X body tb)
    (hs : ∀ x, foldedSetIterable iter X.env x = pure x := by intro _; rfl) : GS X (.For tg iter body [] pos) (tGFor wi g tb) := by
  refine ⟨fun A S ip R n ys s₀ c fs K Jx gd lv s σ H D gC hn0 k hI ht => ?_⟩
  obtain ⟨acc, cc, r0, I0⟩ := hI
  refine seg_For hs ?_
  rw [gC.over]
  refine wpAny_mono (hi.run _ s σ H _ I0 ht) (fun v s1 h1 => wpAny_mono h1 (fun itv s2 h2 p => ?_) fun x s' hx => k.exc n s₀ x s' hx) fun x s' hx => k.exc n s₀ x s' hx
  obtain ⟨it, fp, tn, J, H2, rfl, I2, T, st2, f2, W, ⟨m0, w0⟩, turn⟩ := h2
  have gl := fun (kk : Result → Sem PySem.Fin) => gc_loop (k := kk) (c' := .forLoop tg (.ref it) body [] X.env) (l := lv []) (kp := []) (p := p) gC rfl rfl
  have stat : ∀ {H' : Hp} {acc' : Array Value} {c' : Nat}, (∀ b ∈ fp, H' b = none) → ∀ b ∈ fp, FpOk X ((S, lstObj acc' c') :: ip) H' b := fun hn b hb => by
    obtain ⟨_, h2, h3, h4, h5, h6⟩ := f2 b hb
    refine ⟨hn b hb, h2, h3, h4, h5, fun q hq => ?_⟩
    rcases List.mem_append.mp hq with z | z
    · exact h6 q (List.mem_append_left _ z)
    · rcases List.mem_cons.mp z with z | z
      · rw [z]
        exact h6 (S, lstObj acc cc) (List.mem_append_right _ List.mem_cons_self)
      · exact h6 q (List.mem_append_right _ (List.mem_cons_of_mem _ z))
  have loop : ∀ (m n i : Nat) (ys : List V) (s₀ s : Shared) (σ : L2.St) (H : Hp), n + ys.length = sizeLine → W i m ys σ H → GI X S ip ys σ H s → tn i s.heap → (∀ b ∈ fp, H b = none) →
      Seg (model X.prog X.w) A R (GY X S) n s₀ (.forLoop tg (.ref it) body [] X.env) ((model X.prog X.w).den (.forLoop tg (.ref it) body [] X.env))
        (.ret (fun r => ((match r with | .ok f => (.pure f : Sem Flow) | .error e => .raise e).onRaise (cameBack X.env)).wrap K Jx gd lv) none (gd false) (lv []) c p [] :: fs) s := by
    intro m
    induction m using Nat.strongRecOn with
    | ind m ih =>
      intro n i ys s₀ s σ H hn w hI st fr
      have ee : ∀ (n : Nat) (s₀ : Shared) (x : Value) (s' : Shared), X.xe x s' → Seg (model X.prog X.w) A R (GY X S) n s₀ (.forLoop tg (.ref it) body [] X.env) (exW X.env x)
          (.ret (fun r => ((match r with | .ok f => (.pure f : Sem Flow) | .error e => .raise e).onRaise (cameBack X.env)).wrap K Jx gd lv) none (gd false) (lv []) c p [] :: fs) s' := fun n s₀ x s' hx => by
        refine seg_wrap ?_
        rw [(gl _).over]
        refine wpAny_bind (wpAny_mono (hp x s' hx) (fun _ s'' hcb => wpAny_theTreesLotGoes ?_) fun y s'' hcb => ?_)
        · exact seg_leaf (.error x) (seg_cameBack gC k hcb)
        · exact seg_leaf (.error y) (seg_cameBack gC k hcb)
      obtain ⟨acc, cc, r, I⟩ := hI
      refine seg_forLoop ?_
      rw [(gl _).over]
      rcases turn i m ys σ H w with ⟨stop, qn⟩ | ⟨go, N, hN, step⟩
      · refine wpAny_mono (T.done X rfl rfl rfl hc i _ s σ H X.xe I (stat fr) st stop) (fun r s4 hr => ?_) fun x s' hx => ee n s₀ x s' hx
        obtain ⟨rfl, I4⟩ := hr
        exact seg_again rfl (seg_block0 (seg_leaf (.ok .next) (k.ok n ys s₀ s4 .next hn ⟨σ, H, ⟨acc, cc, by assumption, I4⟩, qn⟩)))
      · refine wpAny_mono (T.item X rfl rfl rfl hc i _ s σ H X.xe I (stat fr) st go) (fun r s4 hr => ?_) fun x s' hx => ee n s₀ x s' hx
        obtain ⟨u, rfl, h4⟩ := hr
        refine wpAny_mono h4 (fun _ s5 h5 => ?_) fun x s' hx => ee n s₀ x s' hx
        obtain ⟨x, H5, I5, r5, y5, st5, fr5⟩ := h5
        have I5' := I5.pinned (stat fr5) (T.obj _ _ st5)
        refine wpAny_mono (hg.run _ s5 σ H5 x u _ I5' r5 (step x H5 y5)) (fun _ s6 h6 => ?_) fun x s' hx => ee n s₀ x s' hx
        obtain ⟨σ6, H6, I6, q6⟩ := h6
        have gl2 := fun (kk : Result → Sem PySem.Fin) => (⟨(gl kk).pn, fun q hq => by
          rcases List.mem_append.mp hq with z | z
          · exact gC.ip q z
          · exact fun e => (stat (acc' := acc) (c' := cc) fr q.1 (of_pinsAt z).1).2.2.2.2.2 (S, lstObj acc cc) (List.mem_append_right _ List.mem_cons_self) e.symm, (gl kk).apart, (gl kk).over, (gl kk).split, (gl kk).guard, (gl kk).gd⟩ : GC X S (ip ++ pinsAt fp s5.heap) A (.forLoop tg (.ref it) body [] X.env) (.ret kk none (gd false) (lv []) c p [] :: fs) id)
        refine hb.run A S (ip ++ pinsAt fp s5.heap) R n ys s₀ _ _ _ _ id id s6 σ6 H6 { D with nx := N, ct := N, bk := D.nx } (gl2 _) hn ⟨fun n' ys' s₀' s3 f hn' hs => ?_, fun n' s₀' x s3 hx => ee n' s₀' x s3 hx⟩ ⟨acc, cc, by assumption, I6⟩ q6
        have again : ∀ {σ7 : L2.St} {H7 : Hp}, GI X S (ip ++ pinsAt fp s5.heap) ys' σ7 H7 s3 → GI X S ip ys' σ7 H7 s3 ∧ tn (i + 1) s3.heap ∧ ∀ b ∈ fp, H7 b = none := fun {σ7 H7} g7 => by
          obtain ⟨acc7, c7, r7, I7⟩ := g7
          have I7 : Inv X (((S, lstObj acc7 c7) :: ip) ++ pinsAt fp s5.heap) σ7 H7 s3 := I7
          refine ⟨⟨acc7, c7, r7, I7.unpinned⟩, T.keep _ _ _ st5 fun b hb o e => (I7.pin (b, o) (List.mem_append_right _ (List.mem_append_right _ (mem_pinsAt hb e)))).1, fun b hb => ?_⟩
          obtain ⟨o, e, d⟩ := T.obj _ _ st5 b hb
          exact (I7.pin (b, o) (List.mem_append_right _ (List.mem_append_right _ (mem_pinsAt hb e)))).2.1
        have unp : ∀ {σ7 : L2.St} {H7 : Hp}, GI X S (ip ++ pinsAt fp s5.heap) ys' σ7 H7 s3 → GI X S ip ys' σ7 H7 s3 := fun g7 => (again g7).1
        cases f with
        | next =>
          obtain ⟨σ3, H3, I3, n3⟩ := hs
          obtain ⟨g3, t3, f3⟩ := again I3
          obtain ⟨m', hm, w3⟩ := hN ys' σ3 H3 n3
          exact seg_again rfl (ih m' hm n' (i + 1) ys' s₀' s3 σ3 H3 hn' w3 g3 t3 f3)
        | cont =>
          obtain ⟨σ3, H3, I3, n3⟩ := hs
          obtain ⟨g3, t3, f3⟩ := again I3
          obtain ⟨m', hm, w3⟩ := hN ys' σ3 H3 n3
          exact seg_again rfl (ih m' hm n' (i + 1) ys' s₀' s3 σ3 H3 hn' w3 g3 t3 f3)
        | brk =>
          obtain ⟨σ3, H3, I3, n3⟩ := hs
          exact seg_leaf (.ok .next) (k.ok n' ys' s₀' s3 .next hn' ⟨σ3, H3, unp I3, n3⟩)
        | ret v =>
          obtain ⟨v3, σ3, H3, I3, n3⟩ := hs
          exact seg_leaf (.ok (.ret v)) (k.ok n' ys' s₀' s3 (.ret v) hn' ⟨v3, σ3, H3, unp I3, n3⟩)
  exact loop m0 n 0 ys s₀ s2 σ H2 hn0 w0 ⟨acc, cc, r0, I2⟩ st2 fun b hb => (f2 b hb).1
end
end DL
namespace DL
open PySem PySem.Spec PyProof.Rows L2
abbrev DY := List D → Rho → Option (Rho × List D)
def endY (K : PySem.W.Frag) (C : Addr) (O' : List Nat) (F0 H0 F : Hp) (Z : GEnds) (r : Rho × List D) : Prop :=
  ∀ σ' F' H' ys, Sn K C O' F0 H0 F' H' σ' r.1 → Same F F' → RpL K C F' r.2 ys → Z.nx ys σ' H'
def tDY (K : PySem.W.Frag) (C : Addr) (O O' : List Nat) (f : DY) : TGn := fun Z ys σ H => ∃ F0 H0 F ρ ds r, Sn K C O F0 H0 F H σ ρ ∧ RpL K C F ds ys ∧ f ds ρ = some r ∧ endY K C O' F0 H0 F Z r
abbrev DYt (X : Cx) (C : Addr) (O O' : List Nat) (s : Stmt) (f : DY) : Prop := GS X s (tDY X.K C O O' f)
abbrev DYs (X : Cx) (C : Addr) (O O' : List Nat) (s : List Stmt) (f : DY) : Prop := GSs X s (tDY X.K C O O' f)
def yPl (f : DS) : DY := fun ds ρ => (f ρ).bind fun r => match r with
  | .nx ρ' => some (ρ', ds)
  | .rt _ => none
def yNx : DY := fun ds ρ => some (ρ, ds)
def ySeq (f g : DY) : DY := fun ds ρ => (f ds ρ).bind fun r => g r.2 r.1
def yOut (f : DF) : DY := fun ds ρ => (f ρ).bind fun d => if ds.length < 100000 then some (ρ, ds ++ [d]) else none
def forY (g : DG) (b : DY) : List D → List D → Rho → Option (Rho × List D)
  | [], ds, ρ => some (ρ, ds)
  | d :: r, ds, ρ => (g d ρ).bind fun ρ' => (b ds ρ').bind fun x => forY g b r x.2 x.1
def yFor (it : DFs) (g : DG) (b : DY) : DY := fun ds ρ => (it ρ).bind fun es => forY g b es ds ρ
def dFail : DS := fun _ => none
section
variable {X : Cx} {C : Addr} {O O1 O' : List Nat} {s : Stmt} {ss : List Stmt} {f g : DY} {pos : Pos}
theorem GSw {e : Stmt} {t t' : TGn} (h : GS X e t) (w : ∀ D ys σ H, t' D ys σ H → t D ys σ H) : GS X e t' := ⟨fun A S ip R n ys s₀ c fs K J gd lv s σ H D g hn k hI ht => h.run A S ip R n ys s₀ c fs K J gd lv s σ H D g hn k hI (w D ys σ H ht)⟩
theorem GSsw {e : List Stmt} {t t' : TGn} (h : GSs X e t) (w : ∀ D ys σ H, t' D ys σ H → t D ys σ H) : GSs X e t' := ⟨fun A S ip R n ys s₀ c fs K J gd lv s σ H D g hn k hI ht => h.run A S ip R n ys s₀ c fs K J gd lv s σ H D g hn k hI (w D ys σ H ht)⟩
theorem ds_fail {O O' : List Nat} : DSt X C O O' s dFail := PSw ps_never fun D σ H ⟨F0, H0, F, ρ, r, S, hf, k⟩ => by cases hf
theorem dy_pl {f : DS} (h : DSt X C O O' s f) : DYt X C O O' s (yPl f) := GSw (gs_ps h) fun Z ys σ H ⟨F0, H0, F, ρ, ds, r, S, hr, hf, k⟩ => by
  obtain ⟨r1, e1, e2⟩ := bind_some hf
  refine ⟨F0, H0, F, ρ, r1, S, e1, ?_⟩
  cases r1 with
  | nx ρ' =>
    cases e2
    exact fun σ' F' H' S' sm => k σ' F' H' ys S' sm (RpL.mono sm _ _ hr)
  | rt d => cases e2
theorem dys_nil : DYs X C O O [] yNx := GSsw gss_nil fun Z ys σ H ⟨F0, H0, F, ρ, ds, r, S, hr, hf, k⟩ => by
  cases hf
  exact k σ F H ys S (Same.refl _) hr
theorem dys_cons (h1 : DYt X C O O1 s f) (h2 : DYs X C O1 O' ss g) : DYs X C O O' (s :: ss) (ySeq f g) := GSsw (gss_cons h1 h2) fun Z ys σ H ⟨F0, H0, F, ρ, ds, r, S, hr, hf, k⟩ => by
  obtain ⟨r1, e1, e2⟩ := bind_some hf
  exact ⟨F0, H0, F, ρ, ds, r1, S, hr, e1, fun σ' F' H' ys' S' sm hr' => ⟨F0, H0, F', r1.1, r1.2, r, S', hr', e2, fun σ2 F2 H2 ys2 S2 sm2 hr2 => k σ2 F2 H2 ys2 S2 (sm.trans sm2) hr2⟩⟩
theorem dy_out {e : Expr} {fe : DF} {yp : Pos} (he : DE X C O e fe) (hco : X.env.scope.isCoroutine = false := by rfl) (hi : interactive X.env = false := by rfl) : DYt X C O O (.Expr (.Yield (some e) yp) pos) (yOut fe) :=
  GSw (gs_yield he hco hi) fun Z ys σ H ⟨F0, H0, F, ρ, ds, r, S, hr, hf, k⟩ => by
    obtain ⟨d, e1, e2⟩ := bind_some hf
    split at e2
    · rename_i hz
      cases e2
      refine ⟨by rw [← hr.len, sizeLine_eq]; omega, F, ρ, d, S.en, e1, fun v F1 H1 s1 r1 => ?_⟩
      exact k σ F1 H1 _ (S.step s1) s1.ff (RpL.append (RpL.mono s1.ff _ _ hr) (RpL.one r1))
    · cases e2
theorem dy_for {tg iter : Expr} {body : List Stmt} {it : DFs} {ws : List Nat} {gg : DG} (hp : PassesOwn (model X.prog X.w) X.A X.env X.xe) (hc : X.calm = true) (hi : DI X C O tg iter it) (hg : DTg X C O ws tg gg) (hb : DYs X C O O body f)
    (hs : ∀ x, foldedSetIterable iter X.env x = pure x := by intro _; rfl) : DYt X C O O (.For tg iter body [] pos) (yFor it gg f) := GSw (gs_for hp hc hi hg hb hs) fun Z ys0 σ H ⟨F0, H0, F, ρ, es, r, S, hr, hf, k⟩ => by
  obtain ⟨ds, e1, e2⟩ := bind_some hf
  refine ⟨F, ρ, ds, S.en, e1, fun J F1 H1 s1 jd => ?_⟩
  refine ⟨fun i m ys σ H => m = ds.length - i ∧ i ≤ ds.length ∧ ∃ F2 ρ es, Sn X.K C O F0 H0 F2 H σ ρ ∧ Same F1 F2 ∧ RpL X.K C F2 es ys ∧ forY gg f (ds.drop i) es ρ = some r, ⟨ds.length, rfl, Nat.zero_le _, F1, ρ, es, S.step s1, Same.refl _, RpL.mono s1.ff _ _ hr, e2⟩, fun i m ys σ2 H2 ⟨em, hi, F2, ρ2, es2, S2, sm, hr2, hw⟩ => ?_⟩
  subst em
  by_cases hlt : i < ds.length
  · right
    obtain ⟨_, jg⟩ := jd i F2 H2 sm S2.en.fh
    obtain ⟨go, yl⟩ := jg ds[i] (List.getElem?_eq_getElem hlt)
    rw [List.drop_eq_getElem_cons hlt] at hw
    unfold forY at hw
    obtain ⟨ρ3, c1, c2⟩ := bind_some hw
    obtain ⟨r3, c3, c4⟩ := bind_some c2
    refine ⟨go, fun ys σ H => i + 1 ≤ ds.length ∧ ∃ F2 ρ es, Sn X.K C O F0 H0 F2 H σ ρ ∧ Same F1 F2 ∧ RpL X.K C F2 es ys ∧ forY gg f (ds.drop (i + 1)) es ρ = some r, fun ys' σ' H' q => ⟨ds.length - (i + 1), by omega, rfl, q⟩, fun x H3 y => ?_⟩
    obtain ⟨F3, s3, r3'⟩ := yl x H3 y
    refine ⟨F3, ρ2, ds[i], ρ3, S2.en.step s3, r3', c1, fun σ4 E4 bar kp => ⟨F0, H0, F3, ρ3, es2, r3, (S2.step s3).keep E4 kp, RpL.mono s3.ff _ _ hr2, c3, ?_⟩⟩
    exact fun σ' F' H' ys' S' sm' hr' => ⟨hlt, F', r3.1, r3.2, S', sm.trans (s3.ff.trans sm'), hr', c4⟩
  · left
    have ei : i = ds.length := by omega
    subst ei
    obtain ⟨js, _⟩ := jd ds.length F2 H2 sm S2.en.fh
    rw [List.drop_length] at hw
    cases hw
    exact ⟨js rfl, k σ2 F2 H2 ys S2 (s1.ff.trans sm) hr2⟩
end
def runY (n a : Nat) (f : DY) : List D → Option (List D) := fun ds => if ds.length = a then (f [] (ds.map some ++ List.replicate (n - a) none)).bind fun r => some r.2 else none
def spG (K : PySem.W.Frag) (C : Addr) (m : List D → Option (List D)) : SpG := fun vs H cont _ => ∃ F ds out, Same F H ∧ RpL K C F ds vs ∧ m ds = some out ∧ ∀ ys F' H', Stp F H F' H' → RpL K C F' out ys → cont ys H'
structure MethG (P : Program) (w : World) (K : PySem.W.Frag) (mg : Str → Option Value) (base : Heap) (C : Addr) (k : Nat) (m : Str) (ps : List Str) (mm : List D → Option (List D)) : Prop where
  ex : ∃ f fd, Meth K C m f ∧ GFn P w K mg base k f fd ps (spG K C mm) ∧ Binds K fd ps []
section
variable {P : Program} {w : World} {K : PySem.W.Frag} {mg : Str → Option Value} {base : Heap} {C : Addr}
theorem gfnD {x qual : Str} {st : Stmt} {f : Addr} {fd : FuncData} {N ps : List Str} {k : Nat} {O' : List Nat} {body : DY} (F : Fun K x qual st f fd) (S : GScope N ps (defScope st)) (hl : ps.length ≤ N.length)
    (h : ∀ (cdv : Value) (A : Around) (outer : List Env) (s : Shared) (H : Hp) (E : XK) (pn : List (Addr × Obj)), Room k (A.deeper (envOfC qual (defScope st) s.heap.objs.size f cdv)) → DYs (gcxOf P w K mg base N qual (defScope st) f cdv A outer s H E pn) C [] O' (defBody st) body) :
    GFn P w K mg base (k + 1) f fd ps (spG K C (runY N.length ps.length body)) := by
  have ln : ∀ vs H Q E, spG K C (runY N.length ps.length body) vs H Q E → vs.length = ps.length := fun vs H Q E ⟨F, ds, d, fh, r, hm, _⟩ => by
    unfold runY at hm
    split at hm
    · rename_i hz
      rw [← r.len]
      exact hz
    · cases hm
  obtain ⟨oc, od, kV, doc, pm, an, cdv, ct, osl, rfl, lk, hcd⟩ := F.ex
  refine gfn_of lk hcd S ln fun A outer s H vs Q E pn hr hsp => ⟨_, h cdv A outer s H E pn hr, ?_⟩
  have lv := ln vs H Q E hsp
  obtain ⟨F1, ds, out, fh, r, hm, g⟩ := hsp
  unfold runY at hm
  split at hm
  · rename_i hz
    obtain ⟨r1, e1, e2⟩ := bind_some hm
    cases e2
    refine ⟨F1, H, F1, _, [], r1, ⟨⟨fh, ?_, fun i d hi q => ?_, fun i d hi _ => absurd hi (List.not_mem_nil), fun i j d e p hi _ _ _ _ _ => absurd hi (List.not_mem_nil)⟩, Stp.refl fh, fun i d p hi _ _ => absurd hi (List.not_mem_nil)⟩, RpL.nil, e1, ?_⟩
    · unfold L2.start
      rw [List.length_append, List.length_append, List.length_map, List.length_map, List.length_replicate, List.length_replicate, lv, hz]
    · have q1 := lk_app q
      obtain ⟨v, h1, h2⟩ := RpL.get r q1
      exact ⟨v, start_get h1, h2⟩
    · exact fun σ' F' H' ys S' _ hr' => g ys F' H' S'.sp hr'
  · cases hm
end
def opLG (mm : List D → Option (List D)) : List D → Option D := fun ds => match ds with
  | .bell ps :: r => (mm (.bell ps :: r)).bind fun out => some (.lst out)
  | _ => none
section
variable {X : Cx} {C : Addr} {O : List Nat} {e a : Expr} {es : List Expr} {f : DF} {fs : DFs} {apos pos pos' p : Pos} {m : Str} {k j : Nat} {ps : List Str} {mm : List D → Option (List D)} {pl : Sem Bool}
theorem nostop0 {K : PySem.W.Frag} : NoStop K E0 := fun _ _ _ h => h.elim
theorem passCX0 : Passes (CX X.prog X.w) X E0 := fun _ _ _ _ _ _ _ h => by
  obtain ⟨a, B, H', cls, d, z1, fl, z2, ub, z3, z4, z5, z6⟩ := h
  exact z6.elim
theorem de_listG (cl : Cls X.K C) (M : MethG X.prog X.w X.K X.mg X.base C k m ps mm) (hr : Room j X.A) (hg : Gl X "list") (hmg : X.mg "list" = none) (he : DE X C O e f) (ha : DA X C O (a :: es) fs) (hk : k + 3 ≤ j := by decide) (hm : (m == ("row" : Str)) = false := by decide)
    (hst : starEach (a :: es) X.env = (false, eval a X.env) :: starEach es X.env := by rfl) (hpl : (backTo pos' (starEach es X.env)).any (·.1) = false := by rfl)
    (ht : eval (.Call (.Attribute e m apos) (a :: es) [] pos') X.env = (do
      let ov ← eval e X.env
      standAt apos.atName
      let (f, first) ← holding [ov] (getMethod ov m pl)
      callWith pos' f first (backTo pos' (starEach (a :: es) X.env)) (backToKw pos' (keywordEach [] X.env))) := by rfl)
    (hst1 : starEach [.Call (.Attribute e m apos) (a :: es) [] pos'] X.env = (false, eval (.Call (.Attribute e m apos) (a :: es) [] pos') X.env) :: starEach [] X.env := by rfl) :
    DE X C O (.Call (.Name "list" p) [.Call (.Attribute e m apos) (a :: es) [] pos'] [] pos) (dL (opLG mm) (dcons f fs)) := by
  obtain ⟨g, fd, hmeth, F0, hb⟩ := M.ex
  refine PEw (pe_listG (E := E0) (pgen_meth he cl hmeth F0 (hr.mono (Nat.le_trans (Nat.le_add_right k 3) hk)) hb .nil ha hst hpl ht) passCX0 nostop0 (hr.mono hk) hg hmg bt_list (by decide) (by decide) hst1) fun σ H Q ⟨F, ρ, d, E, hf, kk⟩ => ?_
  obtain ⟨ds, q1, q2⟩ := bind_some hf
  obtain ⟨x, q3, q4⟩ := bind_some q1
  obtain ⟨xs, q5, q6⟩ := bind_some q4
  cases q6
  refine ⟨F, ρ, x, E, q3, fun v F1 H1 s1 r1 => ?_⟩
  cases x with
  | bell qs =>
    obtain ⟨out, q7, q8⟩ := bind_some q2
    cases q8
    obtain ⟨b, dx, t, rfl, hb1, ht1⟩ := r1
    refine ⟨b, dx, _, rfl, s1.fh _ _ hb1, by simp only [List.lookup, hm], F1, ρ, xs, E.step s1, q5, fun vs F2 H2 s2 r2 => ?_⟩
    refine ⟨F2, .bell qs :: xs, out, s2.fh, ?_, q7, fun ys F3 H3 s3 r3 p hp => ?_⟩
    · rw [List.append_nil]
      exact RpL.cons (Rp.mono s2.ff _ _ (show Rp X.K C F1 (.bell qs) (.ref b) from ⟨b, dx, t, rfl, hb1, ht1⟩)) r2
    · have s4 := Stp.new (o := .lst ys) s3.fh hp
      exact kk _ _ _ (s1.trans (s2.trans (s3.trans s4))) ⟨p, ys, rfl, upd_same, RpL.mono s4.ff _ _ r3⟩
  | _ => cases q2
end
end DL
namespace Mi
open DL
def m_gcd_b1 : DS := (dPar 0 1 (dv 1) (d2 opMod (dv 0) (dv 1)))
def m_gcd : List D → Option D := runD 2 2 ((dSeq (dWhile (bV (d2 opGt (dv 1) (dc (.int 0)))) m_gcd_b1)
    (dRet (dv 0))))
def m_lcm : List D → Option D := runD 2 2 ((dRet (d2 opMul (d2 opFdiv (dv 0) (dL m_gcd (dcons (dv 0) (dcons (dv 1) dnil)))) (dv 1))))
def m_law_cell : List D → Option D := runD 2 2 ((dSeq (dIfS (bV (d2 opLt (dv 1) (dL opLen (dcons (dv 0) dnil)))) (dRet (d2 opIx (dv 0) (dv 1))) dNx)
    (dSeq (dIfS (bV (d2 opEq (dL opLen (dcons (dv 0) dnil)) (dc (.int 0)))) (dRet (d2 opAdd (d2 opMul (dc (.int 7919)) (dv 1)) (dc (.int 101)))) dNx)
    (dRet (d2 opAdd (d2 opMod (d2 opIx (dv 0) (d2 opMod (dv 1) (dL opLen (dcons (dv 0) dnil)))) (dc (.int 1000003))) (d2 opMul (dc (.int 7919)) (dv 1)))))))
def m_law_digits_b1 : DS := (dSeq (dSet 9 (d2 opMul (d2 opMod (dv 5) (d2 opIx (dv 4) (d2 opMod (dv 8) (dc (.int 8))))) (d2 opAdd (dc (.int 48271)) (d2 opMul (d2 opMul (dc (.int 2)) (dv 8)) (dv 8)))))
    (dSeq (dSet 9 (d2 opAdd (d2 opAdd (dv 9) (d2 opMul (d2 opMul (dc (.int 7919)) (d2 opAdd (dv 8) (dc (.int 1)))) (d2 opAdd (dv 8) (dc (.int 1))))) (d2 opMul (dc (.int 104729)) (dv 1))))
    (dSeq (dSet 9 (d2 opMod (dv 9) (d2 opIx (dv 4) (d2 opMod (d2 opAdd (d2 opMul (dc (.int 3)) (dv 8)) (dv 1)) (dc (.int 8))))))
    (dSeq (dSet 9 (d2 opMod (d2 opMul (d2 opMul (dv 9) (dv 9)) (dv 9)) (d2 opIx (dv 4) (d2 opMod (d2 opAdd (dv 8) (dc (.int 5))) (dc (.int 8))))))
    (dSeq (dIfS (bV (d2 opGt (dv 6) (dc (.int 0)))) (dSet 9 (dv 6)) dNx)
    (dSeq (dApp 7 (d2 opMod (dv 9) (dv 3)))
    (dSet 6 (d2 opFdiv (dv 6) (dv 3)))))))))
def m_law_digits : List D → Option D := runD 10 4 ((dSeq (dSet 4 (dL opTup (dcons (dc (.int 2147483647)) (dcons (dc (.int 2147483629)) (dcons (dc (.int 2147483587)) (dcons (dc (.int 2147483579)) (dcons (dc (.int 2147483563)) (dcons (dc (.int 2147483549)) (dcons (dc (.int 2147483543)) (dcons (dc (.int 2147483497)) dnil))))))))))
    (dSeq (dSet 5 (dL m_law_cell (dcons (dv 0) (dcons (dv 1) dnil))))
    (dSeq (dSet 6 (dIf (bV (d2 opGe (dv 5) (d2 opPow (dc (.int 10)) (dc (.int 18))))) (dv 5) (dc (.int 0))))
    (dSeq (dSetN 7 (nLst dnil))
    (dSeq (dFor (iRng1 (dcons (dv 2) dnil)) (gN 8) m_law_digits_b1)
    (dRet (dv 7))))))))
end Mi
namespace Mi
open DL
end Mi
namespace Mi
open DL
end Mi
namespace Mi
open DL
end Mi
namespace Mi
open DL
end Mi
namespace Mi
open DL
end Mi
namespace Mi
open DL
end Mi
namespace Mi
open DL
end Mi
namespace Mi
open DL
end Mi
namespace Mi
open DL
end Mi
namespace Mi
open DL
end Mi
namespace Mi
open DL
end Mi
namespace Mi
open DL
end Mi
namespace Mi
open DL
end Mi
namespace Mi
open DL
def m_is_integer : List D → Option D := runD 3 3 ((dRet (dAnd (d1 (opIsi "int") (dv 0)) (dAnd (dNot (d1 (opIsi "bool") (dv 0))) (dCh opLe opLe (dv 1) (dv 0) (dv 2))))))
def m_meetings_c1 : DF := (dComp (iSeq (dv 1)) (gT (gsCons (gN 3) (gsCons (gN 4) gsNil))) bYes (dL opTup (dcons (d2 opAdd (dv 3) (dc (.int 1))) (dcons (dL m_lcm (dcons (dv 4) (dcons (dv 2) dnil))) dnil))) [3, 4])
def m_meetings_b1 : DS := (dSet 1 (d2 opAdd (dv 1) m_meetings_c1))
def m_meetings : List D → Option D := runD 5 1 ((dSeq (dSet 1 (dL opLst (dcons (dL opTup (dcons (dc (.int 0)) (dcons (dc (.int 1)) dnil))) dnil)))
    (dSeq (dFor (iSeq (d1 opPer (dv 0))) (gN 2) m_meetings_b1)
    (dRet (dv 1)))))
def m_rung_to_b1 : DS := (dIfS (bV (d2 opGt (dv 3) (dc (.int 0)))) (dSet 2 (d2 opAdd (dv 2) (d2 opMul (d2 opAdd (d2 opFdiv (dv 1) (dv 4)) (dc (.int 1))) (dIf (bV (d2 opEq (d2 opMod (dv 3) (dc (.int 2))) (dc (.int 1)))) (dc (.int 1)) (d1 opNeg (dc (.int 1))))))) dNx)
def m_rung_to : List D → Option D := runD 5 2 ((dSeq (dSet 2 (dc (.int 0)))
    (dSeq (dFor (iSeq (dv 0)) (gT (gsCons (gN 3) (gsCons (gN 4) gsNil))) m_rung_to_b1)
    (dRet (dv 2)))))
def m_count_rings : List D → Option D := runD 4 3 ((dSeq (dSet 3 (dL m_meetings (dcons (dv 0) dnil)))
    (dRet (dIf (bV (d2 opLe (dv 1) (dv 2))) (dL opMax (dcons (dc (.int 0)) (dcons (d2 opSub (dL m_rung_to (dcons (dv 3) (dcons (dv 2) dnil))) (dL m_rung_to (dcons (dv 3) (dcons (d2 opSub (dv 1) (dc (.int 1))) dnil)))) dnil))) (dc (.int 0))))))
def m_law_bells_b1 : DS := (dSet 2 (d2 opAdd (dv 2) (dL opTup (dcons (d2 opAdd (dc (.int 1)) (d2 opMod (d2 opIx (dv 0) (d2 opAdd (dc (.int 1)) (dv 3))) (d2 opIx (dL opLst (dcons (dc (.int 6)) (dcons (dc (.int 12)) (dcons (dv 1) dnil)))) (d2 opMod (d2 opIx (dv 0) (dc (.int 7))) (dc (.int 3)))))) dnil))))
def m_law_bells : List D → Option D := runD 4 2 ((dSeq (dSet 2 (dL opTup dnil))
    (dSeq (dFor (iRng1 (dcons (d2 opAdd (dc (.int 1)) (d2 opMod (d2 opIx (dv 0) (dc (.int 0))) (dc (.int 5)))) dnil)) (gN 3) m_law_bells_b1)
    (dRet (dv 2)))))
def m_law_tower : List D → Option D := runD 1 1 ((dSeq (dIfS (bV (d2 opEq (dL opLen (dcons (dv 0) dnil)) (dc (.int 1)))) (dRet (dL opBells (dcons (d2 opIx (dv 0) (dc (.int 0))) dnil))) dNx)
    (dSeq (dIfS (bV (d2 opEq (dL opLen (dcons (dv 0) dnil)) (dc (.int 2)))) (dRet (dL opBells (dcons (d2 opIx (dv 0) (dc (.int 0))) (dcons (d2 opIx (dv 0) (dc (.int 1))) dnil)))) dNx)
    (dSeq (dIfS (bV (d2 opEq (dL opLen (dcons (dv 0) dnil)) (dc (.int 3)))) (dRet (dL opBells (dcons (d2 opIx (dv 0) (dc (.int 0))) (dcons (d2 opIx (dv 0) (dc (.int 1))) (dcons (d2 opIx (dv 0) (dc (.int 2))) dnil))))) dNx)
    (dSeq (dIfS (bV (d2 opEq (dL opLen (dcons (dv 0) dnil)) (dc (.int 4)))) (dRet (dL opBells (dcons (d2 opIx (dv 0) (dc (.int 0))) (dcons (d2 opIx (dv 0) (dc (.int 1))) (dcons (d2 opIx (dv 0) (dc (.int 2))) (dcons (d2 opIx (dv 0) (dc (.int 3))) dnil)))))) dNx)
    (dRet (dL opBells (dcons (d2 opIx (dv 0) (dc (.int 0))) (dcons (d2 opIx (dv 0) (dc (.int 1))) (dcons (d2 opIx (dv 0) (dc (.int 2))) (dcons (d2 opIx (dv 0) (dc (.int 3))) (dcons (d2 opIx (dv 0) (dc (.int 4))) dnil))))))))))))
def m_law_ringing_c1 : DF := (dComp (iEn (dcons (dv 0) dnil)) (gT (gsCons (gN 2) (gsCons (gN 3) gsNil))) (bV (d2 opEq (d2 opMod (dL opInt (dcons (dv 1) dnil)) (dv 3)) (dc (.int 0)))) (dv 2) [2, 3])
def m_law_ringing : List D → Option D := runD 4 2 ((dRet (dL opTuple (dcons m_law_ringing_c1 dnil))))
def m_init_c1 : DF := (dComp (iSeq (dv 1)) (gN 2) bYes (dL m_is_integer (dcons (dv 2) (dcons (dc (.int 1)) (dcons (dc (.int 1000)) dnil)))) [2])
def m_init_t : DB := (bOr (bNot (bV (dCh opLe opLe (dc (.int 1)) (dL opLen (dcons (dv 1) dnil)) (dc (.int 5))))) (bNot (bV (dL opAll (dcons m_init_c1 dnil)))))
end Mi
namespace Mi
open DL
def m_B_together_b1 : DS := (dSet 1 (dL m_lcm (dcons (dv 1) (dcons (dv 2) dnil))))
def m_B_together : List D → Option D := runD 3 1 ((dSeq (dSet 1 (dc (.int 1)))
    (dSeq (dFor (iSeq (d1 opPer (dv 0))) (gN 2) m_B_together_b1)
    (dRet (dv 1)))))
end Mi
namespace Mi
open DL
def m_ring_at_b1 : DS := (dSeq (dSet 5 (d2 opFdiv (d2 opAdd (dv 3) (dv 4)) (dc (.int 2))))
    (dIfS (bV (d2 opGt (dL m_rung_to (dcons (dv 2) (dcons (dv 5) dnil))) (dv 1))) (dSet 4 (dv 5)) (dSet 3 (d2 opAdd (dv 5) (dc (.int 1))))))
def m_ring_at : List D → Option D := runD 6 2 ((dSeq (dSet 2 (dL m_meetings (dcons (dv 0) dnil)))
    (dSeq (dPar 3 4 (dc (.int 0)) (d2 opMul (dv 1) (dL opMinT (dcons (d1 opPer (dv 0)) dnil))))
    (dSeq (dWhile (bV (d2 opLt (dv 3) (dv 4))) m_ring_at_b1)
    (dRet (dv 3))))))
end Mi
namespace Mi
open DL
end Mi
namespace Mi
open DL
def m_B_rings_c1 : DF := (dComp (iSeq (d1 opPer (dv 0))) (gN 5) bYes (d2 opMul (d2 opAdd (d2 opFdiv (dv 3) (dv 5)) (dc (.int 1))) (dv 5)) [5])
def m_B_rings_y1 : DY := (ySeq (yPl (dSet 3 (dL opMin (dcons m_B_rings_c1 dnil))))
    (ySeq (yOut (dv 3))
    yNx))
def m_B_rings : List D → Option (List D) := runY 6 3 ((ySeq (yPl (dIfS (bOr (bNot (bV (dL m_is_integer (dcons (dv 1) (dcons (dc (.int 0)) (dcons (d2 opPow (dc (.int 10)) (dc (.int 15))) dnil)))))) (bNot (bV (dL m_is_integer (dcons (dv 2) (dcons (dc (.int 0)) (dcons (dc (.int 100)) dnil))))))) dFail dNx))
    (ySeq (yPl (dSet 3 (dv 1)))
    (ySeq (yFor (iRng1 (dcons (dv 2) dnil)) (gN 4) m_B_rings_y1)
    yNx))))
def m_k27_c1 : DF := (dComp (iRng1 (dcons (dc (.int 400)) dnil)) (gN 7) (bV (d2 opNe (dL m_law_ringing (dcons (dv 3) (dcons (dv 7) dnil))) (dL opTup dnil))) (dv 7) [7])
def m_k27_c2 : DF := (dComp (iRng1 (dcons (dL opMin (dcons (dL opLen (dcons (dv 5) dnil)) (dcons (dc (.int 12)) dnil))) dnil)) (gN 6) bYes (dL m_ring_at (dcons (dv 4) (dcons (dv 6) dnil))) [6])
def m_k27_b1 : DS := (dSeq (dSet 7 (dL m_ring_at (dcons (dv 4) (dcons (dv 6) dnil))))
    (dSeq (dIfS (bOr (bV (d2 opEq (dL m_law_ringing (dcons (dv 3) (dcons (dv 7) dnil))) (dL opTup dnil))) (bV (d2 opGt (dv 7) (d2 opMul (dv 6) (dL opMinT (dcons (dv 3) dnil)))))) (dRet (dc (.bl false))) dNx)
    (dSeq (dIfS (bAnd (bV (d2 opLe (dv 7) (d2 opPow (dc (.int 10)) (dc (.int 15))))) (bV (d2 opNe (dL m_count_rings (dcons (dv 4) (dcons (dc (.int 0)) (dcons (dv 7) dnil)))) (d2 opAdd (dv 6) (dc (.int 1)))))) (dRet (dc (.bl false))) dNx)
    (dIfS (bAnd (bV (d2 opLt (dv 7) (d2 opPow (dc (.int 10)) (dc (.int 15))))) (bV (d2 opLt (dv 6) (d2 opPow (dc (.int 10)) (dc (.int 12)))))) (dIfS (bV (d2 opNe (dL (opLG m_B_rings) (dcons (dv 4) (dcons (dv 7) (dcons (dc (.int 1)) dnil)))) (dL opLst (dcons (dL m_ring_at (dcons (dv 4) (dcons (d2 opAdd (dv 6) (dc (.int 1))) dnil))) dnil)))) (dRet (dc (.bl false))) dNx) dNx))))
def m_k27_b2 : DS := (dSeq (dSet 2 (dL m_law_digits (dcons (dv 0) (dcons (dv 1) (dcons (dc (.int 40)) (dcons (dc (.int 27720)) dnil))))))
    (dSeq (dSet 3 (dL m_law_bells (dcons (dv 2) (dcons (dc (.int 1000)) dnil))))
    (dSeq (dSet 4 (dL m_law_tower (dcons (dv 3) dnil)))
    (dSeq (dSet 5 m_k27_c1)
    (dSeq (dIfS (bV (d2 opNe m_k27_c2 (dSl (dv 5) oNo (oIx (dc (.int 12)))))) (dRet (dc (.bl false))) dNx)
    (dSeq (dFor (iSeq (dL opTup (dcons (d2 opIx (dv 2) (dc (.int 10))) (dcons (d2 opMul (d2 opMul (d2 opIx (dv 2) (dc (.int 11))) (dc (.int 27720))) (dc (.int 1300))) (dcons (d2 opSub (d2 opPow (dc (.int 10)) (dc (.int 12))) (d2 opIx (dv 2) (dc (.int 12)))) dnil))))) (gN 6) m_k27_b1)
    (dSeq (dSet 8 (dL (opM m_B_together) (dcons (dv 4) dnil)))
    (dIfS (bV (d2 opLe (dv 8) (d2 opPow (dc (.int 10)) (dc (.int 10))))) (dSeq (dSet 9 (dL m_count_rings (dcons (dv 4) (dcons (dc (.int 0)) (dcons (d2 opSub (dv 8) (dc (.int 1))) dnil)))))
    (dIfS (bV (d2 opLe (d2 opAdd (dv 9) (d2 opIx (dv 2) (dc (.int 13)))) (d2 opPow (dc (.int 10)) (dc (.int 12))))) (dIfS (bV (d2 opNe (dL m_ring_at (dcons (dv 4) (dcons (d2 opAdd (dv 9) (d2 opIx (dv 2) (dc (.int 13)))) dnil))) (d2 opAdd (dv 8) (dL m_ring_at (dcons (dv 4) (dcons (d2 opIx (dv 2) (dc (.int 13))) dnil)))))) (dRet (dc (.bl false))) dNx) dNx)) dNx))))))))
def m_k27_c3 : DF := (dComp (iRng1 (dcons (dc (.int 6)) dnil)) (gN 6) bYes (dL m_ring_at (dcons (dL opBells (dcons (dc (.int 4)) (dcons (dc (.int 6)) dnil))) (dcons (dv 6) dnil))) [6])
def m_k27 : List D → Option D := runD 10 1 ((dSeq (dFor (iRng1 (dcons (dc (.int 8)) dnil)) (gN 1) m_k27_b2)
    (dSeq (dIfS (bV (d2 opNe m_k27_c3 (dL opLst (dcons (dc (.int 0)) (dcons (dc (.int 4)) (dcons (dc (.int 6)) (dcons (dc (.int 8)) (dcons (dc (.int 12)) (dcons (dc (.int 16)) dnil))))))))) (dRet (dc (.bl false))) dNx)
    (dRet (d2 opEq (dL m_ring_at (dcons (dL opBells (dcons (dc (.int 7)) dnil)) (dcons (d2 opPow (dc (.int 10)) (dc (.int 12))) dnil))) (d2 opMul (dc (.int 7)) (d2 opPow (dc (.int 10)) (dc (.int 12)))))))))
end Mi
namespace Mi
open DL
def bnd {α β : Type} (x : Option α) (f : α → Option β) : Option β := x.bind f
@[simp] theorem bnd_some {α β : Type} (x : α) (f : α → Option β) : bnd (some x) f = f x := (rfl)
@[simp] theorem bnd_none {α β : Type} (f : α → Option β) : bnd none f = none := (rfl)
section
variable {ρ : Rho} {x y z : D}
@[simp] theorem p_dc : dc x ρ = some x := (rfl)
@[simp] theorem p_dv (i : Nat) : dv i ρ = lk ρ i := (rfl)
@[simp] theorem lk_z (a : Option D) (r : Rho) : lk (a :: r) 0 = a := (rfl)
@[simp] theorem lk_s (a : Option D) (r : Rho) (n : Nat) : lk (a :: r) (n + 1) = lk r n := (rfl)
@[simp] theorem st_z (a : Option D) (r : Rho) : st (a :: r) 0 x = some x :: r := (rfl)
@[simp] theorem st_s (a : Option D) (r : Rho) (n : Nat) : st (a :: r) (n + 1) x = a :: st r n x := (rfl)
@[simp] theorem un_z (a : Option D) (r : Rho) : un (a :: r) 0 = none :: r := (rfl)
@[simp] theorem un_s (a : Option D) (r : Rho) (n : Nat) : un (a :: r) (n + 1) = a :: un r n := (rfl)
@[simp] theorem wipe_n : wipeR ρ [] = ρ := (rfl)
@[simp] theorem wipe_c (v : Nat) (vs : List Nat) : wipeR ρ (v :: vs) = un (wipeR ρ vs) v := (rfl)
@[simp] theorem p_d2 (op : D → D → Option D) (f g : DF) : d2 op f g ρ = bnd (f ρ) fun x => bnd (g ρ) fun y => op x y := (rfl)
@[simp] theorem p_d1 (op : D → Option D) (f : DF) : d1 op f ρ = bnd (f ρ) op := (rfl)
@[simp] theorem p_dnil : dnil ρ = some [] := (rfl)
@[simp] theorem p_dcons (f : DF) (g : DFs) : dcons f g ρ = bnd (f ρ) fun x => bnd (g ρ) fun xs => some (x :: xs) := (rfl)
@[simp] theorem p_dL (op : List D → Option D) (f : DFs) : dL op f ρ = bnd (f ρ) op := (rfl)
@[simp] theorem p_asB (b : Bool) : asB (.bl b) = some b := (rfl)
@[simp] theorem p_asI (b : Int) : asI (.int b) = some b := (rfl)
@[simp] theorem p_asL (b : List D) : asL (.lst b) = some b := (rfl)
@[simp] theorem p_asSeqL (b : List D) : asSeq (.lst b) = some b := (rfl)
@[simp] theorem p_asSeqT (b : List D) : asSeq (.tup b) = some b := (rfl)
@[simp] theorem p_bV (f : DF) : bV f ρ = bnd (f ρ) asB := (rfl)
@[simp] theorem p_dB (g : DB) : dB g ρ = bnd (g ρ) fun b => some (.bl b) := (rfl)
@[simp] theorem p_bAnd (g h : DB) : bAnd g h ρ = bnd (g ρ) fun b => if b = true then h ρ else some false := (rfl)
@[simp] theorem p_bOr (g h : DB) : bOr g h ρ = bnd (g ρ) fun b => if b = true then some true else h ρ := (rfl)
@[simp] theorem p_bNot (g : DB) : bNot g ρ = bnd (g ρ) fun b => some (!b) := (rfl)
@[simp] theorem p_dIf (g : DB) (f h : DF) : dIf g f h ρ = bnd (g ρ) fun b => if b = true then f ρ else h ρ := (rfl)
@[simp] theorem p_dAnd (f g : DF) : dAnd f g ρ = bnd (f ρ) fun x => bnd (asB x) fun b => if b = true then g ρ else some (.bl false) := (rfl)
@[simp] theorem p_dOr (f g : DF) : dOr f g ρ = bnd (f ρ) fun x => bnd (asB x) fun b => if b = true then some (.bl true) else g ρ := (rfl)
@[simp] theorem p_dNot (f : DF) : dNot f ρ = bnd (f ρ) fun x => bnd (asB x) fun b => some (.bl (!b)) := (rfl)
@[simp] theorem p_dCh (o o' : D → D → Option D) (f g h : DF) : dCh o o' f g h ρ = bnd (f ρ) fun x => bnd (g ρ) fun y => bnd (o x y) fun z => bnd (asB z) fun k => if k = true then bnd (h ρ) fun w => o' y w else some (.bl false) := (rfl)
@[simp] theorem p_bYes : bYes ρ = some true := (rfl)
@[simp] theorem p_gN (i : Nat) : gN i x ρ = some (st ρ i x) := (rfl)
@[simp] theorem p_gT (h : DGs) (ds : List D) : gT h (.tup ds) ρ = h ds ρ := (rfl)
@[simp] theorem p_gsNil : gsNil [] ρ = some ρ := (rfl)
@[simp] theorem p_gsCons (g : DG) (h : DGs) (r : List D) : gsCons g h (x :: r) ρ = bnd (g x ρ) (h r) := (rfl)
@[simp] theorem p_dNx : dNx ρ = some (.nx ρ) := (rfl)
@[simp] theorem p_dRet (f : DF) : dRet f ρ = bnd (f ρ) fun d => some (.rt d) := (rfl)
@[simp] theorem p_dSet (i : Nat) (f : DF) : dSet i f ρ = bnd (f ρ) fun d => some (.nx (st ρ i d)) := (rfl)
@[simp] theorem p_dIfS (t : DB) (f g : DS) : dIfS t f g ρ = bnd (t ρ) fun b => if b = true then f ρ else g ρ := (rfl)
@[simp] theorem p_dAsg (g : DG) (f : DF) : dAsg g f ρ = bnd (f ρ) fun d => bnd (g d ρ) fun ρ' => some (.nx ρ') := (rfl)
@[simp] theorem p_dPar (i j : Nat) (f g : DF) : dPar i j f g ρ = bnd (f ρ) fun x => bnd (g ρ) fun y => some (.nx (st (st ρ i x) j y)) := (rfl)
@[simp] theorem p_dAug (i : Nat) (f : DF) : dAug i f ρ = bnd (lk ρ i) fun x => bnd (asI x) fun a => bnd (f ρ) fun y => bnd (asI y) fun b => some (.nx (st ρ i (.int (a + b)))) := (rfl)
@[simp] theorem p_dApp (i : Nat) (f : DF) : dApp i f ρ = bnd (f ρ) fun d => bnd (lk ρ i) fun x => bnd (asL x) fun ds => if ds.length < 16777216 then some (.nx (st ρ i (.lst (ds ++ [d])))) else none := (rfl)
@[simp] theorem p_dSetIx (i : Nat) (k f : DF) : dSetIx i k f ρ = bnd (f ρ) fun d => bnd (k ρ) fun j => bnd (asI j) fun n => bnd (lk ρ i) fun x => bnd (asL x) fun ds => bnd (ixNat ds.length n) fun m => some (.nx (st ρ i (.lst (ds.set m d)))) := (rfl)
@[simp] theorem p_nLst (f : DFs) : nLst f ρ = bnd (f ρ) fun ds => if ds.length ≤ 100000 then some ds else none := (rfl)
@[simp] theorem p_nRep (f g : DF) : nRep f g ρ = bnd (f ρ) fun x => bnd (asL x) fun ds => bnd (g ρ) fun y => bnd (asI y) fun k => if k ≤ 16777216 ∧ -16777216 ≤ k ∧ ds.length * k.toNat ≤ 16777216 then some (List.replicate k.toNat ds).flatten else none := (rfl)
@[simp] theorem p_nOf (f : DF) : nOf f ρ = bnd (f ρ) asSeq := (rfl)
@[simp] theorem p_dSetN (i : Nat) (f : DFs) : dSetN i f ρ = bnd (f ρ) fun ds => some (.nx (st ρ i (.lst ds))) := (rfl)
@[simp] theorem p_dParN1 (i j : Nat) (f : DFs) (g : DF) : dParN1 i j f g ρ = bnd (f ρ) fun ds => bnd (g ρ) fun y => some (.nx (st (st ρ i (.lst ds)) j y)) := (rfl)
@[simp] theorem p_dParNN (i j : Nat) (f g : DFs) : dParNN i j f g ρ = bnd (f ρ) fun ds => bnd (g ρ) fun es => some (.nx (st (st ρ i (.lst ds)) j (.lst es))) := (rfl)
@[simp] theorem p_iSeq (f : DF) : iSeq f ρ = bnd (f ρ) asSeq := (rfl)
@[simp] theorem p_iRng1 (f : DFs) : iRng1 f ρ = bnd (f ρ) opRng1 := (rfl)
@[simp] theorem p_iRng2 (f : DFs) : iRng2 f ρ = bnd (f ρ) opRng2 := (rfl)
@[simp] theorem p_oNo : oNo ρ = some none := (rfl)
@[simp] theorem p_oIx (f : DF) : oIx f ρ = bnd (f ρ) fun d => bnd (asIx d) fun i => some (some i) := (rfl)
@[simp] theorem p_dSl (f : DF) (l u : DOx) : dSl f l u ρ = bnd (f ρ) fun x => bnd (l ρ) fun lo => bnd (u ρ) fun hi => opSl lo hi x := (rfl)
@[simp] theorem p_asIx (i : Int) : asIx (.int i) = some i := (rfl)
@[simp] theorem p_opTup (ds : List D) : opTup ds = if ds.length ≤ 100000 then some (.tup ds) else none := (rfl)
@[simp] theorem p_opLst (ds : List D) : opLst ds = if ds.length ≤ 100000 then some (.lst ds) else none := (rfl)
@[simp] theorem p_lenT (ds : List D) : opLen [.tup ds] = some (.int ds.length) := (rfl)
@[simp] theorem p_lenL (ds : List D) : opLen [.lst ds] = some (.int ds.length) := (rfl)
@[simp] theorem p_lenS (ds : List Int) : opLen [.scr ds] = some (.int ds.length) := (rfl)
@[simp] theorem p_tupT (ds : List D) : opTuple [.tup ds] = some (.tup ds) := (rfl)
@[simp] theorem p_tupL (ds : List D) : opTuple [.lst ds] = some (.tup ds) := (rfl)
@[simp] theorem p_add (a b : Int) : opAdd (.int a) (.int b) = some (.int (a + b)) := (rfl)
@[simp] theorem p_sub (a b : Int) : opSub (.int a) (.int b) = some (.int (a - b)) := (rfl)
@[simp] theorem p_mul (a b : Int) : opMul (.int a) (.int b) = if mulOk a b = true then some (.int (a * b)) else none := (rfl)
@[simp] theorem p_lt (a b : Int) : opLt (.int a) (.int b) = some (.bl (decide (a < b))) := (rfl)
@[simp] theorem p_le (a b : Int) : opLe (.int a) (.int b) = some (.bl (decide (a ≤ b))) := (rfl)
@[simp] theorem p_gt (a b : Int) : opGt (.int a) (.int b) = some (.bl (decide (b < a))) := (rfl)
@[simp] theorem p_ge (a b : Int) : opGe (.int a) (.int b) = some (.bl (decide (b ≤ a))) := (rfl)
@[simp] theorem p_eqI (a b : Int) : opEq (.int a) (.int b) = some (.bl (decide (a = b))) := by
  by_cases h : a = b <;> simp [opEq, okD, eqD, h]
@[simp] theorem p_neI (a b : Int) : opNe (.int a) (.int b) = some (.bl (!decide (a = b))) := by
  by_cases h : a = b <;> simp [opNe, okD, eqD, h]
theorem dec_cast {p q : Prop} [Decidable p] [Decidable q] (h : p ↔ q) : some (D.bl (decide p)) = some (D.bl (decide q)) := by simp only [h]
@[simp high] theorem p_eqN (a b : Nat) : opEq (.int (a : Int)) (.int (b : Int)) = some (.bl (decide (a = b))) := by rw [p_eqI]; exact dec_cast (by omega)
@[simp high] theorem p_neN (a b : Nat) : opNe (.int (a : Int)) (.int (b : Int)) = some (.bl (!decide (a = b))) := by
  rw [p_neI]
  have : ((a : Int) = (b : Int)) ↔ a = b := by omega
  simp only [this]
@[simp high] theorem p_ltN (a b : Nat) : opLt (.int (a : Int)) (.int (b : Int)) = some (.bl (decide (a < b))) := by rw [p_lt]; exact dec_cast (by omega)
@[simp high] theorem p_leN (a b : Nat) : opLe (.int (a : Int)) (.int (b : Int)) = some (.bl (decide (a ≤ b))) := by rw [p_le]; exact dec_cast (by omega)
@[simp high] theorem p_gtN (a b : Nat) : opGt (.int (a : Int)) (.int (b : Int)) = some (.bl (decide (b < a))) := by rw [p_gt]; exact dec_cast (by omega)
@[simp high] theorem p_geN (a b : Nat) : opGe (.int (a : Int)) (.int (b : Int)) = some (.bl (decide (b ≤ a))) := by rw [p_ge]; exact dec_cast (by omega)
@[simp] theorem p_isN (d : D) : opIs d .non = some (.bl (isNone d)) := by cases d <;> rfl
@[simp] theorem p_isnN (d : D) : opIsNot d .non = some (.bl (!isNone d)) := by cases d <;> rfl
@[simp] theorem p_isB (a b : Bool) : opIs (.bl a) (.bl b) = some (.bl (decide (a = b))) := (rfl)
@[simp] theorem p_isnB (a b : Bool) : opIsNot (.bl a) (.bl b) = some (.bl (!decide (a = b))) := (rfl)
@[simp] theorem p_isNone_n : isNone .non = true := (rfl)
@[simp] theorem p_isNone_i (i : Int) : isNone (.int i) = false := (rfl)
@[simp] theorem p_isNone_t (i : List D) : isNone (.tup i) = false := (rfl)
@[simp] theorem p_isNone_l (i : List D) : isNone (.lst i) = false := (rfl)
@[simp] theorem p_appL (a b : List D) : opAdd (.lst a) (.lst b) = if a.length + b.length ≤ 16777216 then some (.lst (a ++ b)) else none := (rfl)
@[simp] theorem p_appT (a b : List D) : opAdd (.tup a) (.tup b) = if a.length + b.length ≤ 16777216 then some (.tup (a ++ b)) else none := (rfl)
end
theorem b_mc {α β : Type} (f : α → β) (a : α) (l : List α) : List.map f (a :: l) = f a :: List.map f l := (rfl)
theorem b_mn {α β : Type} (f : α → β) : List.map f [] = [] := (rfl)
theorem b_ac {α : Type} (a : α) (l r : List α) : (a :: l) ++ r = a :: (l ++ r) := (rfl)
theorem b_an {α : Type} (r : List α) : ([] : List α) ++ r = r := (rfl)
theorem b_rs {α : Type} (n : Nat) (a : α) : List.replicate (n + 1) a = a :: List.replicate n a := (rfl)
theorem b_rz {α : Type} (a : α) : List.replicate 0 a = [] := (rfl)
theorem b_lc {α : Type} (a : α) (l : List α) : (a :: l).length = l.length + 1 := (rfl)
theorem b_ln {α : Type} : ([] : List α).length = 0 := (rfl)
theorem b_it {α : Type} (a b : α) : (if True then a else b) = a := by simp
theorem b_if {α : Type} (a b : α) : (if False then a else b) = b := by simp
theorem b_itt {α : Type} (a b : α) : (if true = true then a else b) = a := by simp
theorem b_iff {α : Type} (a b : α) : (if false = true then a else b) = b := by simp
theorem mod_i {a : Int} {b : Nat} (h : 0 < b) : opMod (.int a) (.int b) = some (.int (a % b)) := by
  have h' : (0 : Int) < b := by omega
  simp only [opMod, if_pos h']
theorem mul_i {a b : Int} (h : -18446744073709551616 < b) (h2 : b < 18446744073709551616) : opMul (.int a) (.int b) = some (.int (a * b)) := by
  have : mulOk a b = true := by simp [mulOk, h, h2]
  simp only [opMul, if_pos this]
theorem mul_j {a b : Int} (h : -18446744073709551616 < a) (h2 : a < 18446744073709551616) : opMul (.int a) (.int b) = some (.int (a * b)) := by
  have : mulOk a b = true := by simp [mulOk, h, h2]
  simp only [opMul, if_pos this]
theorem mod_n {a b : Nat} (h : 0 < b) : opMod (.int a) (.int b) = some (.int ((a % b : Nat) : Int)) := by
  have h' : (0 : Int) < b := by omega
  simp only [opMod, if_pos h']
  try rfl
theorem div_n {a b : Nat} (h : 0 < b) (h2 : b < 18446744073709551616) : opFdiv (.int a) (.int b) = some (.int ((a / b : Nat) : Int)) := by
  have h' : (0 : Int) < b := by omega
  have h3 : (b : Int) < 18446744073709551616 := by omega
  simp only [opFdiv, if_pos (And.intro h' h3)]
  try rfl
theorem mulOk_r {a b : Nat} (h : b < 18446744073709551616) : mulOk a b = true := by
  have h3 : (b : Int) < 18446744073709551616 := by omega
  have h4 : (-18446744073709551616 : Int) < b := by omega
  simp [mulOk, h3, h4]
theorem mul_n {a b : Nat} (h : b < 18446744073709551616) : opMul (.int a) (.int b) = some (.int ((a * b : Nat) : Int)) := by
  simp [mulOk_r h]
theorem ixN {n i : Nat} (h : i < n) : ixNat n (i : Int) = some i := by
  have h1 : (0 : Int) ≤ i := by omega
  have h2 : (i : Int) < n := by omega
  simp [ixNat, h2]
theorem ixT {xs : List D} {i : Nat} {d : D} (h : xs[i]? = some d) : opIx (.tup xs) (.int i) = some d := by
  have hl : i < xs.length := by
    apply Classical.byContradiction
    intro q
    rw [List.getElem?_eq_none (by omega)] at h
    cases h
  simp [opIx, ixN hl, h]
theorem ixL {xs : List D} {i : Nat} {d : D} (h : xs[i]? = some d) : opIx (.lst xs) (.int i) = some d := by
  have hl : i < xs.length := by
    apply Classical.byContradiction
    intro q
    rw [List.getElem?_eq_none (by omega)] at h
    cases h
  simp [opIx, ixN hl, h]
theorem rng1 {n : Nat} (h : n < 4611686018427387904) : opRng1 [.int n] = some ((List.range n).map fun (i : Nat) => D.int i) := by
  have h1 : (-4611686018427387904 : Int) ≤ n := by omega
  have h2 : (n : Int) < 4611686018427387904 := by omega
  simp [opRng1, h1, h2, rngD]
theorem enum_range {m : Nat} (f : Nat → D) : enumD ((List.range m).map f) = (List.range m).map fun i => .tup [.int (i : Nat), f i] := by
  unfold enumD
  apply List.ext_getElem
  · simp
  · intro i h1 h2
    simp
theorem p_iEnT {fs : DFs} {ρ : Rho} {xs : List D} (h : fs ρ = some [.tup xs]) : iEn fs ρ = some (enumD xs) := by simp [iEn, h]
theorem seq_nx {f g : DS} {ρ ρ' : Rho} (h : f ρ = some (.nx ρ')) : dSeq f g ρ = g ρ' := by simp [dSeq, h]
@[simp] theorem p_dSeq (f g : DS) (ρ : Rho) : dSeq f g ρ = bnd (f ρ) fun r => match r with
  | .nx ρ' => g ρ'
  | .rt d => some (.rt d) := (rfl)
theorem run_rt {n a : Nat} {f : DS} {ds : List D} {d : D} (hl : ds.length = a) (h : f (ds.map some ++ List.replicate (n - a) none) = some (.rt d)) : runD n a f ds = some d := by
  simp [runD, hl, h]
theorem for_eq {it : DFs} {g : DG} {b : DS} {ρ : Rho} {ds : List D} (h : it ρ = some ds) : dFor it g b ρ = forL g b ds ρ := by simp [dFor, h]
theorem for_fold {α β : Type} {g : DG} {b : DS} (e : α → D) (P : β → Rho → Prop) (f : β → α → β) : ∀ (xs : List α) (a : β) (ρ : Rho),
    (∀ x ∈ xs, ∀ a ρ, P a ρ → ∃ ρ1, g (e x) ρ = some ρ1 ∧ ∃ ρ2, b ρ1 = some (.nx ρ2) ∧ P (f a x) ρ2) → P a ρ → ∃ ρ', forL g b (xs.map e) ρ = some (.nx ρ') ∧ P (xs.foldl f a) ρ'
  | [], a, ρ, _, h => ⟨ρ, rfl, h⟩
  | x :: xs, a, ρ, hs, h => by
    obtain ⟨ρ1, h1, ρ2, h2, h3⟩ := hs x List.mem_cons_self a ρ h
    obtain ⟨ρ', h4, h5⟩ := for_fold e P f xs (f a x) ρ2 (fun y hy => hs y (List.mem_cons_of_mem _ hy)) h3
    exact ⟨ρ', by simp [forL, h1, h2, h4], h5⟩
/-- by an invariant of what is done so far -/
theorem for_pre {α : Type} {g : DG} {b : DS} (e : α → D) (P : List α → Rho → Prop) (xs : List α) {ρ : Rho} (hs : ∀ l x r, xs = l ++ x :: r → ∀ ρ, P l ρ → ∃ ρ1, g (e x) ρ = some ρ1 ∧ ∃ ρ2, b ρ1 = some (.nx ρ2) ∧ P (l ++ [x]) ρ2) (h : P [] ρ) :
    ∃ ρ', forL g b (xs.map e) ρ = some (.nx ρ') ∧ P xs ρ' := by
  have gen : ∀ (r l : List α) (ρ : Rho), xs = l ++ r → P l ρ → ∃ ρ', forL g b (r.map e) ρ = some (.nx ρ') ∧ P xs ρ' := by
    intro r
    induction r with
    | nil =>
      intro l ρ q hp
      rw [List.append_nil] at q
      subst q
      exact ⟨ρ, rfl, hp⟩
    | cons x r ih =>
      intro l ρ q hp
      obtain ⟨ρ1, h1, ρ2, h2, h3⟩ := hs l x r q ρ hp
      obtain ⟨ρ', h4, h5⟩ := ih (l ++ [x]) ρ2 (by rw [q]; simp) h3
      exact ⟨ρ', by rw [List.map_cons]; simp [forL, h1, h2, h4], h5⟩
  exact gen xs [] ρ rfl h
/-- over a range, by an invariant -/
theorem for_range {g : DG} {b : DS} (e : Nat → D) (P : Nat → Rho → Prop) (n : Nat) (hs : ∀ i, i < n → ∀ ρ, P i ρ → ∃ ρ1, g (e i) ρ = some ρ1 ∧ ∃ ρ2, b ρ1 = some (.nx ρ2) ∧ P (i + 1) ρ2) {ρ : Rho} (h : P 0 ρ) :
    ∃ ρ', forL g b ((List.range n).map e) ρ = some (.nx ρ') ∧ P n ρ' := by
  have gen : ∀ (k s : Nat) (ρ : Rho), s + k = n → P s ρ → ∃ ρ', forL g b ((List.range' s k).map e) ρ = some (.nx ρ') ∧ P n ρ' := by
    intro k
    induction k with
    | zero =>
      intro s ρ e hp
      have : s = n := by omega
      subst this
      exact ⟨ρ, rfl, hp⟩
    | succ k ih =>
      intro s ρ e' hp
      obtain ⟨ρ1, h1, ρ2, h2, h3⟩ := hs s (by omega) ρ hp
      obtain ⟨ρ', h4, h5⟩ := ih (s + 1) ρ2 (by omega) h3
      refine ⟨ρ', ?_, h5⟩
      rw [List.range'_succ, List.map_cons]
      simp [forL, h1, h2, h4]
  rw [List.range_eq_range']
  exact gen n 0 ρ (by omega) h
/-- no one returns -/
theorem for_all {α : Type} {g : DG} {b : DS} (e : α → D) (P : Rho → Prop) (xs : List α) (ρ : Rho) (hs : ∀ x ∈ xs, ∀ ρ, P ρ → ∃ ρ1, g (e x) ρ = some ρ1 ∧ ∃ ρ2, b ρ1 = some (.nx ρ2) ∧ P ρ2) (h : P ρ) :
    ∃ ρ', forL g b (xs.map e) ρ = some (.nx ρ') ∧ P ρ' :=
  for_fold e (fun (_ : Unit) ρ => P ρ) (fun a _ => a) xs () ρ (fun x hx _ ρ hP => hs x hx ρ hP) h
theorem while_m {t : DB} {b : DS} (P : Nat → Rho → Prop) (Q : Rho → Prop) (hs : ∀ k ρ, P k ρ → ∃ c, t ρ = some c ∧ (c = true → ∃ k' ρ', k' < k ∧ b ρ = some (.nx ρ') ∧ P k' ρ') ∧ (c = false → Q ρ)) :
    ∀ (n k : Nat) (ρ : Rho), k < n → P k ρ → ∃ ρ', whileN t b n ρ = some (.nx ρ') ∧ Q ρ'
  | 0, k, ρ, hk, _ => by omega
  | n + 1, k, ρ, hk, h => by
    obtain ⟨c, h1, h2, h3⟩ := hs k ρ h
    cases c with
    | false => exact ⟨ρ, by simp [whileN, h1], h3 rfl⟩
    | true =>
      obtain ⟨k', ρ', h4, h5, h6⟩ := h2 rfl
      obtain ⟨ρ2, h7, h8⟩ := while_m P Q hs n k' ρ' (by omega) h6
      exact ⟨ρ2, by simp [whileN, h1, h5, h7], h8⟩
theorem dWhile_m {t : DB} {b : DS} (P : Nat → Rho → Prop) (Q : Rho → Prop) {k : Nat} {ρ : Rho} (h : P k ρ) (hk : k < 1000000000000000000000000000000) (hs : ∀ k ρ, P k ρ → ∃ c, t ρ = some c ∧ (c = true → ∃ k' ρ', k' < k ∧ b ρ = some (.nx ρ') ∧ P k' ρ') ∧ (c = false → Q ρ)) :
    ∃ ρ', dWhile t b ρ = some (.nx ρ') ∧ Q ρ' := by
  unfold dWhile
  exact while_m P Q hs FUEL k ρ (by unfold FUEL; exact hk) h
theorem compL_map {α : Type} {g : DG} {t : DB} {e : DF} {ρ : Rho} (en : α → D) (p : α → Bool) (q : α → D) : ∀ (xs : List α),
    (∀ x ∈ xs, ∃ ρ1, g (en x) ρ = some ρ1 ∧ t ρ1 = some (p x) ∧ (p x = true → e ρ1 = some (q x))) → compL g t e ρ (xs.map en) = some ((xs.filter p).map q)
  | [], _ => rfl
  | x :: xs, hs => by
    obtain ⟨ρ1, h1, h2, h3⟩ := hs x List.mem_cons_self
    have ih := compL_map en p q xs fun y hy => hs y (List.mem_cons_of_mem _ hy)
    cases hp : p x with
    | true => simp [compL, h1, h2, hp, h3 hp, ih]
    | false => simp [compL, h1, h2, hp, ih]
theorem compL_all {α : Type} {g : DG} {e : DF} {ρ : Rho} (en : α → D) (q : α → D) (xs : List α)
    (hs : ∀ x ∈ xs, ∃ ρ1, g (en x) ρ = some ρ1 ∧ e ρ1 = some (q x)) : compL g bYes e ρ (xs.map en) = some (xs.map q) := by
  rw [compL_map en (fun _ => true) q xs fun x hx => by
    obtain ⟨ρ1, h1, h2⟩ := hs x hx
    exact ⟨ρ1, h1, rfl, fun _ => h2⟩]
  rw [List.filter_eq_self.mpr (fun _ _ => rfl)]
/-- a comprehension, without an if -/
theorem comp_all {α : Type} {it : DFs} {g : DG} {e : DF} {vs : List Nat} {ρ : Rho} (en : α → D) (q : α → D) (xs : List α) (hi : it ρ = some (xs.map en)) (hl : xs.length ≤ 16777216)
    (hs : ∀ x ∈ xs, ∃ ρ1, g (en x) (wipeR ρ vs) = some ρ1 ∧ e ρ1 = some (q x)) : dComp it g bYes e vs ρ = some (.lst (xs.map q)) := by
  unfold dComp
  rw [hi]
  simp only [Option.bind_some]
  rw [compL_all en q xs hs]
  simp [lstOk, hl]
theorem comp_if {α : Type} {it : DFs} {g : DG} {t : DB} {e : DF} {vs : List Nat} {ρ : Rho} (en : α → D) (p : α → Bool) (q : α → D) (xs : List α) (hi : it ρ = some (xs.map en)) (hl : xs.length ≤ 16777216)
    (hs : ∀ x ∈ xs, ∃ ρ1, g (en x) (wipeR ρ vs) = some ρ1 ∧ t ρ1 = some (p x) ∧ (p x = true → e ρ1 = some (q x))) : dComp it g t e vs ρ = some (.lst ((xs.filter p).map q)) := by
  unfold dComp
  rw [hi]
  simp only [Option.bind_some]
  rw [compL_map en p q xs hs]
  have : (xs.filter p).length ≤ 16777216 := Nat.le_trans (List.length_filter_le p xs) hl
  simp [lstOk, this]
theorem asBls_map {α : Type} (p : α → Bool) : ∀ xs : List α, asBls (xs.map fun x => .bl (p x)) = some (xs.map p)
  | [] => rfl
  | x :: xs => by simp [asBls, asBls_map p xs]
theorem asInts_map {α : Type} (p : α → Int) : ∀ xs : List α, asInts (xs.map fun x => .int (p x)) = some (xs.map p)
  | [] => rfl
  | x :: xs => by simp [asInts, asInts_map p xs]
theorem okDs_map {α : Type} {n : Nat} (f : α → D) : ∀ l : List α, (∀ x ∈ l, okD n (f x) = true) → okDs n (l.map f) = true
  | [], _ => rfl
  | x :: l, h => by
    rw [List.map_cons]
    unfold okDs
    rw [h x List.mem_cons_self, okDs_map f l fun y hy => h y (List.mem_cons_of_mem _ hy)]
    rfl
theorem opEq_ok {d e : D} (h1 : okD 60 d = true) (h2 : okD 60 e = true) : opEq d e = some (.bl (eqD d e)) := by simp [opEq, h1, h2]
theorem opNe_ok {d e : D} (h1 : okD 60 d = true) (h2 : okD 60 e = true) : opNe d e = some (.bl (!eqD d e)) := by simp [opNe, h1, h2]
@[simp] theorem p_eqB (a b : Bool) : opEq (.bl a) (.bl b) = some (.bl (decide (a = b))) := by cases a <;> cases b <;> rfl
@[simp] theorem p_neB (a b : Bool) : opNe (.bl a) (.bl b) = some (.bl (!decide (a = b))) := by cases a <;> cases b <;> rfl
mutual
def sameD : D → D → Bool
  | .non, .non => true
  | .bl a, .bl b => a == b
  | .int i, .int j => i == j
  | .str x, .str y => decide (x = y)
  | .tup xs, .tup ys => sameDs xs ys
  | .lst xs, .lst ys => sameDs xs ys
  | _, _ => false
def sameDs : List D → List D → Bool
  | [], [] => true
  | x :: xs, y :: ys => sameD x y && sameDs xs ys
  | _, _ => false
end
mutual
theorem sameD_eq : ∀ (x y : D), sameD x y = true → x = y
  | .non, y, h => by cases y <;> first | rfl | (simp [sameD] at h)
  | .bl a, y, h => by cases y <;> simp [sameD] at h <;> rw [h]
  | .int a, y, h => by cases y <;> simp [sameD] at h <;> rw [h]
  | .str a, y, h => by cases y <;> simp [sameD] at h <;> rw [h]
  | .tup a, y, h => by
    cases y <;> simp [sameD] at h
    rw [sameDs_eq _ _ h]
  | .lst a, y, h => by
    cases y <;> simp [sameD] at h
    rw [sameDs_eq _ _ h]
  | .bell a, y, h => by cases y <;> simp [sameD] at h
  | .scr a, y, h => by cases y <;> simp [sameD] at h
theorem sameDs_eq : ∀ (x y : List D), sameDs x y = true → x = y
  | [], [], _ => rfl
  | [], _ :: _, h => by simp [sameDs] at h
  | _ :: _, [], h => by simp [sameDs] at h
  | x :: xs, y :: ys, h => by
    simp only [sameDs, Bool.and_eq_true] at h
    rw [sameD_eq x y h.1, sameDs_eq xs ys h.2]
end
def sameO : Option D → D → Bool
  | some x, y => sameD x y
  | none, _ => false
theorem sameO_eq {x : Option D} {y : D} (h : sameO x y = true) : x = some y := by
  cases x with
  | none => cases h
  | some x => rw [sameD_eq x y h]
end Mi
namespace Mi
open DL
def eO : Option Nat → D
  | none => .non
  | some n => .int n
def eV (m : Nat) (f : Nat → Nat) : D := .tup ((List.range m).map fun i => .int (f i))
def eR (w : Nat) (f : Nat → Option Nat) : D := .tup ((List.range w).map fun j => eO (f j))
def eT (m w : Nat) (T : Nat → Nat → Option Nat) : D := .tup ((List.range m).map fun i => eR w (T i))
def eL (l : List Nat) : D := .lst (l.map fun n => .int (n : Nat))
@[simp] theorem len_eT (m w : Nat) (T : Nat → Nat → Option Nat) : opLen [eT m w T] = some (.int m) := by simp [eT]
@[simp] theorem len_eR (w : Nat) (T : Nat → Option Nat) : opLen [eR w T] = some (.int w) := by simp [eR]
@[simp] theorem len_eV (w : Nat) (T : Nat → Nat) : opLen [eV w T] = some (.int w) := by simp [eV]
@[simp] theorem isNone_eO (x : Option Nat) : isNone (eO x) = x.isNone := by cases x <;> rfl
@[simp] theorem seq_eT (m w : Nat) (T : Nat → Nat → Option Nat) : asSeq (eT m w T) = some ((List.range m).map fun i => eR w (T i)) := rfl
@[simp] theorem seq_eR (w : Nat) (T : Nat → Option Nat) : asSeq (eR w T) = some ((List.range w).map fun j => eO (T j)) := rfl
@[simp] theorem seq_eV (w : Nat) (T : Nat → Nat) : asSeq (eV w T) = some ((List.range w).map fun j => .int (T j)) := rfl
@[simp] theorem seq_eL (l : List Nat) : asSeq (eL l) = some (l.map fun n => .int (n : Nat)) := rfl
@[simp] theorem eO_some (n : Nat) : eO (some n) = .int n := rfl
@[simp] theorem eO_none : eO none = .non := rfl
theorem gcd_step {a b : Nat} (h : 0 < b) : Nat.gcd b (a % b) = Nat.gcd a b := by
  rw [Nat.gcd_comm b, ← Nat.gcd_rec, Nat.gcd_comm]
theorem gcd_loop (ds : DF) {a b : Nat} (hb : b < 1000000000000000000000000000000) :
    ∃ ρ', dWhile (bV (d2 opGt (dv 1) (dc (.int 0)))) m_gcd_b1 [some (.int a), some (.int b)] = some (.nx ρ') ∧ ρ' = [some (.int (Nat.gcd a b)), some (.int 0)] := by
  refine dWhile_m (fun k ρ => ∃ x y : Nat, ρ = [some (.int x), some (.int y)] ∧ y = k ∧ Nat.gcd x y = Nat.gcd a b) _ (k := b) ⟨a, b, rfl, rfl, rfl⟩ hb ?_
  rintro k ρ ⟨x, y, rfl, rfl, hg⟩
  refine ⟨decide (0 < y), by simp, ?_, ?_⟩
  · intro h
    have h := of_decide_eq_true h
    refine ⟨x % y, [some (.int y), some (.int ((x % y : Nat) : Int))], Nat.mod_lt _ h, by simp [m_gcd_b1, mod_n h], y, x % y, rfl, rfl, ?_⟩
    rw [gcd_step h, hg]
  · intro h
    have h := of_decide_eq_false h
    have : y = 0 := by omega
    subst this
    rw [Nat.gcd_zero_right] at hg
    rw [hg]
    rfl
theorem gcd_m {a b : Nat} (hb : b < 1000000000000000000000000000000) : m_gcd [.int a, .int b] = some (.int (Nat.gcd a b)) := by
  obtain ⟨ρ', h, e⟩ := gcd_loop (dv 0) (a := a) hb
  refine run_rt rfl ?_
  show dSeq _ _ [some (.int a), some (.int b)] = _
  rw [seq_nx h, e]
  simp
theorem div_gcd_mul {a b : Nat} (hg0 : 0 < Nat.gcd a b) : a / a.gcd b * b = a.lcm b := by
  unfold Nat.lcm
  rw [Nat.mul_comm, ← Nat.mul_div_assoc _ (Nat.gcd_dvd_left a b), Nat.mul_comm]
theorem lcm_m {a b : Nat} (ha : 0 < a) (hb : b < 18446744073709551616) (hg : Nat.gcd a b < 18446744073709551616) : m_lcm [.int a, .int b] = some (.int (Nat.lcm a b)) := by
  have hg0 : 0 < Nat.gcd a b := Nat.gcd_pos_of_pos_left _ ha
  have h1 := mul_n (a := a / Nat.gcd a b) hb
  have h2 := gcd_m (a := a) (b := b) (by omega)
  have h3 := div_n (a := a) hg0 hg
  refine run_rt rfl ?_
  rw [div_gcd_mul hg0] at h1
  simp only [p_dRet, p_d2, p_dL, p_dcons, p_dnil, p_dv, lk_z, lk_s, List.map_cons, List.map_nil, List.cons_append, bnd_some, h1, h2, h3]
def gStep (f : Nat → Option Nat) (g j : Nat) : Nat := match f j with
  | none => g
  | some e => Nat.gcd e g
def gRow (w : Nat) (f : Nat → Option Nat) : Nat := (List.range w).foldl (gStep f) 0
def kpRow (w : Nat) (T : Nat → Nat → Option Nat) (i : Nat) : List (Nat × Nat) := ((List.range w).filter fun j => (T i j).isSome).map fun j => (i, j)
def kp (m w : Nat) (T : Nat → Nat → Option Nat) : List (Nat × Nat) := (List.range m).flatMap (kpRow w T)
abbrev gR (w : Nat) (T : Nat → Nat → Option Nat) (i : Nat) : Nat := gRow w (T i)
abbrev gC (m : Nat) (T : Nat → Nat → Option Nat) (j : Nat) : Nat := gRow m (fun i => T i j)
def isReal (m w : Nat) (T : Nat → Nat → Option Nat) : Bool := (kp m w T).all fun p => decide (Nat.lcm (gR w T p.1) (gC m T p.2) = (T p.1 p.2).getD 0)
end Mi
namespace Mi
open DL
theorem cell_m {ns : List Int} (h : ns.length ≤ 63) {i : Nat} (hi : i ≤ 1000) : ∃ c : Int, m_law_cell [.scr ns, .int i] = some (.int c) := by
  have ix : ∀ j : Nat, j < ns.length → ∃ c, opIx (.scr ns) (.int j) = some (.int c) := fun j hj => ⟨ns[j], by simp [opIx, ixN hj, List.getElem?_eq_getElem hj]⟩
  by_cases h1 : i < ns.length
  · obtain ⟨c, hc⟩ := ix i h1
    have h2 : ((i : Int) < (ns.length : Int)) := by omega
    exact ⟨c, run_rt rfl (by simp only [bnd_some, bnd_none, p_dc, p_dv, lk_z, lk_s, st_z, st_s, un_z, un_s, wipe_n, wipe_c, p_d2, p_d1, p_dnil, p_dcons, p_dL, p_asB, p_asI, p_asL, p_asSeqL, p_asSeqT, p_bV, p_dB, p_bAnd, p_bOr, p_bNot, p_dIf, p_dAnd, p_dOr, p_dNot, p_dCh, p_bYes, p_gN, p_gT, p_gsNil, p_gsCons, p_dNx, p_dRet, p_dSet, p_dIfS, p_dAsg, p_dPar, p_dAug, p_dApp, p_dSetIx, p_nLst, p_nRep, p_nOf, p_dSetN, p_dParN1, p_dParNN, p_iSeq, p_iRng1, p_iRng2, p_oNo, p_oIx, p_dSl, p_asIx, p_opTup, p_opLst, p_lenT, p_lenL, p_lenS, p_tupT, p_tupL, p_add, p_sub, p_mul, p_lt, p_le, p_gt, p_ge, p_eqI, p_neI, p_isN, p_isnN, p_isB, p_isnB, p_isNone_n, p_isNone_i, p_isNone_t, p_isNone_l, p_appL, p_appT, b_mc, b_mn, b_ac, b_an, b_rs, b_rz, b_lc, b_ln, b_it, b_if, b_itt, b_iff, p_dSeq, p_eqB, p_neB, len_eT, len_eR, len_eV, isNone_eO, seq_eT, seq_eR, seq_eV, seq_eL, eO_some, eO_none, ↓p_eqN, ↓p_neN, ↓p_ltN, ↓p_leN, ↓p_gtN, ↓p_geN, decide_eq_true h1, hc])⟩
  · have h2 : ¬ ((i : Int) < (ns.length : Int)) := by omega
    by_cases h3 : ns.length = 0
    · have h4 : (ns.length : Int) = 0 := by omega
      have h5 := mul_j (a := 7919) (b := i) (by decide) (by decide)
      exact ⟨_, run_rt rfl (by simp only [bnd_some, bnd_none, p_dc, p_dv, lk_z, lk_s, st_z, st_s, un_z, un_s, wipe_n, wipe_c, p_d2, p_d1, p_dnil, p_dcons, p_dL, p_asB, p_asI, p_asL, p_asSeqL, p_asSeqT, p_bV, p_dB, p_bAnd, p_bOr, p_bNot, p_dIf, p_dAnd, p_dOr, p_dNot, p_dCh, p_bYes, p_gN, p_gT, p_gsNil, p_gsCons, p_dNx, p_dRet, p_dSet, p_dIfS, p_dAsg, p_dPar, p_dAug, p_dApp, p_dSetIx, p_nLst, p_nRep, p_nOf, p_dSetN, p_dParN1, p_dParNN, p_iSeq, p_iRng1, p_iRng2, p_oNo, p_oIx, p_dSl, p_asIx, p_opTup, p_opLst, p_lenT, p_lenL, p_lenS, p_tupT, p_tupL, p_add, p_sub, p_mul, p_lt, p_le, p_gt, p_ge, p_eqI, p_neI, p_isN, p_isnN, p_isB, p_isnB, p_isNone_n, p_isNone_i, p_isNone_t, p_isNone_l, p_appL, p_appT, b_mc, b_mn, b_ac, b_an, b_rs, b_rz, b_lc, b_ln, b_it, b_if, b_itt, b_iff, p_dSeq, p_eqB, p_neB, len_eT, len_eR, len_eV, isNone_eO, seq_eT, seq_eR, seq_eV, seq_eL, eO_some, eO_none, ↓p_eqN, ↓p_neN, ↓p_ltN, ↓p_leN, ↓p_gtN, ↓p_geN, decide_eq_false h1, decide_eq_true h4, h5]; rfl)⟩
    · have h4 : ¬ (ns.length : Int) = 0 := by omega
      have h5 := mul_j (a := 7919) (b := i) (by decide) (by decide)
      have h6 := mod_n (a := i) (b := ns.length) (by omega)
      obtain ⟨c, hc⟩ := ix (i % ns.length) (Nat.mod_lt _ (by omega))
      have h7 := mod_i (a := c) (b := 1000003) (by decide)
      exact ⟨_, run_rt rfl (by simp only [bnd_some, bnd_none, p_dc, p_dv, lk_z, lk_s, st_z, st_s, un_z, un_s, wipe_n, wipe_c, p_d2, p_d1, p_dnil, p_dcons, p_dL, p_asB, p_asI, p_asL, p_asSeqL, p_asSeqT, p_bV, p_dB, p_bAnd, p_bOr, p_bNot, p_dIf, p_dAnd, p_dOr, p_dNot, p_dCh, p_bYes, p_gN, p_gT, p_gsNil, p_gsCons, p_dNx, p_dRet, p_dSet, p_dIfS, p_dAsg, p_dPar, p_dAug, p_dApp, p_dSetIx, p_nLst, p_nRep, p_nOf, p_dSetN, p_dParN1, p_dParNN, p_iSeq, p_iRng1, p_iRng2, p_oNo, p_oIx, p_dSl, p_asIx, p_opTup, p_opLst, p_lenT, p_lenL, p_lenS, p_tupT, p_tupL, p_add, p_sub, p_mul, p_lt, p_le, p_gt, p_ge, p_eqI, p_neI, p_isN, p_isnN, p_isB, p_isnB, p_isNone_n, p_isNone_i, p_isNone_t, p_isNone_l, p_appL, p_appT, b_mc, b_mn, b_ac, b_an, b_rs, b_rz, b_lc, b_ln, b_it, b_if, b_itt, b_iff, p_dSeq, p_eqB, p_neB, len_eT, len_eR, len_eV, isNone_eO, seq_eT, seq_eR, seq_eV, seq_eL, eO_some, eO_none, ↓p_eqN, ↓p_neN, ↓p_ltN, ↓p_leN, ↓p_gtN, ↓p_geN, decide_eq_false h1, decide_eq_false h4, h5, h6, hc]; erw [h7]; simp only [bnd_some, bnd_none, p_dc, p_dv, lk_z, lk_s, st_z, st_s, un_z, un_s, wipe_n, wipe_c, p_d2, p_d1, p_dnil, p_dcons, p_dL, p_asB, p_asI, p_asL, p_asSeqL, p_asSeqT, p_bV, p_dB, p_bAnd, p_bOr, p_bNot, p_dIf, p_dAnd, p_dOr, p_dNot, p_dCh, p_bYes, p_gN, p_gT, p_gsNil, p_gsCons, p_dNx, p_dRet, p_dSet, p_dIfS, p_dAsg, p_dPar, p_dAug, p_dApp, p_dSetIx, p_nLst, p_nRep, p_nOf, p_dSetN, p_dParN1, p_dParNN, p_iSeq, p_iRng1, p_iRng2, p_oNo, p_oIx, p_dSl, p_asIx, p_opTup, p_opLst, p_lenT, p_lenL, p_lenS, p_tupT, p_tupL, p_add, p_sub, p_mul, p_lt, p_le, p_gt, p_ge, p_eqI, p_neI, p_isN, p_isnN, p_isB, p_isnB, p_isNone_n, p_isNone_i, p_isNone_t, p_isNone_l, p_appL, p_appT, b_mc, b_mn, b_ac, b_an, b_rs, b_rz, b_lc, b_ln, b_it, b_if, b_itt, b_iff, p_dSeq, p_eqB, p_neB, len_eT, len_eR, len_eV, isNone_eO, seq_eT, seq_eR, seq_eV, seq_eL, eO_some, eO_none, ↓p_eqN, ↓p_neN, ↓p_ltN, ↓p_leN, ↓p_gtN, ↓p_geN]; rfl)⟩
theorem mod_z {a b : Int} (h : 0 < b) : opMod (.int a) (.int b) = some (.int (a % b)) := by simp only [opMod, if_pos h]
theorem div_z {a b : Int} (h : 0 < b) (h3 : b < 18446744073709551616) : opFdiv (.int a) (.int b) = some (.int (a / b)) := by simp only [opFdiv, if_pos (And.intro h h3)]
def prD : List D := [.int 2147483647, .int 2147483629, .int 2147483587, .int 2147483579, .int 2147483563, .int 2147483549, .int 2147483543, .int 2147483497]
theorem prime_ix {r : Nat} (h : r < 8) : ∃ p : Int, opIx (.tup prD) (.int r) = some (.int p) ∧ 0 < p ∧ p < 4294967296 := by
  have : r = 0 ∨ r = 1 ∨ r = 2 ∨ r = 3 ∨ r = 4 ∨ r = 5 ∨ r = 6 ∨ r = 7 := by omega
  rcases this with e | e | e | e | e | e | e | e <;> subst e <;> exact ⟨_, rfl, by decide, by decide⟩
theorem pIx {k : Nat} {x : D} (h : opIx (.tup prD) (.int (k % 8 : Nat)) = some x) : (bnd (opMod (.int k) (.int 8)) fun y => opIx (.tup prD) y) = some x := by
  have : opMod (.int k) (.int 8) = some (.int (k % 8 : Nat)) := mod_n (b := 8) (by decide)
  rw [this]
  simp only [bnd_some, bnd_none, p_dc, p_dv, lk_z, lk_s, st_z, st_s, un_z, un_s, wipe_n, wipe_c, p_d2, p_d1, p_dnil, p_dcons, p_dL, p_asB, p_asI, p_asL, p_asSeqL, p_asSeqT, p_bV, p_dB, p_bAnd, p_bOr, p_bNot, p_dIf, p_dAnd, p_dOr, p_dNot, p_dCh, p_bYes, p_gN, p_gT, p_gsNil, p_gsCons, p_dNx, p_dRet, p_dSet, p_dIfS, p_dAsg, p_dPar, p_dAug, p_dApp, p_dSetIx, p_nLst, p_nRep, p_nOf, p_dSetN, p_dParN1, p_dParNN, p_iSeq, p_iRng1, p_iRng2, p_oNo, p_oIx, p_dSl, p_asIx, p_opTup, p_opLst, p_lenT, p_lenL, p_lenS, p_tupT, p_tupL, p_add, p_sub, p_mul, p_lt, p_le, p_gt, p_ge, p_eqI, p_neI, p_isN, p_isnN, p_isB, p_isnB, p_isNone_n, p_isNone_i, p_isNone_t, p_isNone_l, p_appL, p_appT, b_mc, b_mn, b_ac, b_an, b_rs, b_rz, b_lc, b_ln, b_it, b_if, b_itt, b_iff, p_dSeq, p_eqB, p_neB, len_eT, len_eR, len_eV, isNone_eO, seq_eT, seq_eR, seq_eV, seq_eL, eO_some, eO_none, ↓p_eqN, ↓p_neN, ↓p_ltN, ↓p_leN, ↓p_gtN, ↓p_geN, h]
theorem dig_body {s : D} {i k : Nat} {c base r cell : Int} {ds : List Nat} (x : Option D) (hi : i ≤ 1000) (hk : k ≤ 1000) (hd : ds.length ≤ 1000) (hb0 : 0 < base) (hb : base < 18446744073709551616) :
    ∃ d : Nat, (d : Int) < base ∧ ∃ r' m : Int, m_law_digits_b1 [some s, some (.int i), some (.int c), some (.int base), some (.tup prD), some (.int cell), some (.int r), some (eL ds), some (.int k), x] =
      some (.nx [some s, some (.int i), some (.int c), some (.int base), some (.tup prD), some (.int cell), some (.int r'), some (eL (ds ++ [d])), some (.int k), some (.int m)]) := by
  obtain ⟨p1, e1, a1, b1⟩ := prime_ix (r := k % 8) (by omega)
  obtain ⟨p2, e2, a2, b2⟩ := prime_ix (r := (3 * k + i) % 8) (by omega)
  obtain ⟨p3, e3, a3, b3⟩ := prime_ix (r := (k + 5) % 8) (by omega)
  have f1 := pIx e1
  have f2 := pIx e2
  have f3 := pIx e3
  have c2 : (((3 * k + i : Nat) : Int)) = 3 * (k : Int) + i := by omega
  have c3 : (((k + 5 : Nat) : Int)) = (k : Int) + 5 := by omega
  rw [c2] at f2
  rw [c3] at f3
  have g1 := mod_z (a := cell) a1
  have u0 : (0 : Int) ≤ k := by omega
  have v0 : (k : Int) ≤ 1000 := by omega
  have m1 := mul_j (a := 2) (b := k) (by decide) (by decide)
  have m2 := mul_i (a := 2 * (k : Int)) (b := k) (by omega) (by omega)
  have w1 := Int.emod_nonneg cell (b := p1) (by omega)
  have w2 := Int.emod_lt_of_pos cell a1
  have m3 := mul_j (a := cell % p1) (b := 48271 + 2 * (k : Int) * k) (by omega) (by omega)
  have m4 := mul_j (a := 7919) (b := (k : Int) + 1) (by decide) (by decide)
  have m5 := mul_i (a := 7919 * ((k : Int) + 1)) (b := (k : Int) + 1) (by omega) (by omega)
  have m6 := mul_j (a := 104729) (b := (i : Int)) (by decide) (by decide)
  have m7 := mul_j (a := 3) (b := (k : Int)) (by decide) (by decide)
  generalize hz : cell % p1 * (48271 + 2 * (k : Int) * k) = z at m3
  generalize hy : z + 7919 * ((k : Int) + 1) * ((k : Int) + 1) + 104729 * i = y
  have g2 := mod_z (a := y) a2
  have w3 := Int.emod_nonneg y (b := p2) (by omega)
  have w4 := Int.emod_lt_of_pos y a2
  generalize hx : y % p2 = q at g2 w3 w4
  have m8 := mul_j (a := q) (b := q) (by omega) (by omega)
  have m9 := mul_i (a := q * q) (b := q) (by omega) (by omega)
  have g3 := mod_z (a := q * q * q) a3
  have g5 := fun t => div_z (a := t) hb0 hb
  have g6 : ∀ t : Int, ∃ d : Nat, (d : Int) < base ∧ opMod (.int t) (.int base) = some (.int d) := fun t => by
    have h1 := Int.emod_nonneg t (b := base) (by omega)
    have h2 := Int.emod_lt_of_pos t hb0
    exact ⟨(t % base).toNat, by omega, by rw [mod_z hb0, Int.toNat_of_nonneg h1]⟩
  have hl : (ds.map fun n : Nat => D.int n).length < 16777216 := by rw [List.length_map]; omega
  unfold m_law_digits_b1
  by_cases hr : 0 < r
  · obtain ⟨d, hd1, hd2⟩ := g6 r
    refine ⟨d, hd1, r / base, r, ?_⟩
    simp only [bnd_some, bnd_none, p_dc, p_dv, lk_z, lk_s, st_z, st_s, un_z, un_s, wipe_n, wipe_c, p_d2, p_d1, p_dnil, p_dcons, p_dL, p_asB, p_asI, p_asL, p_asSeqL, p_asSeqT, p_bV, p_dB, p_bAnd, p_bOr, p_bNot, p_dIf, p_dAnd, p_dOr, p_dNot, p_dCh, p_bYes, p_gN, p_gT, p_gsNil, p_gsCons, p_dNx, p_dRet, p_dSet, p_dIfS, p_dAsg, p_dPar, p_dAug, p_dApp, p_dSetIx, p_nLst, p_nRep, p_nOf, p_dSetN, p_dParN1, p_dParNN, p_iSeq, p_iRng1, p_iRng2, p_oNo, p_oIx, p_dSl, p_asIx, p_opTup, p_opLst, p_lenT, p_lenL, p_lenS, p_tupT, p_tupL, p_add, p_sub, p_mul, p_lt, p_le, p_gt, p_ge, p_eqI, p_neI, p_isN, p_isnN, p_isB, p_isnB, p_isNone_n, p_isNone_i, p_isNone_t, p_isNone_l, p_appL, p_appT, b_mc, b_mn, b_ac, b_an, b_rs, b_rz, b_lc, b_ln, b_it, b_if, b_itt, b_iff, p_dSeq, p_eqB, p_neB, len_eT, len_eR, len_eV, isNone_eO, seq_eT, seq_eR, seq_eV, seq_eL, eO_some, eO_none, ↓p_eqN, ↓p_neN, ↓p_ltN, ↓p_leN, ↓p_gtN, ↓p_geN, f1, g1, m1, m2, m3, m4, m5, m6, hy, m7, f2, g2, m8, m9, f3, g3, decide_eq_true hr, hd2, g5, eL, if_pos hl, List.map_append]
  · obtain ⟨d, hd1, hd2⟩ := g6 (q * q * q % p3)
    refine ⟨d, hd1, r / base, q * q * q % p3, ?_⟩
    simp only [bnd_some, bnd_none, p_dc, p_dv, lk_z, lk_s, st_z, st_s, un_z, un_s, wipe_n, wipe_c, p_d2, p_d1, p_dnil, p_dcons, p_dL, p_asB, p_asI, p_asL, p_asSeqL, p_asSeqT, p_bV, p_dB, p_bAnd, p_bOr, p_bNot, p_dIf, p_dAnd, p_dOr, p_dNot, p_dCh, p_bYes, p_gN, p_gT, p_gsNil, p_gsCons, p_dNx, p_dRet, p_dSet, p_dIfS, p_dAsg, p_dPar, p_dAug, p_dApp, p_dSetIx, p_nLst, p_nRep, p_nOf, p_dSetN, p_dParN1, p_dParNN, p_iSeq, p_iRng1, p_iRng2, p_oNo, p_oIx, p_dSl, p_asIx, p_opTup, p_opLst, p_lenT, p_lenL, p_lenS, p_tupT, p_tupL, p_add, p_sub, p_mul, p_lt, p_le, p_gt, p_ge, p_eqI, p_neI, p_isN, p_isnN, p_isB, p_isnB, p_isNone_n, p_isNone_i, p_isNone_t, p_isNone_l, p_appL, p_appT, b_mc, b_mn, b_ac, b_an, b_rs, b_rz, b_lc, b_ln, b_it, b_if, b_itt, b_iff, p_dSeq, p_eqB, p_neB, len_eT, len_eR, len_eV, isNone_eO, seq_eT, seq_eR, seq_eV, seq_eL, eO_some, eO_none, ↓p_eqN, ↓p_neN, ↓p_ltN, ↓p_leN, ↓p_gtN, ↓p_geN, f1, g1, m1, m2, m3, m4, m5, m6, hy, m7, f2, g2, m8, m9, f3, g3, decide_eq_false hr, hd2, g5, eL, if_pos hl, List.map_append]
theorem digits_m {ns : List Int} (h : ns.length ≤ 63) {i count : Nat} {base : Int} (hi : i ≤ 1000) (hc : count ≤ 1000) (hb0 : 0 < base) (hb : base < 18446744073709551616) :
    ∃ ds : List Nat, ds.length = count ∧ (∀ d ∈ ds, (d : Int) < base) ∧ m_law_digits [.scr ns, .int i, .int count, .int base] = some (eL ds) := by
  obtain ⟨c, hcell⟩ := cell_m h hi
  have hgo : ∀ r : Int, ∃ ds : List Nat, ds.length = count ∧ (∀ d ∈ ds, (d : Int) < base) ∧ ∃ ρ', lk ρ' 7 = some (eL ds) ∧ forL (gN 8) m_law_digits_b1 ((List.range count).map fun i : Nat => D.int i) [some (.scr ns), some (.int i), some (.int count), some (.int base), some (.tup prD), some (.int c), some (.int r), some (.lst []), none, none] = some (.nx ρ') := by
    intro r
    obtain ⟨ρ', h1, ds, h2, h3, r', x, y, h4⟩ := for_range (g := gN 8) (b := m_law_digits_b1) (fun i : Nat => D.int i)
      (fun (k : Nat) (ρ : Rho) => ∃ ds : List Nat, ds.length = k ∧ (∀ d ∈ ds, (d : Int) < base) ∧ ∃ (r : Int) (x y : Option D), ρ = [some (.scr ns), some (.int i), some (.int count), some (.int base), some (.tup prD), some (.int c), some (.int r), some (eL ds), x, y]) count (by
        rintro k hk ρ ⟨ds, hl, hds, r, x, y, rfl⟩
        obtain ⟨d, hd, r', m, e⟩ := dig_body (s := .scr ns) (i := i) (k := k) (c := count) (base := base) (r := r) (cell := c) (ds := ds) y hi (by omega) (by omega) hb0 hb
        refine ⟨_, rfl, _, e, ds ++ [d], by simp [hl], ?_, r', _, _, rfl⟩
        intro z hz
        rcases List.mem_append.mp hz with q | q
        · exact hds z q
        · rw [List.mem_singleton.mp q]
          exact hd) (ρ := [some (.scr ns), some (.int i), some (.int count), some (.int base), some (.tup prD), some (.int c), some (.int r), some (.lst []), none, none]) ⟨[], rfl, by simp, r, none, none, rfl⟩
    exact ⟨ds, h2, h3, ρ', by rw [h4]; rfl, h1⟩
  have hp : opPow (.int 10) (.int 18) = some (.int 1000000000000000000) := rfl
  have hn : (iRng1 (dcons (dv 2) dnil)) = (iRng1 (dcons (dv 2) dnil)) := rfl
  have hr : ∀ r : Int, dFor (iRng1 (dcons (dv 2) dnil)) (gN 8) m_law_digits_b1 [some (.scr ns), some (.int i), some (.int count), some (.int base), some (.tup prD), some (.int c), some (.int r), some (.lst []), none, none] = forL (gN 8) m_law_digits_b1 ((List.range count).map fun i : Nat => D.int i) [some (.scr ns), some (.int i), some (.int count), some (.int base), some (.tup prD), some (.int c), some (.int r), some (.lst []), none, none] := by
    intro r
    exact for_eq (by simp only [bnd_some, bnd_none, p_dc, p_dv, lk_z, lk_s, st_z, st_s, un_z, un_s, wipe_n, wipe_c, p_d2, p_d1, p_dnil, p_dcons, p_dL, p_asB, p_asI, p_asL, p_asSeqL, p_asSeqT, p_bV, p_dB, p_bAnd, p_bOr, p_bNot, p_dIf, p_dAnd, p_dOr, p_dNot, p_dCh, p_bYes, p_gN, p_gT, p_gsNil, p_gsCons, p_dNx, p_dRet, p_dSet, p_dIfS, p_dAsg, p_dPar, p_dAug, p_dApp, p_dSetIx, p_nLst, p_nRep, p_nOf, p_dSetN, p_dParN1, p_dParNN, p_iSeq, p_iRng1, p_iRng2, p_oNo, p_oIx, p_dSl, p_asIx, p_opTup, p_opLst, p_lenT, p_lenL, p_lenS, p_tupT, p_tupL, p_add, p_sub, p_mul, p_lt, p_le, p_gt, p_ge, p_eqI, p_neI, p_isN, p_isnN, p_isB, p_isnB, p_isNone_n, p_isNone_i, p_isNone_t, p_isNone_l, p_appL, p_appT, b_mc, b_mn, b_ac, b_an, b_rs, b_rz, b_lc, b_ln, b_it, b_if, b_itt, b_iff, p_dSeq, p_eqB, p_neB, len_eT, len_eR, len_eV, isNone_eO, seq_eT, seq_eR, seq_eV, seq_eL, eO_some, eO_none, ↓p_eqN, ↓p_neN, ↓p_ltN, ↓p_leN, ↓p_gtN, ↓p_geN, rng1 (n := count) (by omega)])
  by_cases h1 : (1000000000000000000 : Int) ≤ c
  · obtain ⟨ds, h2, h3, ρ', h4, h5⟩ := hgo c
    refine ⟨ds, h2, h3, run_rt rfl ?_⟩
    have h6 := (hr c).trans h5
    unfold prD at h6
    simp only [bnd_some, bnd_none, p_dc, p_dv, lk_z, lk_s, st_z, st_s, un_z, un_s, wipe_n, wipe_c, p_d2, p_d1, p_dnil, p_dcons, p_dL, p_asB, p_asI, p_asL, p_asSeqL, p_asSeqT, p_bV, p_dB, p_bAnd, p_bOr, p_bNot, p_dIf, p_dAnd, p_dOr, p_dNot, p_dCh, p_bYes, p_gN, p_gT, p_gsNil, p_gsCons, p_dNx, p_dRet, p_dSet, p_dIfS, p_dAsg, p_dPar, p_dAug, p_dApp, p_dSetIx, p_nLst, p_nRep, p_nOf, p_dSetN, p_dParN1, p_dParNN, p_iSeq, p_iRng1, p_iRng2, p_oNo, p_oIx, p_dSl, p_asIx, p_opTup, p_opLst, p_lenT, p_lenL, p_lenS, p_tupT, p_tupL, p_add, p_sub, p_mul, p_lt, p_le, p_gt, p_ge, p_eqI, p_neI, p_isN, p_isnN, p_isB, p_isnB, p_isNone_n, p_isNone_i, p_isNone_t, p_isNone_l, p_appL, p_appT, b_mc, b_mn, b_ac, b_an, b_rs, b_rz, b_lc, b_ln, b_it, b_if, b_itt, b_iff, p_dSeq, p_eqB, p_neB, len_eT, len_eR, len_eV, isNone_eO, seq_eT, seq_eR, seq_eV, seq_eL, eO_some, eO_none, ↓p_eqN, ↓p_neN, ↓p_ltN, ↓p_leN, ↓p_gtN, ↓p_geN, hcell, hp, decide_eq_true h1, Nat.reduceLeDiff, Nat.reduceAdd, Nat.reduceSub, h6, h4]
  · obtain ⟨ds, h2, h3, ρ', h4, h5⟩ := hgo 0
    refine ⟨ds, h2, h3, run_rt rfl ?_⟩
    have h6 := (hr 0).trans h5
    unfold prD at h6
    simp only [bnd_some, bnd_none, p_dc, p_dv, lk_z, lk_s, st_z, st_s, un_z, un_s, wipe_n, wipe_c, p_d2, p_d1, p_dnil, p_dcons, p_dL, p_asB, p_asI, p_asL, p_asSeqL, p_asSeqT, p_bV, p_dB, p_bAnd, p_bOr, p_bNot, p_dIf, p_dAnd, p_dOr, p_dNot, p_dCh, p_bYes, p_gN, p_gT, p_gsNil, p_gsCons, p_dNx, p_dRet, p_dSet, p_dIfS, p_dAsg, p_dPar, p_dAug, p_dApp, p_dSetIx, p_nLst, p_nRep, p_nOf, p_dSetN, p_dParN1, p_dParNN, p_iSeq, p_iRng1, p_iRng2, p_oNo, p_oIx, p_dSl, p_asIx, p_opTup, p_opLst, p_lenT, p_lenL, p_lenS, p_tupT, p_tupL, p_add, p_sub, p_mul, p_lt, p_le, p_gt, p_ge, p_eqI, p_neI, p_isN, p_isnN, p_isB, p_isnB, p_isNone_n, p_isNone_i, p_isNone_t, p_isNone_l, p_appL, p_appT, b_mc, b_mn, b_ac, b_an, b_rs, b_rz, b_lc, b_ln, b_it, b_if, b_itt, b_iff, p_dSeq, p_eqB, p_neB, len_eT, len_eR, len_eV, isNone_eO, seq_eT, seq_eR, seq_eV, seq_eL, eO_some, eO_none, ↓p_eqN, ↓p_neN, ↓p_ltN, ↓p_leN, ↓p_gtN, ↓p_geN, hcell, hp, decide_eq_false h1, Nat.reduceLeDiff, Nat.reduceAdd, Nat.reduceSub, h6, h4]
end Mi
namespace Mi
open DL
theorem ix_eL {ds : List Nat} {k : Nat} (h : k < ds.length) : opIx (eL ds) (.int k) = some (.int (ds.getD k 0)) := by
  apply ixL
  simp [h]
@[simp] theorem len_eL (ds : List Nat) : opLen [eL ds] = some (.int ds.length) := by simp [eL]
theorem lcm_pos {a b : Nat} (ha : 0 < a) (hb : 0 < b) : 0 < Nat.lcm a b := Nat.lcm_pos ha hb
end Mi
namespace Mi
open DL
structure DvM (M : Nat) (T : Nat → Nat → Option Nat) : Prop where
  pos : 0 < M
  le : M ≤ 1000000000
  dvd : ∀ i j e, T i j = some e → e ∣ M
theorem DvM.bd {M : Nat} {T : Nat → Nat → Option Nat} (h : DvM M T) {i j e : Nat} (q : T i j = some e) : 0 < e ∧ e ≤ 1000000000 := by
  have h1 := h.dvd i j e q
  exact ⟨Nat.pos_of_dvd_of_pos h1 h.pos, Nat.le_trans (Nat.le_of_dvd h.pos h1) h.le⟩
end Mi
namespace Mi
open DL
end Mi
namespace Mi
open DL
end Mi
namespace Mi
open DL
end Mi
namespace Mi
open DL
end Mi
namespace Mi
open DL
end Mi
namespace Mi
open DL
def eI (v : List Nat) : D := .tup (v.map fun n => .int (n : Nat))
theorem ix_eI {v : List Nat} {i : Nat} (h : i < v.length) : opIx (eI v) (.int i) = some (.int (v.getD i 0)) := by
  apply ixT
  simp [h]
end Mi
namespace Mi
open DL
structure Cov (m w : Nat) (T : Nat → Nat → Option Nat) : Prop where
  row : ∀ i, i < m → ∃ j, j < w ∧ ∃ e, T i j = some e
  col : ∀ j, j < w → ∃ i, i < m ∧ ∃ e, T i j = some e
end Mi
namespace Mi
open DL
theorem ok_eI (n : Nat) (v : List Nat) : okD (n + 1) (eI v) = true := okDs_map (n := n) _ v fun _ _ => by simp [okD]
theorem getD_rmap (f : Nat → Nat) {n i : Nat} (h : i < n) : ((List.range n).map f).getD i 0 = f i := by
  rw [List.getD_eq_getElem?_getD]
  simp [h]
end Mi
namespace Mi
/-- how often p divides n -/
def ex (p n : Nat) : Nat := if h : 2 ≤ p ∧ 0 < n ∧ n % p = 0 then ex p (n / p) + 1 else 0
termination_by n
decreasing_by exact Nat.div_lt_self h.2.1 h.1
end Mi
namespace Mi
open DL
end Mi
namespace Mi
open DL
end Mi
namespace Mi
open DL
end Mi
namespace Mi
open DL
end Mi
namespace Mi
open DL
def Tv (T : Nat → Nat → Option Nat) (q : Nat × Nat) : Nat := (T q.1 q.2).getD 1
/-- what the sure parts are: the least numbers with the prime powers that only they can give -/
structure SureI (T : Nat → Nat → Option Nat) (R C : Nat → Nat) (Dn : Nat → Nat × Nat → Prop) (A B : Nat → Nat) : Prop where
  row : ∀ i d, A i ∣ d ↔ ∀ p q, Dn p q → q.1 = i → ex p (C q.2) < ex p (Tv T q) → p ^ ex p (Tv T q) ∣ d
  col : ∀ j d, B j ∣ d ↔ ∀ p q, Dn p q → q.2 = j → ex p (R q.1) < ex p (Tv T q) → p ^ ex p (Tv T q) ∣ d
def upd1 (A : Nat → Nat) (c : Bool) (i x : Nat) : Nat → Nat := fun k => if c = true ∧ k = i then Nat.lcm (A k) x else A k
theorem upd1_dvd (A : Nat → Nat) (c : Bool) (i x k d : Nat) : upd1 A c i x k ∣ d ↔ A k ∣ d ∧ (c = true → k = i → x ∣ d) := by
  unfold upd1
  by_cases h : c = true ∧ k = i
  · rw [if_pos h, Nat.lcm_dvd_iff]
    constructor
    · rintro ⟨a, b⟩; exact ⟨a, fun _ _ => b⟩
    · rintro ⟨a, b⟩; exact ⟨a, b h.1 h.2⟩
  · rw [if_neg h]
    constructor
    · intro a; exact ⟨a, fun h1 h2 => absurd ⟨h1, h2⟩ h⟩
    · intro a; exact a.1
theorem SureI.step {T : Nat → Nat → Option Nat} {R C A B : Nat → Nat} {Dn : Nat → Nat × Nat → Prop} (h : SureI T R C Dn A B) (p : Nat) (q : Nat × Nat) :
    SureI T R C (fun p' q' => Dn p' q' ∨ (p' = p ∧ q' = q)) (upd1 A (decide (ex p (C q.2) < ex p (Tv T q))) q.1 (p ^ ex p (Tv T q))) (upd1 B (decide (ex p (R q.1) < ex p (Tv T q))) q.2 (p ^ ex p (Tv T q))) := by
  constructor
  · intro i d
    rw [upd1_dvd, h.row]
    constructor
    · rintro ⟨h1, h2⟩ p' q' (hd | ⟨rfl, rfl⟩) hi hl
      · exact h1 p' q' hd hi hl
      · exact h2 (decide_eq_true hl) hi.symm
    · intro h1
      exact ⟨fun p' q' hd => h1 p' q' (Or.inl hd), fun h2 h3 => h1 p q (Or.inr ⟨rfl, rfl⟩) h3.symm (of_decide_eq_true h2)⟩
  · intro j d
    rw [upd1_dvd, h.col]
    constructor
    · rintro ⟨h1, h2⟩ p' q' (hd | ⟨rfl, rfl⟩) hi hl
      · exact h1 p' q' hd hi hl
      · exact h2 (decide_eq_true hl) hi.symm
    · intro h1
      exact ⟨fun p' q' hd => h1 p' q' (Or.inl hd), fun h2 h3 => h1 p q (Or.inr ⟨rfl, rfl⟩) h3.symm (of_decide_eq_true h2)⟩
end Mi
namespace Mi
open DL
def CVal (m w : Nat) (T : Nat → Nat → Option Nat) (j d : Nat) : Prop := ∀ i, i < m → ∀ e, T i j = some e → Nat.lcm (gR w T i) d = e
end Mi
namespace Mi
open DL
end Mi
namespace Mi
open DL
end Mi
namespace Mi
open DL
def wo (T : Nat → Nat → Option Nat) (S : List (Nat × Nat)) : Nat → Nat → Option Nat := fun i j => if (i, j) ∈ S then none else T i j
def ltP (p q : Nat × Nat) : Prop := p.1 < q.1 ∨ (p.1 = q.1 ∧ p.2 < q.2)
instance (p q : Nat × Nat) : Decidable (ltP p q) := inferInstanceAs (Decidable (_ ∨ _))
/-- an ascending list of places of l -/
def AscIn (l S : List (Nat × Nat)) : Prop := S.Pairwise ltP ∧ ∀ p ∈ S, p ∈ l
end Mi
namespace Mi
open DL
theorem foldl_min : ∀ (l : List Int) (a : Int), (l.foldl (fun x y => if y < x then y else x) a ∈ a :: l) ∧ ∀ x ∈ a :: l, l.foldl (fun x y => if y < x then y else x) a ≤ x
  | [], a => ⟨by simp, by simp⟩
  | b :: l, a => by
    rw [List.foldl_cons]
    have ih := foldl_min l (if b < a then b else a)
    constructor
    · rcases List.mem_cons.mp ih.1 with q | q
      · rw [q]
        by_cases z : b < a
        · rw [if_pos z]; simp
        · rw [if_neg z]; simp
      · exact List.mem_cons_of_mem _ (List.mem_cons_of_mem _ q)
    · have h1 := ih.2 (if b < a then b else a) List.mem_cons_self
      intro x hx
      rcases List.mem_cons.mp hx with q | q
      · rw [q]
        by_cases z : b < a
        · rw [if_pos z] at h1 ⊢; omega
        · rw [if_neg z] at h1 ⊢; exact h1
      · rcases List.mem_cons.mp q with q | q
        · rw [q]
          by_cases z : b < a
          · rw [if_pos z] at h1 ⊢; exact h1
          · rw [if_neg z] at h1 ⊢; omega
        · exact ih.2 x (List.mem_cons_of_mem _ q)
theorem opMin_m {α : Type} (f : α → Nat) (l : List α) (h : l ≠ []) : ∃ x ∈ l, (∀ y ∈ l, f x ≤ f y) ∧ opMin [.lst (l.map fun x => .int (f x : Nat))] = some (.int (f x)) := by
  obtain ⟨a, r, rfl⟩ := List.exists_cons_of_ne_nil h
  have h1 := asInts_map (fun x => ((f x : Nat) : Int)) (a :: r)
  have fm := foldl_min (r.map fun x => ((f x : Nat) : Int)) (f a)
  have : ((f a : Nat) : Int) :: r.map (fun x => ((f x : Nat) : Int)) = (a :: r).map fun x => ((f x : Nat) : Int) := rfl
  rw [this] at fm
  obtain ⟨x, hx, e⟩ := List.mem_map.mp fm.1
  refine ⟨x, hx, fun y hy => ?_, ?_⟩
  · have := fm.2 _ (List.mem_map.mpr ⟨y, hy, rfl⟩)
    rw [← e] at this
    omega
  · show (asInts _).bind _ = _
    rw [h1]
    show (some _ : Option D) = _
    rw [e]
/-- n entries are enough, and no fewer -/
def LeastW (m w : Nat) (T : Nat → Nat → Option Nat) (n : Nat) : Prop := (∃ S, AscIn (kp m w T) S ∧ isReal m w (wo T S) = true ∧ S.length = n) ∧ ∀ S, AscIn (kp m w T) S → isReal m w (wo T S) = true → n ≤ S.length
theorem LeastW.uniq {m w : Nat} {T : Nat → Nat → Option Nat} {a b : Nat} (h1 : LeastW m w T a) (h2 : LeastW m w T b) : a = b := by
  obtain ⟨⟨S1, x1, y1, z1⟩, m1⟩ := h1
  obtain ⟨⟨S2, x2, y2, z2⟩, m2⟩ := h2
  have := m1 S2 x2 y2
  have := m2 S1 x1 y1
  omega
end Mi
namespace Mi
open DL
end Mi
namespace Mi
open DL
end Mi
namespace Mi
open DL
end Mi
namespace Mi
open DL
end Mi
namespace Mi
open DL
end Mi
namespace Mi
open DL
end Mi
namespace Mi
open DL
end Mi
namespace Mi
open DL
end Mi
namespace Mi
open DL
end Mi
namespace Mi
open DL
@[simp] theorem p_dOrT (f g : DF) (ρ : Rho) : dOrT f g ρ = bnd (f ρ) fun x => bnd (truI x) fun k => if k = true then some x else g ρ := (rfl)
end Mi
namespace Mi
open DL
end Mi
namespace Mi
open DL
end Mi
namespace Mi
open DL
end Mi
namespace Mi
open DL
end Mi
namespace Mi
open DL
/-- T with entries of V put in -/
def Fil (T V T' : Nat → Nat → Option Nat) : Prop := ∀ i j, T' i j = T i j ∨ (T i j = none ∧ T' i j = V i j)
theorem Fil.refl (T V : Nat → Nat → Option Nat) : Fil T V T := fun _ _ => Or.inl rfl
end Mi
namespace Mi
open DL
theorem lk_st_i : ∀ {ρ : Rho} {i : Nat} {d : D}, i < ρ.length → lk (st ρ i d) i = some d
  | [], i, d, h => absurd h (Nat.not_lt_zero i)
  | _ :: _, 0, _, _ => rfl
  | _ :: r, i + 1, d, h => lk_st_i (ρ := r) (i := i) (by simpa using h)
theorem lk_st_o {ρ : Rho} {i j : Nat} {d : D} (h : (j == i) = false) : lk (st ρ i d) j = lk ρ j := lk_st_ne (by simpa using h)
theorem lk_un_o {ρ : Rho} {i j : Nat} (h : (j == i) = false) : lk (un ρ i) j = lk ρ j := lk_un_ne (by simpa using h)
theorem len_st (ρ : Rho) (i : Nat) (d : D) : (st ρ i d).length = ρ.length := st_len ρ i d
theorem len_un (ρ : Rho) (i : Nat) : (un ρ i).length = ρ.length := un_len ρ i
/-- ρ' is ρ but at the slots ws -/
def Ag (ws : List Nat) (ρ ρ' : Rho) : Prop := ρ'.length = ρ.length ∧ ∀ j, j ∉ ws → lk ρ' j = lk ρ j
theorem Ag.refl (ws : List Nat) (ρ : Rho) : Ag ws ρ ρ := ⟨rfl, fun _ _ => rfl⟩
theorem Ag.st {ws : List Nat} {ρ ρ' : Rho} {i : Nat} {d : D} (h : Ag ws ρ ρ') (hi : i ∈ ws) : Ag ws ρ (st ρ' i d) :=
  ⟨(st_len ρ' i d).trans h.1, fun j hj => (lk_st_ne (fun e : j = i => hj (by rw [e]; exact hi))).trans (h.2 j hj)⟩
theorem Ag.trans {ws : List Nat} {a b c : Rho} (h : Ag ws a b) (h' : Ag ws b c) : Ag ws a c := ⟨h'.1.trans h.1, fun j hj => (h'.2 j hj).trans (h.2 j hj)⟩
theorem Ag.mono {ws vs : List Nat} {a b : Rho} (h : Ag ws a b) (hs : ∀ i ∈ ws, i ∈ vs) : Ag vs a b := ⟨h.1, fun j hj => h.2 j fun z => hj (hs j z)⟩
theorem Ag.lk {ws : List Nat} {a b : Rho} (h : Ag ws a b) (j : Nat) (hj : j ∉ ws) {x : Option D} (e : lk a j = x) : DL.lk b j = x := (h.2 j hj).trans e
theorem for_ag {b : DS} {i n : Nat} {ws : List Nat} {ρ : Rho} (e : Nat → D) (hi : i ∈ ws) (hl : i < ρ.length) (hb : ∀ k, k < n → ∀ ρ', Ag ws ρ ρ' → lk ρ' i = some (e k) → ∃ ρ'', b ρ' = some (.nx ρ'') ∧ Ag ws ρ ρ'') :
    ∃ ρ', forL (gN i) b ((List.range n).map e) ρ = some (.nx ρ') ∧ Ag ws ρ ρ' :=
  for_range (g := gN i) e (fun _ ρ' => Ag ws ρ ρ') n (fun k hk ρ' h => ⟨_, rfl, hb k hk _ (h.st hi) (lk_st_i (by rw [h.1]; exact hl))⟩) (Ag.refl ws ρ)
theorem for_agL {α : Type} {b : DS} {i : Nat} {ws : List Nat} {ρ : Rho} (e : α → D) (xs : List α) (hi : i ∈ ws) (hl : i < ρ.length) (hb : ∀ x ∈ xs, ∀ ρ', Ag ws ρ ρ' → lk ρ' i = some (e x) → ∃ ρ'', b ρ' = some (.nx ρ'') ∧ Ag ws ρ ρ'') :
    ∃ ρ', forL (gN i) b (xs.map e) ρ = some (.nx ρ') ∧ Ag ws ρ ρ' :=
  for_all (g := gN i) e (fun ρ' => Ag ws ρ ρ') xs ρ (fun k hk ρ' h => ⟨_, rfl, hb k hk _ (h.st hi) (lk_st_i (by rw [h.1]; exact hl))⟩) (Ag.refl ws ρ)
/-- an invariant besides -/
theorem for_agP {b : DS} {i n : Nat} {ws : List Nat} {ρ : Rho} (e : Nat → D) (P : Nat → Rho → Prop) (hi : i ∈ ws) (hl : i < ρ.length) (h0 : P 0 ρ) (hst : ∀ k ρ' d, P k ρ' → P k (st ρ' i d))
    (hb : ∀ k, k < n → ∀ ρ', Ag ws ρ ρ' → lk ρ' i = some (e k) → P k ρ' → ∃ ρ'', b ρ' = some (.nx ρ'') ∧ Ag ws ρ ρ'' ∧ P (k + 1) ρ'') :
    ∃ ρ', forL (gN i) b ((List.range n).map e) ρ = some (.nx ρ') ∧ Ag ws ρ ρ' ∧ P n ρ' :=
  for_range (g := gN i) e (fun k ρ' => Ag ws ρ ρ' ∧ P k ρ') n (fun k hk ρ' h => ⟨_, rfl, hb k hk _ (h.1.st hi) (lk_st_i (by rw [h.1.1]; exact hl)) (hst k ρ' _ h.2)⟩) ⟨Ag.refl ws ρ, h0⟩
theorem eV_eI (m : Nat) (f : Nat → Nat) : eV m f = eI ((List.range m).map f) := by
  unfold eV eI
  rw [List.map_map]
  rfl
theorem eqDs_ints : ∀ a b : List Nat, eqDs (a.map fun n => D.int (n : Nat)) (b.map fun n => D.int (n : Nat)) = decide (a = b)
  | [], [] => rfl
  | [], _ :: _ => rfl
  | _ :: _, [] => rfl
  | x :: a, y :: b => by
    rw [List.map_cons, List.map_cons]
    unfold eqDs
    rw [eqDs_ints a b]
    have : eqD (.int (x : Int)) (.int (y : Int)) = decide (x = y) := by
      show decide ((x : Int) = y) = _
      exact decide_eq_decide.mpr (by omega)
    rw [this, Bool.eq_iff_iff]
    simp
theorem eq_eI (a b : List Nat) : eqD (eI a) (eI b) = decide (a = b) := by
  show eqDs _ _ = _
  exact eqDs_ints a b
theorem eq_eL (a b : List Nat) : eqD (eL a) (eL b) = decide (a = b) := by
  show eqDs _ _ = _
  exact eqDs_ints a b
theorem ne_eL (a b : List Nat) : opNe (eL a) (eL b) = some (.bl (!decide (a = b))) := by
  have h1 : ∀ l, okD 60 (eL l) = true := fun l => okDs_map (n := 59) _ l fun _ _ => rfl
  rw [opNe_ok (h1 a) (h1 b), eq_eL]
end Mi
namespace Mi
open DL
end Mi
namespace Mi
open DL
theorem size_g (d n : Nat) (k : Int) (hk : k = (n : Int)) (hn : 0 < n) : ∃ m : Nat, 0 < m ∧ m ≤ n ∧ (bnd (opMod (.int d) (.int k)) fun y => opAdd (.int 1) y) = some (.int m) := by
  subst hk
  refine ⟨1 + d % n, by omega, by have := Nat.mod_lt d hn; omega, ?_⟩
  rw [mod_n hn]
  simp only [bnd_some, p_add]
  rfl
end Mi
namespace Mi
open DL
end Mi
namespace Mi
open DL
end Mi
namespace Mi
open DL
end Mi
namespace Mi
open DL
theorem for_agPre {α : Type} {b : DS} {i : Nat} {ws : List Nat} {ρ : Rho} (e : α → D) (P : List α → Rho → Prop) (xs : List α) (hi : i ∈ ws) (hl : i < ρ.length) (h0 : P [] ρ) (hst : ∀ pre ρ' d, P pre ρ' → P pre (st ρ' i d))
    (hb : ∀ pre x r, xs = pre ++ x :: r → ∀ ρ', Ag ws ρ ρ' → lk ρ' i = some (e x) → P pre ρ' → ∃ ρ'', b ρ' = some (.nx ρ'') ∧ Ag ws ρ ρ'' ∧ P (pre ++ [x]) ρ'') :
    ∃ ρ', forL (gN i) b (xs.map e) ρ = some (.nx ρ') ∧ Ag ws ρ ρ' ∧ P xs ρ' :=
  for_pre (g := gN i) e (fun pre ρ' => Ag ws ρ ρ' ∧ P pre ρ') xs (fun pre x r q ρ' h => ⟨_, rfl, hb pre x r q _ (h.1.st hi) (lk_st_i (by rw [h.1.1]; exact hl)) (hst pre ρ' _ h.2)⟩) ⟨Ag.refl ws ρ, h0⟩
end Mi
namespace Mi
open DL
theorem for_agTP {α : Type} {g : DG} {b : DS} {ws : List Nat} {ρ : Rho} (e : α → D) (P : List α → Rho → Prop) (xs : List α) (h0 : P [] ρ)
    (hb : ∀ pre x r, xs = pre ++ x :: r → ∀ ρ', Ag ws ρ ρ' → P pre ρ' → ∃ ρ1, g (e x) ρ' = some ρ1 ∧ ∃ ρ'', b ρ1 = some (.nx ρ'') ∧ Ag ws ρ ρ'' ∧ P (pre ++ [x]) ρ'') :
    ∃ ρ', forL g b (xs.map e) ρ = some (.nx ρ') ∧ Ag ws ρ ρ' ∧ P xs ρ' :=
  for_pre (g := g) e (fun pre ρ' => Ag ws ρ ρ' ∧ P pre ρ') xs (fun pre x r q ρ' h => hb pre x r q ρ' h.1 h.2) ⟨Ag.refl ws ρ, h0⟩
end Mi
namespace Mi
open DL
end Mi
namespace Mi
open DL
end Mi
namespace Mi
open DL
section
variable {m w M : Nat} {T : Nat → Nat → Option Nat} {A B : Nat → Nat} {p : Nat}
def Loc (m w : Nat) (T : Nat → Nat → Option Nat) (p : Nat) (x : Nat → Nat) : Prop := ∀ i j, i < m → j < w → ∀ e, T i j = some e → max (x i) (x (m + j)) = ex p e
end
end Mi
namespace Mi
open DL
theorem getD_rm (f : Nat → Nat) {n i : Nat} (d : Nat) (h : i < n) : ((List.range n).map f).getD i d = f i := by
  rw [List.getD_eq_getElem?_getD]
  simp [h]
theorem ext_getD {a b : List Nat} {n : Nat} (ha : a.length = n) (hb : b.length = n) (h : ∀ i, i < n → a.getD i 0 = b.getD i 0) : a = b := by
  apply List.ext_getElem (by omega)
  intro i h1 h2
  have := h i (by omega)
  rw [List.getD_eq_getElem?_getD, List.getD_eq_getElem?_getD, List.getElem?_eq_getElem h1, List.getElem?_eq_getElem h2] at this
  exact this
end Mi
namespace Mi
open DL
section
variable {m w M : Nat} {T : Nat → Nat → Option Nat} {A B : Nat → Nat}
theorem add_eI (S : List Nat) (a : Nat) (h : S.length ≤ 1000) : opAdd (eI S) (.tup [.int a]) = some (eI (S ++ [a])) := by
  unfold eI
  rw [p_appT, if_pos (by simp; omega)]
  rw [List.map_append]
  rfl
end
end Mi
namespace Mi
open DL
end Mi
namespace Mi
open DL
end Mi
namespace Mi
open DL
section
variable {m w M : Nat} {T : Nat → Nat → Option Nat} {A B : Nat → Nat}
theorem sl_eLt {u : List Nat} {k : Nat} (h : k ≤ u.length) : opSl none (some (k : Int)) (eL u) = some (eL (u.take k)) := by
  unfold opSl eL cutL
  simp only [HT.sIx]
  have e1 : ¬ ((k : Int) < 0) := by omega
  simp [e1]
  try omega
end
end Mi
namespace Mi
open DL
section
variable {m w M : Nat} {T : Nat → Nat → Option Nat} {A B R C : Nat → Nat}
theorem eI_eV {l : List Nat} (h : l.length = w) : eI l = eV w fun j => l.getD j 0 := by
  rw [eV_eI]
  refine congrArg eI (ext_getD h (by simp) fun j hj => ?_)
  rw [getD_rm _ _ hj]
end
end Mi
namespace Mi
open DL
end Mi
namespace Mi
open DL
end Mi
namespace Mi
open DL
end Mi
namespace Mi
open DL
end Mi
namespace Mi
open DL
end Mi
namespace Mi
open DL
end Mi
namespace Mi
open DL
end Mi
namespace Mi
open DL
end Mi
namespace Mi
open DL
end Mi
namespace Mi
open DL
section
variable {m w M : Nat} {T : Nat → Nat → Option Nat} {A B R C : Nat → Nat} {r : Nat}
theorem sl_eLt' {u : List Nat} {k : Nat} : opSl none (some (k : Int)) (eL u) = some (eL (u.take k)) := by
  by_cases h : k ≤ u.length
  · exact sl_eLt h
  · unfold opSl eL cutL
    simp only [HT.sIx]
    have e1 : ¬ ((k : Int) < 0) := by omega
    have e2 : ¬ k ≤ u.length := h
    simp only [e1, if_false, List.length_map, Int.toNat_natCast, List.take_of_length_le (show u.length ≤ k by omega), Option.some.injEq, D.lst.injEq]
    try simp
    exact List.take_of_length_le (by rw [List.length_map]; omega)
end
end Mi
namespace Mi
open DL
end Mi
namespace Mi
open DL
end Mi
namespace Mi
open DL
section
variable {m m' w M : Nat} {T : Nat → Nat → Option Nat} {A B A' B' : Nat → Nat}
theorem DvM.map (hM : DvM M T) (f : Nat → Nat) : DvM M (fun i j => T (f i) j) := ⟨hM.pos, hM.le, fun i j e he => hM.dvd (f i) j e he⟩
theorem SureI.uniq {R C : Nat → Nat} {Dn : Nat → Nat × Nat → Prop} (h : SureI T R C Dn A B) (h' : SureI T R C Dn A' B') : A = A' ∧ B = B' := by
  refine ⟨funext fun i => Nat.dvd_antisymm ?_ ?_, funext fun j => Nat.dvd_antisymm ?_ ?_⟩
  · exact (h.row i _).mpr ((h'.row i _).mp (Nat.dvd_refl _))
  · exact (h'.row i _).mpr ((h.row i _).mp (Nat.dvd_refl _))
  · exact (h.col j _).mpr ((h'.col j _).mp (Nat.dvd_refl _))
  · exact (h'.col j _).mpr ((h.col j _).mp (Nat.dvd_refl _))
theorem Cov.map {f : Nat → Nat} (hc : Cov m w T) (hf : ∀ i, i < m' → f i < m) (hs : ∀ i, i < m → ∃ k, k < m' ∧ f k = i) : Cov m' w (fun i j => T (f i) j) := ⟨fun i hi => hc.row (f i) (hf i hi), fun j hj => by
  obtain ⟨i, hi, e, he⟩ := hc.col j hj
  obtain ⟨k, hk, rfl⟩ := hs i hi
  exact ⟨k, hk, e, he⟩⟩
end
end Mi
namespace Mi
open DL
end Mi
namespace Mi
open DL
end Mi
namespace Mi
open DL
end Mi
namespace Mi
open DL
end Mi
namespace Mi
open DL
end Mi
namespace Mi
open DL
end Mi
namespace Mi
open DL
end Mi
namespace Mi
open DL
end Mi
namespace Mi
open DL
theorem is_integer_m (i lo hi : Int) : m_is_integer [.int i, .int lo, .int hi] = some (.bl (decide (lo ≤ i) && decide (i ≤ hi))) := by
  have a1 : opIsi "int" (.int i) = some (.bl true) := rfl
  have a2 : opIsi "bool" (.int i) = some (.bl false) := rfl
  refine run_rt rfl ?_
  by_cases q : lo ≤ i
  · simp only [bnd_some, bnd_none, p_dc, p_dv, lk_z, lk_s, st_z, st_s, un_z, un_s, wipe_n, wipe_c, p_d2, p_d1, p_dnil, p_dcons, p_dL, p_asB, p_asI, p_asL, p_asSeqL, p_asSeqT, p_bV, p_dB, p_bAnd, p_bOr, p_bNot, p_dIf, p_dAnd, p_dOr, p_dNot, p_dCh, p_bYes, p_gN, p_gT, p_gsNil, p_gsCons, p_dNx, p_dRet, p_dSet, p_dIfS, p_dAsg, p_dPar, p_dAug, p_dApp, p_dSetIx, p_nLst, p_nRep, p_nOf, p_dSetN, p_dParN1, p_dParNN, p_iSeq, p_iRng1, p_iRng2, p_oNo, p_oIx, p_dSl, p_asIx, p_opTup, p_opLst, p_lenT, p_lenL, p_lenS, p_tupT, p_tupL, p_add, p_sub, p_mul, p_lt, p_le, p_gt, p_ge, p_eqI, p_neI, p_isN, p_isnN, p_isB, p_isnB, p_isNone_n, p_isNone_i, p_isNone_t, p_isNone_l, p_appL, p_appT, b_mc, b_mn, b_ac, b_an, b_rs, b_rz, b_lc, b_ln, b_it, b_if, b_itt, b_iff, p_dSeq, p_eqB, p_neB, len_eT, len_eR, len_eV, isNone_eO, seq_eT, seq_eR, seq_eV, seq_eL, eO_some, eO_none, len_eL, p_dOrT, ↓p_eqN, ↓p_neN, ↓p_ltN, ↓p_leN, ↓p_gtN, ↓p_geN, Nat.reduceSub, a1, a2, dCh, Option.bind_some, p_le, decide_eq_true q, Bool.true_and, Bool.not_false]
  · simp only [bnd_some, bnd_none, p_dc, p_dv, lk_z, lk_s, st_z, st_s, un_z, un_s, wipe_n, wipe_c, p_d2, p_d1, p_dnil, p_dcons, p_dL, p_asB, p_asI, p_asL, p_asSeqL, p_asSeqT, p_bV, p_dB, p_bAnd, p_bOr, p_bNot, p_dIf, p_dAnd, p_dOr, p_dNot, p_dCh, p_bYes, p_gN, p_gT, p_gsNil, p_gsCons, p_dNx, p_dRet, p_dSet, p_dIfS, p_dAsg, p_dPar, p_dAug, p_dApp, p_dSetIx, p_nLst, p_nRep, p_nOf, p_dSetN, p_dParN1, p_dParNN, p_iSeq, p_iRng1, p_iRng2, p_oNo, p_oIx, p_dSl, p_asIx, p_opTup, p_opLst, p_lenT, p_lenL, p_lenS, p_tupT, p_tupL, p_add, p_sub, p_mul, p_lt, p_le, p_gt, p_ge, p_eqI, p_neI, p_isN, p_isnN, p_isB, p_isnB, p_isNone_n, p_isNone_i, p_isNone_t, p_isNone_l, p_appL, p_appT, b_mc, b_mn, b_ac, b_an, b_rs, b_rz, b_lc, b_ln, b_it, b_if, b_itt, b_iff, p_dSeq, p_eqB, p_neB, len_eT, len_eR, len_eV, isNone_eO, seq_eT, seq_eR, seq_eV, seq_eL, eO_some, eO_none, len_eL, p_dOrT, ↓p_eqN, ↓p_neN, ↓p_ltN, ↓p_leN, ↓p_gtN, ↓p_geN, Nat.reduceSub, a1, a2, dCh, Option.bind_some, p_le, decide_eq_false q, Bool.false_and, Bool.not_false]
theorem init_test (ns : List Int) (h : bellOk ns = true) : m_init_t (none :: some (.tup (ns.map .int)) :: List.replicate (3 - 2) none) = some false := by
  unfold bellOk at h
  rw [Bool.and_eq_true, Bool.and_eq_true, decide_eq_true_eq, decide_eq_true_eq] at h
  obtain ⟨h1, h2, h3⟩ := h
  have c1 : m_init_c1 [none, some (.tup (ns.map .int)), none] = some (.lst (ns.map fun i => .bl (decide (1 ≤ i) && decide (i ≤ 1000)))) := by
    unfold m_init_c1
    rw [comp_all (fun i : Int => D.int i) (fun i => .bl (decide (1 ≤ i) && decide (i ≤ 1000))) ns (by simp only [bnd_some, bnd_none, p_dc, p_dv, lk_z, lk_s, st_z, st_s, un_z, un_s, wipe_n, wipe_c, p_d2, p_d1, p_dnil, p_dcons, p_dL, p_asB, p_asI, p_asL, p_asSeqL, p_asSeqT, p_bV, p_dB, p_bAnd, p_bOr, p_bNot, p_dIf, p_dAnd, p_dOr, p_dNot, p_dCh, p_bYes, p_gN, p_gT, p_gsNil, p_gsCons, p_dNx, p_dRet, p_dSet, p_dIfS, p_dAsg, p_dPar, p_dAug, p_dApp, p_dSetIx, p_nLst, p_nRep, p_nOf, p_dSetN, p_dParN1, p_dParNN, p_iSeq, p_iRng1, p_iRng2, p_oNo, p_oIx, p_dSl, p_asIx, p_opTup, p_opLst, p_lenT, p_lenL, p_lenS, p_tupT, p_tupL, p_add, p_sub, p_mul, p_lt, p_le, p_gt, p_ge, p_eqI, p_neI, p_isN, p_isnN, p_isB, p_isnB, p_isNone_n, p_isNone_i, p_isNone_t, p_isNone_l, p_appL, p_appT, b_mc, b_mn, b_ac, b_an, b_rs, b_rz, b_lc, b_ln, b_it, b_if, b_itt, b_iff, p_dSeq, p_eqB, p_neB, len_eT, len_eR, len_eV, isNone_eO, seq_eT, seq_eR, seq_eV, seq_eL, eO_some, eO_none, len_eL, p_dOrT, ↓p_eqN, ↓p_neN, ↓p_ltN, ↓p_leN, ↓p_gtN, ↓p_geN]) (by omega) (by
      intro i _
      have := is_integer_m i 1 1000
      refine ⟨_, rfl, ?_⟩
      simp only [bnd_some, bnd_none, p_dc, p_dv, lk_z, lk_s, st_z, st_s, un_z, un_s, wipe_n, wipe_c, p_d2, p_d1, p_dnil, p_dcons, p_dL, p_asB, p_asI, p_asL, p_asSeqL, p_asSeqT, p_bV, p_dB, p_bAnd, p_bOr, p_bNot, p_dIf, p_dAnd, p_dOr, p_dNot, p_dCh, p_bYes, p_gN, p_gT, p_gsNil, p_gsCons, p_dNx, p_dRet, p_dSet, p_dIfS, p_dAsg, p_dPar, p_dAug, p_dApp, p_dSetIx, p_nLst, p_nRep, p_nOf, p_dSetN, p_dParN1, p_dParNN, p_iSeq, p_iRng1, p_iRng2, p_oNo, p_oIx, p_dSl, p_asIx, p_opTup, p_opLst, p_lenT, p_lenL, p_lenS, p_tupT, p_tupL, p_add, p_sub, p_mul, p_lt, p_le, p_gt, p_ge, p_eqI, p_neI, p_isN, p_isnN, p_isB, p_isnB, p_isNone_n, p_isNone_i, p_isNone_t, p_isNone_l, p_appL, p_appT, b_mc, b_mn, b_ac, b_an, b_rs, b_rz, b_lc, b_ln, b_it, b_if, b_itt, b_iff, p_dSeq, p_eqB, p_neB, len_eT, len_eR, len_eV, isNone_eO, seq_eT, seq_eR, seq_eV, seq_eL, eO_some, eO_none, len_eL, p_dOrT, ↓p_eqN, ↓p_neN, ↓p_ltN, ↓p_leN, ↓p_gtN, ↓p_geN, this])]
  have al : opAll [.lst (ns.map fun i => .bl (decide (1 ≤ i) && decide (i ≤ 1000)))] = some (.bl true) := by
    show (asBls _).bind _ = _
    rw [asBls_map]
    simp only [Option.bind_some]
    have : (ns.map fun i => decide (1 ≤ i) && decide (i ≤ 1000)).all id = true := by
      rw [List.all_map]
      exact h3
    try simp only [this]
    try rfl
  have ln : opLen [.tup (ns.map D.int)] = some (.int (ns.length : Int)) := by simp
  have l1 : opLe (.int 1) (.int (ns.length : Int)) = some (.bl (decide (1 ≤ ns.length))) := p_leN 1 _
  have l2 : opLe (.int (ns.length : Int)) (.int 5) = some (.bl (decide (ns.length ≤ 5))) := p_leN _ 5
  rw [decide_eq_true h1] at l1
  rw [decide_eq_true h2] at l2
  show m_init_t [none, some (.tup (ns.map .int)), none] = some false
  unfold m_init_t
  simp only [bnd_some, bnd_none, p_dc, p_dv, lk_z, lk_s, st_z, st_s, un_z, un_s, wipe_n, wipe_c, p_d2, p_d1, p_dnil, p_dcons, p_dL, p_asB, p_asI, p_asL, p_asSeqL, p_asSeqT, p_bV, p_dB, p_bAnd, p_bOr, p_bNot, p_dIf, p_dAnd, p_dOr, p_dNot, p_dCh, p_bYes, p_gN, p_gT, p_gsNil, p_gsCons, p_dNx, p_dRet, p_dSet, p_dIfS, p_dAsg, p_dPar, p_dAug, p_dApp, p_dSetIx, p_nLst, p_nRep, p_nOf, p_dSetN, p_dParN1, p_dParNN, p_iSeq, p_iRng1, p_iRng2, p_oNo, p_oIx, p_dSl, p_asIx, p_opTup, p_opLst, p_lenT, p_lenL, p_lenS, p_tupT, p_tupL, p_add, p_sub, p_mul, p_lt, p_le, p_gt, p_ge, p_eqI, p_neI, p_isN, p_isnN, p_isB, p_isnB, p_isNone_n, p_isNone_i, p_isNone_t, p_isNone_l, p_appL, p_appT, b_mc, b_mn, b_ac, b_an, b_rs, b_rz, b_lc, b_ln, b_it, b_if, b_itt, b_iff, p_dSeq, p_eqB, p_neB, len_eT, len_eR, len_eV, isNone_eO, seq_eT, seq_eR, seq_eV, seq_eL, eO_some, eO_none, len_eL, p_dOrT, ↓p_eqN, ↓p_neN, ↓p_ltN, ↓p_leN, ↓p_gtN, ↓p_geN, dCh, Option.bind_some, ln, ↓l1, ↓l2, c1, al, Bool.not_true]
  try rfl
def hS : Nat → (Nat → Int) → Int
  | 0, f => f 0
  | r + 1, f => hS r f + hS r fun c => f (c + 1)
def fR (c : Nat) : Int := if c = 0 then 0 else if c % 2 = 1 then 1 else -1
theorem hS_R : ∀ r, r < 6 → hS r fR = if r = 0 then 0 else 1 := by decide
/-- the sets of bells: how many, and after how long they meet -/
def meet (ps : List Nat) : List (Nat × Nat) := ps.foldl (fun L p => L ++ L.map fun s => (s.1 + 1, Nat.lcm s.2 p)) [(0, 1)]
theorem meet_snoc (ps : List Nat) (p : Nat) : meet (ps ++ [p]) = meet ps ++ (meet ps).map fun s => (s.1 + 1, Nat.lcm s.2 p) := by
  unfold meet
  rw [List.foldl_append]
  rfl
def ringN (ps : List Nat) (x : Nat) : Nat := (ps.filter fun p => decide (x % p = 0)).length
/-- sums -/
def sumI {α : Type} (L : List α) (g : α → Int) : Int := (L.map g).sum
theorem sumI_append {α : Type} (L M : List α) (g : α → Int) : sumI (L ++ M) g = sumI L g + sumI M g := by
  unfold sumI
  rw [List.map_append, List.sum_append]
theorem sumI_map {α β : Type} (L : List α) (h : α → β) (g : β → Int) : sumI (L.map h) g = sumI L fun a => g (h a) := by
  unfold sumI
  rw [List.map_map]
  rfl
theorem sumI_congr {α : Type} {L : List α} {g h : α → Int} (e : ∀ a ∈ L, g a = h a) : sumI L g = sumI L h := by
  unfold sumI
  rw [List.map_congr_left e]
theorem sumI_add {α : Type} (g h : α → Int) : ∀ L : List α, sumI L (fun a => g a + h a) = sumI L g + sumI L h
  | [] => rfl
  | a :: L => by
    have := sumI_add g h L
    unfold sumI at this ⊢
    rw [List.map_cons, List.map_cons, List.map_cons, List.sum_cons, List.sum_cons, List.sum_cons, this]
    omega
theorem sumI_zero {α : Type} : ∀ L : List α, sumI L (fun _ => 0) = 0
  | [] => rfl
  | a :: L => by
    have := sumI_zero L
    unfold sumI at this ⊢
    rw [List.map_cons, List.sum_cons, this]
    rfl
theorem dvd_mod {l x : Nat} : l ∣ x ↔ x % l = 0 := Nat.dvd_iff_mod_eq_zero
theorem at_time (x : Nat) : ∀ (r ps : List Nat), ps = r.reverse → ∀ f : Nat → Int, sumI (meet ps) (fun s => if s.2 ∣ x then f s.1 else 0) = hS (ringN ps x) f
  | [], ps, e, f => by
    subst e
    show (if 1 ∣ x then f 0 else 0) + 0 = f 0
    rw [if_pos (Nat.one_dvd x)]
    omega
  | p :: r, ps, e, f => by
    subst e
    rw [List.reverse_cons, meet_snoc, sumI_append, sumI_map, at_time x r _ rfl f]
    by_cases q : p ∣ x
    · have e1 : ringN (r.reverse ++ [p]) x = ringN r.reverse x + 1 := by
        unfold ringN
        rw [List.filter_append, List.length_append]
        have : [p].filter (fun p => decide (x % p = 0)) = [p] := by rw [List.filter_cons, decide_eq_true (dvd_mod.mp q)]; rfl
        rw [this]
        rfl
      rw [e1]
      show _ = hS (ringN r.reverse x) f + hS (ringN r.reverse x) fun c => f (c + 1)
      rw [← at_time x r _ rfl fun c => f (c + 1)]
      congr 1
      refine sumI_congr fun s _ => ?_
      have : Nat.lcm s.2 p ∣ x ↔ s.2 ∣ x := by
        rw [Nat.lcm_dvd_iff]
        exact ⟨fun h => h.1, fun h => ⟨h, q⟩⟩
      by_cases z : s.2 ∣ x
      · rw [if_pos z, if_pos (this.mpr z)]
      · rw [if_neg z, if_neg fun h => z (this.mp h)]
    · have e1 : ringN (r.reverse ++ [p]) x = ringN r.reverse x := by
        unfold ringN
        rw [List.filter_append, List.length_append]
        have : [p].filter (fun p => decide (x % p = 0)) = [] := by rw [List.filter_cons, decide_eq_false fun h => q (dvd_mod.mpr h)]; rfl
        rw [this]
        rfl
      rw [e1]
      have : sumI (meet r.reverse) (fun s => if Nat.lcm s.2 p ∣ x then f (s.1 + 1) else 0) = 0 := by
        refine (sumI_congr (h := fun _ => 0) fun s _ => ?_).trans (sumI_zero _)
        rw [if_neg fun h => q ((Nat.lcm_dvd_iff.mp h).2)]
      rw [this]
      omega
/-- multiples up to a time -/
def mulN (t : Int) (l : Nat) : Int := t / (l : Int) + 1
theorem mulN_start {l : Nat} (h : 0 < l) : mulN (-1) l = 0 := by
  unfold mulN
  have : (-1 : Int) / (l : Int) = -1 := by
    rw [show (-1 : Int) = -((1 : Nat) : Int) by rfl]
    have := Int.ediv_emod_unique (a := -1) (b := (l : Int)) (r := (l : Int) - 1) (q := -1) (by omega)
    exact (this.mpr ⟨by omega, by omega, by omega⟩).1
  omega
theorem mulN_step {l : Nat} (h : 0 < l) (T : Nat) : mulN (T : Int) l = mulN ((T : Int) - 1) l + if l ∣ T then 1 else 0 := by
  cases T with
  | zero =>
    have e : ((0 : Nat) : Int) - 1 = -1 := rfl
    rw [e, mulN_start h, if_pos (Nat.dvd_zero l)]
    unfold mulN
    simp
  | succ n =>
    have e : ((n + 1 : Nat) : Int) - 1 = (n : Int) := by omega
    rw [e]
    unfold mulN
    rw [← Int.natCast_ediv, ← Int.natCast_ediv, Nat.succ_div]
    by_cases z : l ∣ n + 1
    · rw [if_pos z, if_pos z]; omega
    · rw [if_neg z, if_neg z]; omega
def upTo (P : Nat → Bool) (T : Nat) : Nat := ((List.range T).filter P).length
theorem upTo_succ (P : Nat → Bool) (T : Nat) : upTo P (T + 1) = upTo P T + if P T = true then 1 else 0 := by
  unfold upTo
  rw [List.range_succ, List.filter_append, List.length_append]
  by_cases z : P T = true
  · rw [if_pos z]
    have : [T].filter P = [T] := by rw [List.filter_cons, if_pos z]; rfl
    rw [this]
    rfl
  · rw [if_neg z]
    have : [T].filter P = [] := by rw [List.filter_cons, if_neg z]; rfl
    rw [this]
    rfl
theorem sum_upTo {L : List (Nat × Nat)} (hL : ∀ s ∈ L, 0 < s.2) (f : Nat → Int) (P : Nat → Bool) (hP : ∀ x, sumI L (fun s => if s.2 ∣ x then f s.1 else 0) = if P x = true then 1 else 0) : ∀ T : Nat, sumI L (fun s => f s.1 * mulN ((T : Int) - 1) s.2) = (upTo P T : Int)
  | 0 => by
    refine (sumI_congr (h := fun _ => 0) fun s hs => ?_).trans (sumI_zero _)
    show f s.1 * mulN (-1) s.2 = 0
    rw [mulN_start (hL s hs), Int.mul_zero]
  | T + 1 => by
    rw [upTo_succ]
    have e : ((T + 1 : Nat) : Int) - 1 = (T : Int) := by omega
    rw [e]
    have : sumI L (fun s => f s.1 * mulN (T : Int) s.2) = sumI L (fun s => f s.1 * mulN ((T : Int) - 1) s.2 + if s.2 ∣ T then f s.1 else 0) := by
      refine sumI_congr fun s hs => ?_
      rw [mulN_step (hL s hs), Int.mul_add]
      by_cases z : s.2 ∣ T
      · rw [if_pos z, if_pos z, Int.mul_one]
      · rw [if_neg z, if_neg z, Int.mul_zero]
    rw [this, sumI_add, sum_upTo hL f P hP T, hP T]
    by_cases z : P T = true
    · rw [if_pos z, if_pos z]; omega
    · rw [if_neg z, if_neg z]; omega
theorem upTo_add (P : Nat → Bool) (lo : Nat) : ∀ m, upTo P (lo + m) = upTo P lo + ((List.range m).filter fun i => P (lo + i)).length
  | 0 => rfl
  | m + 1 => by
    rw [← Nat.add_assoc, upTo_succ, upTo_add P lo m, List.range_succ, List.filter_append, List.length_append]
    by_cases z : P (lo + m) = true
    · have : [m].filter (fun i => P (lo + i)) = [m] := by rw [List.filter_cons, if_pos z]; rfl
      rw [if_pos z, this]
      rfl
    · have : [m].filter (fun i => P (lo + i)) = [] := by rw [List.filter_cons, if_neg z]; rfl
      rw [if_neg z, this]
      rfl
end Mi
namespace Mi
open DL
def eM (s : Nat × Nat) : D := .tup [.int (s.1 : Nat), .int (s.2 : Nat)]
def eB (ps : List Nat) : D := .bell (ps.map fun p : Nat => (p : Int))
structure Pds (ps : List Nat) : Prop where
  one : 1 ≤ ps.length
  five : ps.length ≤ 5
  bd : ∀ p ∈ ps, 0 < p ∧ p ≤ 1000
theorem meet_bd : ∀ (r ps : List Nat), ps = r.reverse → (∀ p ∈ ps, 0 < p ∧ p ≤ 1000) → (meet ps).length = 2 ^ ps.length ∧ ∀ s ∈ meet ps, 0 < s.2 ∧ s.2 ≤ 1000 ^ ps.length ∧ s.1 ≤ ps.length
  | [], ps, e, _ => by
    subst e
    refine ⟨rfl, fun s hs => ?_⟩
    have : s = (0, 1) := by simpa [meet] using hs
    subst this
    exact ⟨by decide, by decide, by decide⟩
  | p :: r, ps, e, hb => by
    subst e
    rw [List.reverse_cons] at hb ⊢
    have hp := hb p (by simp)
    obtain ⟨h1, h2⟩ := meet_bd r _ rfl fun q hq => hb q (by simp only [List.mem_append]; exact .inl hq)
    rw [meet_snoc]
    refine ⟨by rw [List.length_append, List.length_map, h1, List.length_append, List.length_singleton, Nat.pow_succ]; omega, fun s hs => ?_⟩
    rw [List.length_append, List.length_singleton, Nat.pow_succ]
    rcases List.mem_append.mp hs with z | z
    · have := h2 s z
      exact ⟨this.1, Nat.le_trans this.2.1 (Nat.le_mul_of_pos_right _ (by decide)), by omega⟩
    · obtain ⟨t, ht, rfl⟩ := List.mem_map.mp z
      have := h2 t ht
      refine ⟨Nat.lcm_pos this.1 hp.1, ?_, by show t.1 + 1 ≤ _; omega⟩
      exact Nat.le_trans (Nat.le_of_dvd (Nat.mul_pos this.1 hp.1) (Nat.lcm_dvd_mul t.2 p)) (Nat.mul_le_mul this.2.1 hp.2)
theorem meet_pos {ps : List Nat} (h : Pds ps) : ∀ s ∈ meet ps, 0 < s.2 ∧ s.2 < 18446744073709551616 ∧ s.1 < 6 := fun s hs => by
  have := (meet_bd ps.reverse ps (by simp) h.bd).2 s hs
  have h5 : (1000 : Nat) ^ ps.length ≤ 1000 ^ 5 := Nat.pow_le_pow_right (by decide) h.five
  have e5 : (1000 : Nat) ^ 5 = 1000000000000000 := by decide
  have := h.five
  exact ⟨by omega, by omega, by omega⟩
theorem per_m (ps : List Nat) : opPer (eB ps) = some (eI ps) := by
  show some (D.tup ((ps.map fun p : Nat => (p : Int)).map .int)) = _
  rw [List.map_map]
  rfl
theorem meetings_m {ps : List Nat} (h : Pds ps) : m_meetings [eB ps] = some (.lst ((meet ps).map eM)) := by
  obtain ⟨ρ', q1, ag, q2⟩ := for_agPre (b := m_meetings_b1) (i := 2) (ws := [2, 1]) (ρ := st [some (eB ps), none, none, none, none] 1 (.lst [.tup [.int 0, .int 1]])) (fun p : Nat => D.int p) (fun pre ρ' => lk ρ' 1 = some (.lst ((meet pre).map eM))) ps (by decide) (show 2 < 5 by decide) rfl (fun pre ρ' d q => by rw [lk_st_o (by decide)]; exact q) (by
    intro pre p r' e ρ1 ag e2 e1
    have hl : ρ1.length = 5 := ag.1
    have hp := h.bd p (by rw [e]; simp)
    have pl : pre.length + 1 ≤ 5 := by
      have := congrArg List.length e
      have := h.five
      simp at *
      omega
    have mb := meet_bd pre.reverse pre (by simp) fun q hq => h.bd q (by rw [e]; simp only [List.mem_append]; exact .inl hq)
    have l32 : (meet pre).length ≤ 16 := by
      rw [mb.1]
      exact Nat.le_trans (Nat.pow_le_pow_right (by decide) (show pre.length ≤ 4 by omega)) (by decide)
    have c1 : m_meetings_c1 ρ1 = some (.lst (((meet pre).map fun s => (s.1 + 1, Nat.lcm s.2 p)).map eM)) := by
      unfold m_meetings_c1
      rw [comp_all eM (fun s => eM (s.1 + 1, Nat.lcm s.2 p)) (meet pre) (by simp only [bnd_some, bnd_none, p_dc, p_dv, lk_z, lk_s, st_z, st_s, un_z, un_s, wipe_n, wipe_c, p_d2, p_d1, p_dnil, p_dcons, p_dL, p_asB, p_asI, p_asL, p_asSeqL, p_asSeqT, p_bV, p_dB, p_bAnd, p_bOr, p_bNot, p_dIf, p_dAnd, p_dOr, p_dNot, p_dCh, p_bYes, p_gN, p_gT, p_gsNil, p_gsCons, p_dNx, p_dRet, p_dSet, p_dIfS, p_dAsg, p_dPar, p_dAug, p_dApp, p_dSetIx, p_nLst, p_nRep, p_nOf, p_dSetN, p_dParN1, p_dParNN, p_iSeq, p_iRng1, p_iRng2, p_oNo, p_oIx, p_dSl, p_asIx, p_opTup, p_opLst, p_lenT, p_lenL, p_lenS, p_tupT, p_tupL, p_add, p_sub, p_mul, p_lt, p_le, p_gt, p_ge, p_eqI, p_neI, p_isN, p_isnN, p_isB, p_isnB, p_isNone_n, p_isNone_i, p_isNone_t, p_isNone_l, p_appL, p_appT, b_mc, b_mn, b_ac, b_an, b_rs, b_rz, b_lc, b_ln, b_it, b_if, b_itt, b_iff, p_dSeq, p_eqB, p_neB, len_eT, len_eR, len_eV, isNone_eO, seq_eT, seq_eR, seq_eV, seq_eL, eO_some, eO_none, len_eL, p_dOrT, ↓p_eqN, ↓p_neN, ↓p_ltN, ↓p_leN, ↓p_gtN, ↓p_geN, e1]) (by omega) (by
        intro s hs
        have sb := mb.2 s hs
        have lm := lcm_m sb.1 (b := p) (by omega) (Nat.lt_of_le_of_lt (Nat.gcd_le_right _ hp.1) (by omega))
        have ad : opAdd (.int (s.1 : Nat)) (.int 1) = some (.int ((s.1 + 1 : Nat) : Int)) := rfl
        refine ⟨_, by simp only [eM, bnd_some, bnd_none, p_dc, p_dv, lk_z, lk_s, st_z, st_s, un_z, un_s, wipe_n, wipe_c, p_d2, p_d1, p_dnil, p_dcons, p_dL, p_asB, p_asI, p_asL, p_asSeqL, p_asSeqT, p_bV, p_dB, p_bAnd, p_bOr, p_bNot, p_dIf, p_dAnd, p_dOr, p_dNot, p_dCh, p_bYes, p_gN, p_gT, p_gsNil, p_gsCons, p_dNx, p_dRet, p_dSet, p_dIfS, p_dAsg, p_dPar, p_dAug, p_dApp, p_dSetIx, p_nLst, p_nRep, p_nOf, p_dSetN, p_dParN1, p_dParNN, p_iSeq, p_iRng1, p_iRng2, p_oNo, p_oIx, p_dSl, p_asIx, p_opTup, p_opLst, p_lenT, p_lenL, p_lenS, p_tupT, p_tupL, p_add, p_sub, p_mul, p_lt, p_le, p_gt, p_ge, p_eqI, p_neI, p_isN, p_isnN, p_isB, p_isnB, p_isNone_n, p_isNone_i, p_isNone_t, p_isNone_l, p_appL, p_appT, b_mc, b_mn, b_ac, b_an, b_rs, b_rz, b_lc, b_ln, b_it, b_if, b_itt, b_iff, p_dSeq, p_eqB, p_neB, len_eT, len_eR, len_eV, isNone_eO, seq_eT, seq_eR, seq_eV, seq_eL, eO_some, eO_none, len_eL, p_dOrT, ↓p_eqN, ↓p_neN, ↓p_ltN, ↓p_leN, ↓p_gtN, ↓p_geN]; rfl, ?_⟩
        simp only [bnd_some, bnd_none, p_dc, p_dv, lk_z, lk_s, st_z, st_s, un_z, un_s, wipe_n, wipe_c, p_d2, p_d1, p_dnil, p_dcons, p_dL, p_asB, p_asI, p_asL, p_asSeqL, p_asSeqT, p_bV, p_dB, p_bAnd, p_bOr, p_bNot, p_dIf, p_dAnd, p_dOr, p_dNot, p_dCh, p_bYes, p_gN, p_gT, p_gsNil, p_gsCons, p_dNx, p_dRet, p_dSet, p_dIfS, p_dAsg, p_dPar, p_dAug, p_dApp, p_dSetIx, p_nLst, p_nRep, p_nOf, p_dSetN, p_dParN1, p_dParNN, p_iSeq, p_iRng1, p_iRng2, p_oNo, p_oIx, p_dSl, p_asIx, p_opTup, p_opLst, p_lenT, p_lenL, p_lenS, p_tupT, p_tupL, p_add, p_sub, p_mul, p_lt, p_le, p_gt, p_ge, p_eqI, p_neI, p_isN, p_isnN, p_isB, p_isnB, p_isNone_n, p_isNone_i, p_isNone_t, p_isNone_l, p_appL, p_appT, b_mc, b_mn, b_ac, b_an, b_rs, b_rz, b_lc, b_ln, b_it, b_if, b_itt, b_iff, p_dSeq, p_eqB, p_neB, len_eT, len_eR, len_eV, isNone_eO, seq_eT, seq_eR, seq_eV, seq_eL, eO_some, eO_none, len_eL, p_dOrT, ↓p_eqN, ↓p_neN, ↓p_ltN, ↓p_leN, ↓p_gtN, ↓p_geN, lk_st_o, lk_st_i, lk_un_o, len_st, len_un, Nat.reduceBEq, Nat.reduceLT, hl, e2, ↓ad, lm, Nat.reduceAdd, Nat.reduceLeDiff]
        rfl)]
      rw [List.map_map]
      rfl
    have ap : opAdd (.lst ((meet pre).map eM)) (.lst (((meet pre).map fun s => (s.1 + 1, Nat.lcm s.2 p)).map eM)) = some (.lst ((meet (pre ++ [p])).map eM)) := by
      rw [p_appL, if_pos (by simp; omega), ← List.map_append, meet_snoc]
    refine ⟨st ρ1 1 (.lst ((meet (pre ++ [p])).map eM)), ?_, ag.st (by decide), by rw [lk_st_i (by omega)]⟩
    simp only [m_meetings_b1, bnd_some, bnd_none, p_dc, p_dv, lk_z, lk_s, st_z, st_s, un_z, un_s, wipe_n, wipe_c, p_d2, p_d1, p_dnil, p_dcons, p_dL, p_asB, p_asI, p_asL, p_asSeqL, p_asSeqT, p_bV, p_dB, p_bAnd, p_bOr, p_bNot, p_dIf, p_dAnd, p_dOr, p_dNot, p_dCh, p_bYes, p_gN, p_gT, p_gsNil, p_gsCons, p_dNx, p_dRet, p_dSet, p_dIfS, p_dAsg, p_dPar, p_dAug, p_dApp, p_dSetIx, p_nLst, p_nRep, p_nOf, p_dSetN, p_dParN1, p_dParNN, p_iSeq, p_iRng1, p_iRng2, p_oNo, p_oIx, p_dSl, p_asIx, p_opTup, p_opLst, p_lenT, p_lenL, p_lenS, p_tupT, p_tupL, p_add, p_sub, p_mul, p_lt, p_le, p_gt, p_ge, p_eqI, p_neI, p_isN, p_isnN, p_isB, p_isnB, p_isNone_n, p_isNone_i, p_isNone_t, p_isNone_l, p_appL, p_appT, b_mc, b_mn, b_ac, b_an, b_rs, b_rz, b_lc, b_ln, b_it, b_if, b_itt, b_iff, p_dSeq, p_eqB, p_neB, len_eT, len_eR, len_eV, isNone_eO, seq_eT, seq_eR, seq_eV, seq_eL, eO_some, eO_none, len_eL, p_dOrT, ↓p_eqN, ↓p_neN, ↓p_ltN, ↓p_leN, ↓p_gtN, ↓p_geN, e1, c1, ↓ap])
  have per := per_m ps
  have f := (for_eq (it := iSeq (d1 opPer (dv 0))) (ds := ps.map fun p : Nat => D.int p) (ρ := st [some (eB ps), none, none, none, none] 1 (.lst [.tup [.int 0, .int 1]])) (by simp only [bnd_some, bnd_none, p_dc, p_dv, lk_z, lk_s, st_z, st_s, un_z, un_s, wipe_n, wipe_c, p_d2, p_d1, p_dnil, p_dcons, p_dL, p_asB, p_asI, p_asL, p_asSeqL, p_asSeqT, p_bV, p_dB, p_bAnd, p_bOr, p_bNot, p_dIf, p_dAnd, p_dOr, p_dNot, p_dCh, p_bYes, p_gN, p_gT, p_gsNil, p_gsCons, p_dNx, p_dRet, p_dSet, p_dIfS, p_dAsg, p_dPar, p_dAug, p_dApp, p_dSetIx, p_nLst, p_nRep, p_nOf, p_dSetN, p_dParN1, p_dParNN, p_iSeq, p_iRng1, p_iRng2, p_oNo, p_oIx, p_dSl, p_asIx, p_opTup, p_opLst, p_lenT, p_lenL, p_lenS, p_tupT, p_tupL, p_add, p_sub, p_mul, p_lt, p_le, p_gt, p_ge, p_eqI, p_neI, p_isN, p_isnN, p_isB, p_isnB, p_isNone_n, p_isNone_i, p_isNone_t, p_isNone_l, p_appL, p_appT, b_mc, b_mn, b_ac, b_an, b_rs, b_rz, b_lc, b_ln, b_it, b_if, b_itt, b_iff, p_dSeq, p_eqB, p_neB, len_eT, len_eR, len_eV, isNone_eO, seq_eT, seq_eR, seq_eV, seq_eL, eO_some, eO_none, len_eL, p_dOrT, ↓p_eqN, ↓p_neN, ↓p_ltN, ↓p_leN, ↓p_gtN, ↓p_geN, per]; rfl)).trans q1
  refine run_rt rfl ?_
  generalize eB ps = bb at f
  simp only [bnd_some, bnd_none, p_dc, p_dv, lk_z, lk_s, st_z, st_s, un_z, un_s, wipe_n, wipe_c, p_d2, p_d1, p_dnil, p_dcons, p_dL, p_asB, p_asI, p_asL, p_asSeqL, p_asSeqT, p_bV, p_dB, p_bAnd, p_bOr, p_bNot, p_dIf, p_dAnd, p_dOr, p_dNot, p_dCh, p_bYes, p_gN, p_gT, p_gsNil, p_gsCons, p_dNx, p_dRet, p_dSet, p_dIfS, p_dAsg, p_dPar, p_dAug, p_dApp, p_dSetIx, p_nLst, p_nRep, p_nOf, p_dSetN, p_dParN1, p_dParNN, p_iSeq, p_iRng1, p_iRng2, p_oNo, p_oIx, p_dSl, p_asIx, p_opTup, p_opLst, p_lenT, p_lenL, p_lenS, p_tupT, p_tupL, p_add, p_sub, p_mul, p_lt, p_le, p_gt, p_ge, p_eqI, p_neI, p_isN, p_isnN, p_isB, p_isnB, p_isNone_n, p_isNone_i, p_isNone_t, p_isNone_l, p_appL, p_appT, b_mc, b_mn, b_ac, b_an, b_rs, b_rz, b_lc, b_ln, b_it, b_if, b_itt, b_iff, p_dSeq, p_eqB, p_neB, len_eT, len_eR, len_eV, isNone_eO, seq_eT, seq_eR, seq_eV, seq_eL, eO_some, eO_none, len_eL, p_dOrT, ↓p_eqN, ↓p_neN, ↓p_ltN, ↓p_leN, ↓p_gtN, ↓p_geN] at f
  simp only [bnd_some, bnd_none, p_dc, p_dv, lk_z, lk_s, st_z, st_s, un_z, un_s, wipe_n, wipe_c, p_d2, p_d1, p_dnil, p_dcons, p_dL, p_asB, p_asI, p_asL, p_asSeqL, p_asSeqT, p_bV, p_dB, p_bAnd, p_bOr, p_bNot, p_dIf, p_dAnd, p_dOr, p_dNot, p_dCh, p_bYes, p_gN, p_gT, p_gsNil, p_gsCons, p_dNx, p_dRet, p_dSet, p_dIfS, p_dAsg, p_dPar, p_dAug, p_dApp, p_dSetIx, p_nLst, p_nRep, p_nOf, p_dSetN, p_dParN1, p_dParNN, p_iSeq, p_iRng1, p_iRng2, p_oNo, p_oIx, p_dSl, p_asIx, p_opTup, p_opLst, p_lenT, p_lenL, p_lenS, p_tupT, p_tupL, p_add, p_sub, p_mul, p_lt, p_le, p_gt, p_ge, p_eqI, p_neI, p_isN, p_isnN, p_isB, p_isnB, p_isNone_n, p_isNone_i, p_isNone_t, p_isNone_l, p_appL, p_appT, b_mc, b_mn, b_ac, b_an, b_rs, b_rz, b_lc, b_ln, b_it, b_if, b_itt, b_iff, p_dSeq, p_eqB, p_neB, len_eT, len_eR, len_eV, isNone_eO, seq_eT, seq_eR, seq_eV, seq_eL, eO_some, eO_none, len_eL, p_dOrT, ↓p_eqN, ↓p_neN, ↓p_ltN, ↓p_leN, ↓p_gtN, ↓p_geN, Nat.reduceSub, Nat.reduceAdd, Nat.reduceLeDiff, f, q2]
theorem div_it {t : Int} {l : Nat} (h : 0 < l) (h2 : l < 18446744073709551616) : opFdiv (.int t) (.int (l : Nat)) = some (.int (t / (l : Int))) := by
  have h' : (0 : Int) < l := by omega
  have h3 : (l : Int) < 18446744073709551616 := by omega
  simp only [opFdiv, if_pos (And.intro h' h3)]
theorem mul_it {a b : Int} (h1 : -18446744073709551616 < b) (h2 : b < 18446744073709551616) : opMul (.int a) (.int b) = some (.int (a * b)) := by
  have : mulOk a b = true := by simp [mulOk, h1, h2]
  rw [p_mul, if_pos this]
theorem sumI_snoc {α : Type} (L : List α) (x : α) (g : α → Int) : sumI (L ++ [x]) g = sumI L g + g x := by
  rw [sumI_append]
  show sumI L g + (g x + 0) = _
  omega
theorem rung_to_m {L : List (Nat × Nat)} (hL : ∀ s ∈ L, 0 < s.2 ∧ s.2 < 18446744073709551616 ∧ s.1 < 6) (t : Int) : m_rung_to [.lst (L.map eM), .int t] = some (.int (sumI L fun s => fR s.1 * mulN t s.2)) := by
  obtain ⟨ρ', q1, ag, q2⟩ := for_agTP (g := gT (gsCons (gN 3) (gsCons (gN 4) gsNil))) (b := m_rung_to_b1) (ws := [3, 4, 2]) (ρ := st [some (.lst (L.map eM)), some (.int t), none, none, none] 2 (.int 0)) eM (fun pre ρ' => lk ρ' 2 = some (.int (sumI pre fun s => fR s.1 * mulN t s.2))) L rfl (by
    intro pre s r' e ρ1 ag e2
    have hl : ρ1.length = 5 := ag.1
    have sb := hL s (by rw [e]; simp)
    have a1 := ag.lk 1 (by decide) (x := some (.int t)) rfl
    have dd := div_it (t := t) sb.1 sb.2.1
    have ad : opAdd (.int (t / (s.2 : Int))) (.int 1) = some (.int (mulN t s.2)) := rfl
    have gt : opGt (.int (s.1 : Nat)) (.int 0) = some (.bl (decide (0 < s.1))) := p_gtN _ 0
    have mo : opMod (.int (s.1 : Nat)) (.int 2) = some (.int ((s.1 % 2 : Nat) : Int)) := mod_n (b := 2) (by decide)
    have eq : opEq (.int ((s.1 % 2 : Nat) : Int)) (.int 1) = some (.bl (decide (s.1 % 2 = 1))) := p_eqN _ 1
    have ng : opNeg (.int 1) = some (.int (-1)) := rfl
    have m1 := mul_it (a := mulN t s.2) (b := 1) (by decide) (by decide)
    have m2 := mul_it (a := mulN t s.2) (b := -1) (by decide) (by decide)
    rw [sumI_snoc]
    refine ⟨st (st ρ1 3 (.int (s.1 : Nat))) 4 (.int (s.2 : Nat)), by simp only [eM, bnd_some, bnd_none, p_dc, p_dv, lk_z, lk_s, st_z, st_s, un_z, un_s, wipe_n, wipe_c, p_d2, p_d1, p_dnil, p_dcons, p_dL, p_asB, p_asI, p_asL, p_asSeqL, p_asSeqT, p_bV, p_dB, p_bAnd, p_bOr, p_bNot, p_dIf, p_dAnd, p_dOr, p_dNot, p_dCh, p_bYes, p_gN, p_gT, p_gsNil, p_gsCons, p_dNx, p_dRet, p_dSet, p_dIfS, p_dAsg, p_dPar, p_dAug, p_dApp, p_dSetIx, p_nLst, p_nRep, p_nOf, p_dSetN, p_dParN1, p_dParNN, p_iSeq, p_iRng1, p_iRng2, p_oNo, p_oIx, p_dSl, p_asIx, p_opTup, p_opLst, p_lenT, p_lenL, p_lenS, p_tupT, p_tupL, p_add, p_sub, p_mul, p_lt, p_le, p_gt, p_ge, p_eqI, p_neI, p_isN, p_isnN, p_isB, p_isnB, p_isNone_n, p_isNone_i, p_isNone_t, p_isNone_l, p_appL, p_appT, b_mc, b_mn, b_ac, b_an, b_rs, b_rz, b_lc, b_ln, b_it, b_if, b_itt, b_iff, p_dSeq, p_eqB, p_neB, len_eT, len_eR, len_eV, isNone_eO, seq_eT, seq_eR, seq_eV, seq_eL, eO_some, eO_none, len_eL, p_dOrT, ↓p_eqN, ↓p_neN, ↓p_ltN, ↓p_leN, ↓p_gtN, ↓p_geN], ?_⟩
    by_cases z : s.1 = 0
    · have e0 : fR s.1 = 0 := by unfold fR; rw [if_pos z]
      rw [decide_eq_false (by omega)] at gt
      refine ⟨st (st ρ1 3 (.int (s.1 : Nat))) 4 (.int (s.2 : Nat)), ?_, (ag.st (by decide)).st (by decide), ?_⟩
      · simp only [m_rung_to_b1, bnd_some, bnd_none, p_dc, p_dv, lk_z, lk_s, st_z, st_s, un_z, un_s, wipe_n, wipe_c, p_d2, p_d1, p_dnil, p_dcons, p_dL, p_asB, p_asI, p_asL, p_asSeqL, p_asSeqT, p_bV, p_dB, p_bAnd, p_bOr, p_bNot, p_dIf, p_dAnd, p_dOr, p_dNot, p_dCh, p_bYes, p_gN, p_gT, p_gsNil, p_gsCons, p_dNx, p_dRet, p_dSet, p_dIfS, p_dAsg, p_dPar, p_dAug, p_dApp, p_dSetIx, p_nLst, p_nRep, p_nOf, p_dSetN, p_dParN1, p_dParNN, p_iSeq, p_iRng1, p_iRng2, p_oNo, p_oIx, p_dSl, p_asIx, p_opTup, p_opLst, p_lenT, p_lenL, p_lenS, p_tupT, p_tupL, p_add, p_sub, p_mul, p_lt, p_le, p_gt, p_ge, p_eqI, p_neI, p_isN, p_isnN, p_isB, p_isnB, p_isNone_n, p_isNone_i, p_isNone_t, p_isNone_l, p_appL, p_appT, b_mc, b_mn, b_ac, b_an, b_rs, b_rz, b_lc, b_ln, b_it, b_if, b_itt, b_iff, p_dSeq, p_eqB, p_neB, len_eT, len_eR, len_eV, isNone_eO, seq_eT, seq_eR, seq_eV, seq_eL, eO_some, eO_none, len_eL, p_dOrT, ↓p_eqN, ↓p_neN, ↓p_ltN, ↓p_leN, ↓p_gtN, ↓p_geN, lk_st_o, lk_st_i, len_st, Nat.reduceBEq, Nat.reduceLT, hl, ↓gt]
      · rw [lk_st_o (by decide), lk_st_o (by decide), e2, e0, Int.zero_mul, Int.add_zero]
    · rw [decide_eq_true (by omega)] at gt
      have ad2 := p_add (sumI pre fun s => fR s.1 * mulN t s.2)
      refine ⟨st (st (st ρ1 3 (.int (s.1 : Nat))) 4 (.int (s.2 : Nat))) 2 (.int ((sumI pre fun s => fR s.1 * mulN t s.2) + fR s.1 * mulN t s.2)), ?_, ((ag.st (by decide)).st (by decide)).st (by decide), by rw [lk_st_i (by simp only [len_st, hl]; decide)]⟩
      by_cases y : s.1 % 2 = 1
      · have e0 : fR s.1 * mulN t s.2 = mulN t s.2 * 1 := by unfold fR; rw [if_neg z, if_pos y]; omega
        rw [decide_eq_true y] at eq
        rw [e0]
        simp only [m_rung_to_b1, bnd_some, bnd_none, p_dc, p_dv, lk_z, lk_s, st_z, st_s, un_z, un_s, wipe_n, wipe_c, p_d2, p_d1, p_dnil, p_dcons, p_dL, p_asB, p_asI, p_asL, p_asSeqL, p_asSeqT, p_bV, p_dB, p_bAnd, p_bOr, p_bNot, p_dIf, p_dAnd, p_dOr, p_dNot, p_dCh, p_bYes, p_gN, p_gT, p_gsNil, p_gsCons, p_dNx, p_dRet, p_dSet, p_dIfS, p_dAsg, p_dPar, p_dAug, p_dApp, p_dSetIx, p_nLst, p_nRep, p_nOf, p_dSetN, p_dParN1, p_dParNN, p_iSeq, p_iRng1, p_iRng2, p_oNo, p_oIx, p_dSl, p_asIx, p_opTup, p_opLst, p_lenT, p_lenL, p_lenS, p_tupT, p_tupL, p_add, p_sub, p_mul, p_lt, p_le, p_gt, p_ge, p_eqI, p_neI, p_isN, p_isnN, p_isB, p_isnB, p_isNone_n, p_isNone_i, p_isNone_t, p_isNone_l, p_appL, p_appT, b_mc, b_mn, b_ac, b_an, b_rs, b_rz, b_lc, b_ln, b_it, b_if, b_itt, b_iff, p_dSeq, p_eqB, p_neB, len_eT, len_eR, len_eV, isNone_eO, seq_eT, seq_eR, seq_eV, seq_eL, eO_some, eO_none, len_eL, p_dOrT, ↓p_eqN, ↓p_neN, ↓p_ltN, ↓p_leN, ↓p_gtN, ↓p_geN, lk_st_o, lk_st_i, len_st, Nat.reduceBEq, Nat.reduceLT, hl, ↓gt, a1, dd, ↓ad, mo, ↓eq, ↓m1, e2, ad2]
      · have e0 : fR s.1 * mulN t s.2 = mulN t s.2 * (-1) := by unfold fR; rw [if_neg z, if_neg y]; omega
        rw [decide_eq_false y] at eq
        rw [e0]
        simp only [m_rung_to_b1, bnd_some, bnd_none, p_dc, p_dv, lk_z, lk_s, st_z, st_s, un_z, un_s, wipe_n, wipe_c, p_d2, p_d1, p_dnil, p_dcons, p_dL, p_asB, p_asI, p_asL, p_asSeqL, p_asSeqT, p_bV, p_dB, p_bAnd, p_bOr, p_bNot, p_dIf, p_dAnd, p_dOr, p_dNot, p_dCh, p_bYes, p_gN, p_gT, p_gsNil, p_gsCons, p_dNx, p_dRet, p_dSet, p_dIfS, p_dAsg, p_dPar, p_dAug, p_dApp, p_dSetIx, p_nLst, p_nRep, p_nOf, p_dSetN, p_dParN1, p_dParNN, p_iSeq, p_iRng1, p_iRng2, p_oNo, p_oIx, p_dSl, p_asIx, p_opTup, p_opLst, p_lenT, p_lenL, p_lenS, p_tupT, p_tupL, p_add, p_sub, p_mul, p_lt, p_le, p_gt, p_ge, p_eqI, p_neI, p_isN, p_isnN, p_isB, p_isnB, p_isNone_n, p_isNone_i, p_isNone_t, p_isNone_l, p_appL, p_appT, b_mc, b_mn, b_ac, b_an, b_rs, b_rz, b_lc, b_ln, b_it, b_if, b_itt, b_iff, p_dSeq, p_eqB, p_neB, len_eT, len_eR, len_eV, isNone_eO, seq_eT, seq_eR, seq_eV, seq_eL, eO_some, eO_none, len_eL, p_dOrT, ↓p_eqN, ↓p_neN, ↓p_ltN, ↓p_leN, ↓p_gtN, ↓p_geN, lk_st_o, lk_st_i, len_st, Nat.reduceBEq, Nat.reduceLT, hl, ↓gt, a1, dd, ↓ad, mo, ↓eq, ng, ↓m2, e2, ad2])
  have f := (for_eq (it := iSeq (dv 0)) (ds := L.map eM) (ρ := st [some (.lst (L.map eM)), some (.int t), none, none, none] 2 (.int 0)) rfl).trans q1
  refine run_rt rfl ?_
  generalize D.lst (L.map eM) = ll at f
  simp only [bnd_some, bnd_none, p_dc, p_dv, lk_z, lk_s, st_z, st_s, un_z, un_s, wipe_n, wipe_c, p_d2, p_d1, p_dnil, p_dcons, p_dL, p_asB, p_asI, p_asL, p_asSeqL, p_asSeqT, p_bV, p_dB, p_bAnd, p_bOr, p_bNot, p_dIf, p_dAnd, p_dOr, p_dNot, p_dCh, p_bYes, p_gN, p_gT, p_gsNil, p_gsCons, p_dNx, p_dRet, p_dSet, p_dIfS, p_dAsg, p_dPar, p_dAug, p_dApp, p_dSetIx, p_nLst, p_nRep, p_nOf, p_dSetN, p_dParN1, p_dParNN, p_iSeq, p_iRng1, p_iRng2, p_oNo, p_oIx, p_dSl, p_asIx, p_opTup, p_opLst, p_lenT, p_lenL, p_lenS, p_tupT, p_tupL, p_add, p_sub, p_mul, p_lt, p_le, p_gt, p_ge, p_eqI, p_neI, p_isN, p_isnN, p_isB, p_isnB, p_isNone_n, p_isNone_i, p_isNone_t, p_isNone_l, p_appL, p_appT, b_mc, b_mn, b_ac, b_an, b_rs, b_rz, b_lc, b_ln, b_it, b_if, b_itt, b_iff, p_dSeq, p_eqB, p_neB, len_eT, len_eR, len_eV, isNone_eO, seq_eT, seq_eR, seq_eV, seq_eL, eO_some, eO_none, len_eL, p_dOrT, ↓p_eqN, ↓p_neN, ↓p_ltN, ↓p_leN, ↓p_gtN, ↓p_geN] at f
  simp only [bnd_some, bnd_none, p_dc, p_dv, lk_z, lk_s, st_z, st_s, un_z, un_s, wipe_n, wipe_c, p_d2, p_d1, p_dnil, p_dcons, p_dL, p_asB, p_asI, p_asL, p_asSeqL, p_asSeqT, p_bV, p_dB, p_bAnd, p_bOr, p_bNot, p_dIf, p_dAnd, p_dOr, p_dNot, p_dCh, p_bYes, p_gN, p_gT, p_gsNil, p_gsCons, p_dNx, p_dRet, p_dSet, p_dIfS, p_dAsg, p_dPar, p_dAug, p_dApp, p_dSetIx, p_nLst, p_nRep, p_nOf, p_dSetN, p_dParN1, p_dParNN, p_iSeq, p_iRng1, p_iRng2, p_oNo, p_oIx, p_dSl, p_asIx, p_opTup, p_opLst, p_lenT, p_lenL, p_lenS, p_tupT, p_tupL, p_add, p_sub, p_mul, p_lt, p_le, p_gt, p_ge, p_eqI, p_neI, p_isN, p_isnN, p_isB, p_isnB, p_isNone_n, p_isNone_i, p_isNone_t, p_isNone_l, p_appL, p_appT, b_mc, b_mn, b_ac, b_an, b_rs, b_rz, b_lc, b_ln, b_it, b_if, b_itt, b_iff, p_dSeq, p_eqB, p_neB, len_eT, len_eR, len_eV, isNone_eO, seq_eT, seq_eR, seq_eV, seq_eL, eO_some, eO_none, len_eL, p_dOrT, ↓p_eqN, ↓p_neN, ↓p_ltN, ↓p_leN, ↓p_gtN, ↓p_geN, Nat.reduceSub, f, q2]
theorem ringN_le (ps : List Nat) (x : Nat) : ringN ps x ≤ ps.length := List.length_filter_le _ _
def anyR (ps : List Nat) (x : Nat) : Bool := decide (ringN ps x ≠ 0)
theorem count_rings_m {ps : List Nat} (h : Pds ps) (lo hi : Nat) : m_count_rings [eB ps, .int (lo : Nat), .int (hi : Nat)] = some (.int ((if lo ≤ hi then upTo (anyR ps) (hi + 1) - upTo (anyR ps) lo else 0 : Nat) : Int)) := by
  have mt := meetings_m h
  have mp := meet_pos h
  have key : ∀ T : Nat, m_rung_to [.lst ((meet ps).map eM), .int ((T : Int) - 1)] = some (.int (upTo (anyR ps) T : Nat)) := fun T => by
    rw [rung_to_m mp]
    refine congrArg (fun i => some (D.int i)) ?_
    refine sum_upTo (fun s hs => (mp s hs).1) fR (anyR ps) (fun x => ?_) T
    rw [at_time x ps.reverse ps (by simp), hS_R _ (by have := ringN_le ps x; have := h.five; omega)]
    unfold anyR
    by_cases z : ringN ps x = 0
    · rw [if_pos z, if_neg (by simp [z])]
    · rw [if_neg z, if_pos (by simp [z])]
  have k1 := key (hi + 1)
  have e1 : ((hi + 1 : Nat) : Int) - 1 = (hi : Int) := by omega
  rw [e1] at k1
  have k2 := key lo
  have le := p_leN lo hi
  have sb := p_sub (lo : Int) 1
  refine run_rt rfl ?_
  generalize D.lst ((meet ps).map eM) = ll at mt k1 k2
  by_cases z : lo ≤ hi
  · rw [decide_eq_true z] at le
    have mono : upTo (anyR ps) lo ≤ upTo (anyR ps) (hi + 1) := by
      obtain ⟨m, e⟩ : ∃ m, hi + 1 = lo + m := ⟨hi + 1 - lo, by omega⟩
      rw [e, upTo_add]
      omega
    have mx : opMax [.int 0, .int ((upTo (anyR ps) (hi + 1) : Int) - (upTo (anyR ps) lo : Int))] = some (.int ((upTo (anyR ps) (hi + 1) - upTo (anyR ps) lo : Nat) : Int)) := by
      show some (D.int (if (upTo (anyR ps) (hi + 1) : Int) - (upTo (anyR ps) lo : Int) > 0 then (upTo (anyR ps) (hi + 1) : Int) - (upTo (anyR ps) lo : Int) else 0)) = _
      by_cases y : (upTo (anyR ps) (hi + 1) : Int) - (upTo (anyR ps) lo : Int) > 0
      · rw [if_pos y]
        congr 2
        omega
      · rw [if_neg y]
        congr 2
        omega
    rw [if_pos z]
    simp only [bnd_some, bnd_none, p_dc, p_dv, lk_z, lk_s, st_z, st_s, un_z, un_s, wipe_n, wipe_c, p_d2, p_d1, p_dnil, p_dcons, p_dL, p_asB, p_asI, p_asL, p_asSeqL, p_asSeqT, p_bV, p_dB, p_bAnd, p_bOr, p_bNot, p_dIf, p_dAnd, p_dOr, p_dNot, p_dCh, p_bYes, p_gN, p_gT, p_gsNil, p_gsCons, p_dNx, p_dRet, p_dSet, p_dIfS, p_dAsg, p_dPar, p_dAug, p_dApp, p_dSetIx, p_nLst, p_nRep, p_nOf, p_dSetN, p_dParN1, p_dParNN, p_iSeq, p_iRng1, p_iRng2, p_oNo, p_oIx, p_dSl, p_asIx, p_opTup, p_opLst, p_lenT, p_lenL, p_lenS, p_tupT, p_tupL, p_add, p_sub, p_mul, p_lt, p_le, p_gt, p_ge, p_eqI, p_neI, p_isN, p_isnN, p_isB, p_isnB, p_isNone_n, p_isNone_i, p_isNone_t, p_isNone_l, p_appL, p_appT, b_mc, b_mn, b_ac, b_an, b_rs, b_rz, b_lc, b_ln, b_it, b_if, b_itt, b_iff, p_dSeq, p_eqB, p_neB, len_eT, len_eR, len_eV, isNone_eO, seq_eT, seq_eR, seq_eV, seq_eL, eO_some, eO_none, len_eL, p_dOrT, ↓p_eqN, ↓p_neN, ↓p_ltN, ↓p_leN, ↓p_gtN, ↓p_geN, Nat.reduceSub, mt, ↓le, sb, k1, k2, p_sub, mx]
  · rw [decide_eq_false z] at le
    rw [if_neg z]
    simp only [bnd_some, bnd_none, p_dc, p_dv, lk_z, lk_s, st_z, st_s, un_z, un_s, wipe_n, wipe_c, p_d2, p_d1, p_dnil, p_dcons, p_dL, p_asB, p_asI, p_asL, p_asSeqL, p_asSeqT, p_bV, p_dB, p_bAnd, p_bOr, p_bNot, p_dIf, p_dAnd, p_dOr, p_dNot, p_dCh, p_bYes, p_gN, p_gT, p_gsNil, p_gsCons, p_dNx, p_dRet, p_dSet, p_dIfS, p_dAsg, p_dPar, p_dAug, p_dApp, p_dSetIx, p_nLst, p_nRep, p_nOf, p_dSetN, p_dParN1, p_dParNN, p_iSeq, p_iRng1, p_iRng2, p_oNo, p_oIx, p_dSl, p_asIx, p_opTup, p_opLst, p_lenT, p_lenL, p_lenS, p_tupT, p_tupL, p_add, p_sub, p_mul, p_lt, p_le, p_gt, p_ge, p_eqI, p_neI, p_isN, p_isnN, p_isB, p_isnB, p_isNone_n, p_isNone_i, p_isNone_t, p_isNone_l, p_appL, p_appT, b_mc, b_mn, b_ac, b_an, b_rs, b_rz, b_lc, b_ln, b_it, b_if, b_itt, b_iff, p_dSeq, p_eqB, p_neB, len_eT, len_eR, len_eV, isNone_eO, seq_eT, seq_eR, seq_eV, seq_eL, eO_some, eO_none, len_eL, p_dOrT, ↓p_eqN, ↓p_neN, ↓p_ltN, ↓p_leN, ↓p_gtN, ↓p_geN, Nat.reduceSub, mt, ↓le]
    rfl
end Mi
namespace Mi
open DL
theorem bells_of {ps : List Nat} (h : Pds ps) : opBells (ps.map fun p : Nat => D.int p) = some (eB ps) := by
  have ai : asInts (ps.map fun p : Nat => D.int p) = some (ps.map fun p : Nat => (p : Int)) := asInts_map _ ps
  have ok : bellOk (ps.map fun p : Nat => (p : Int)) = true := by
    unfold bellOk
    rw [List.length_map, Bool.and_eq_true, Bool.and_eq_true]
    refine ⟨decide_eq_true h.one, decide_eq_true h.five, ?_⟩
    rw [List.all_eq_true]
    intro i hi
    obtain ⟨p, hp, rfl⟩ := List.mem_map.mp hi
    have := h.bd p hp
    rw [Bool.and_eq_true]
    exact ⟨decide_eq_true (by omega), decide_eq_true (by omega)⟩
  show (asInts _).bind _ = _
  rw [ai]
  simp only [Option.bind_some, if_pos ok]
  rfl
theorem tower_m {ps : List Nat} (h : Pds ps) : m_law_tower [eI ps] = some (eB ps) := by
  have hb := bells_of h
  have h1 := h.one
  have h5 := h.five
  refine run_rt rfl ?_
  have ln : opLen [eI ps] = some (.int (ps.length : Int)) := by unfold eI; simp
  have ix : ∀ k, k < ps.length → opIx (eI ps) (.int k) = some (.int (ps.getD k 0)) := fun k hk => ix_eI hk
  match ps, h, hb, h1, h5, ln, ix with
  | [a], h, hb, h1, h5, ln, ix =>
    have i0 : opIx (eI [a]) (.int 0) = some (.int a) := ix 0 (by simp)
    have ln : opLen [eI [a]] = some (.int 1) := ln
    have e1 : opEq (.int 1) (.int 1) = some (.bl true) := rfl
    have hb : opBells [.int a] = some (eB [a]) := hb
    simp only [bnd_some, bnd_none, p_dc, p_dv, lk_z, lk_s, st_z, st_s, un_z, un_s, wipe_n, wipe_c, p_d2, p_d1, p_dnil, p_dcons, p_dL, p_asB, p_asI, p_asL, p_asSeqL, p_asSeqT, p_bV, p_dB, p_bAnd, p_bOr, p_bNot, p_dIf, p_dAnd, p_dOr, p_dNot, p_dCh, p_bYes, p_gN, p_gT, p_gsNil, p_gsCons, p_dNx, p_dRet, p_dSet, p_dIfS, p_dAsg, p_dPar, p_dAug, p_dApp, p_dSetIx, p_nLst, p_nRep, p_nOf, p_dSetN, p_dParN1, p_dParNN, p_iSeq, p_iRng1, p_iRng2, p_oNo, p_oIx, p_dSl, p_asIx, p_opTup, p_opLst, p_lenT, p_lenL, p_lenS, p_tupT, p_tupL, p_add, p_sub, p_mul, p_lt, p_le, p_gt, p_ge, p_eqI, p_neI, p_isN, p_isnN, p_isB, p_isnB, p_isNone_n, p_isNone_i, p_isNone_t, p_isNone_l, p_appL, p_appT, b_mc, b_mn, b_ac, b_an, b_rs, b_rz, b_lc, b_ln, b_it, b_if, b_itt, b_iff, p_dSeq, p_eqB, p_neB, len_eT, len_eR, len_eV, isNone_eO, seq_eT, seq_eR, seq_eV, seq_eL, eO_some, eO_none, len_eL, p_dOrT, ↓p_eqN, ↓p_neN, ↓p_ltN, ↓p_leN, ↓p_gtN, ↓p_geN, Nat.reduceSub, ln, ↓e1, i0, hb]
  | [a, b], h, hb, h1, h5, ln, ix =>
    have i0 : opIx (eI [a, b]) (.int 0) = some (.int a) := ix 0 (by simp)
    have i1 : opIx (eI [a, b]) (.int 1) = some (.int b) := ix 1 (by simp)
    have ln : opLen [eI [a, b]] = some (.int 2) := ln
    have e1 : opEq (.int 2) (.int 1) = some (.bl false) := rfl
    have e2 : opEq (.int 2) (.int 2) = some (.bl true) := rfl
    have hb : opBells [.int a, .int b] = some (eB [a, b]) := hb
    simp only [bnd_some, bnd_none, p_dc, p_dv, lk_z, lk_s, st_z, st_s, un_z, un_s, wipe_n, wipe_c, p_d2, p_d1, p_dnil, p_dcons, p_dL, p_asB, p_asI, p_asL, p_asSeqL, p_asSeqT, p_bV, p_dB, p_bAnd, p_bOr, p_bNot, p_dIf, p_dAnd, p_dOr, p_dNot, p_dCh, p_bYes, p_gN, p_gT, p_gsNil, p_gsCons, p_dNx, p_dRet, p_dSet, p_dIfS, p_dAsg, p_dPar, p_dAug, p_dApp, p_dSetIx, p_nLst, p_nRep, p_nOf, p_dSetN, p_dParN1, p_dParNN, p_iSeq, p_iRng1, p_iRng2, p_oNo, p_oIx, p_dSl, p_asIx, p_opTup, p_opLst, p_lenT, p_lenL, p_lenS, p_tupT, p_tupL, p_add, p_sub, p_mul, p_lt, p_le, p_gt, p_ge, p_eqI, p_neI, p_isN, p_isnN, p_isB, p_isnB, p_isNone_n, p_isNone_i, p_isNone_t, p_isNone_l, p_appL, p_appT, b_mc, b_mn, b_ac, b_an, b_rs, b_rz, b_lc, b_ln, b_it, b_if, b_itt, b_iff, p_dSeq, p_eqB, p_neB, len_eT, len_eR, len_eV, isNone_eO, seq_eT, seq_eR, seq_eV, seq_eL, eO_some, eO_none, len_eL, p_dOrT, ↓p_eqN, ↓p_neN, ↓p_ltN, ↓p_leN, ↓p_gtN, ↓p_geN, Nat.reduceSub, ln, ↓e1, ↓e2, i0, i1, hb]
  | [a, b, c], h, hb, h1, h5, ln, ix =>
    have i0 : opIx (eI [a, b, c]) (.int 0) = some (.int a) := ix 0 (by simp)
    have i1 : opIx (eI [a, b, c]) (.int 1) = some (.int b) := ix 1 (by simp)
    have i2 : opIx (eI [a, b, c]) (.int 2) = some (.int c) := ix 2 (by simp)
    have ln : opLen [eI [a, b, c]] = some (.int 3) := ln
    have e1 : opEq (.int 3) (.int 1) = some (.bl false) := rfl
    have e2 : opEq (.int 3) (.int 2) = some (.bl false) := rfl
    have e3 : opEq (.int 3) (.int 3) = some (.bl true) := rfl
    have hb : opBells [.int a, .int b, .int c] = some (eB [a, b, c]) := hb
    simp only [bnd_some, bnd_none, p_dc, p_dv, lk_z, lk_s, st_z, st_s, un_z, un_s, wipe_n, wipe_c, p_d2, p_d1, p_dnil, p_dcons, p_dL, p_asB, p_asI, p_asL, p_asSeqL, p_asSeqT, p_bV, p_dB, p_bAnd, p_bOr, p_bNot, p_dIf, p_dAnd, p_dOr, p_dNot, p_dCh, p_bYes, p_gN, p_gT, p_gsNil, p_gsCons, p_dNx, p_dRet, p_dSet, p_dIfS, p_dAsg, p_dPar, p_dAug, p_dApp, p_dSetIx, p_nLst, p_nRep, p_nOf, p_dSetN, p_dParN1, p_dParNN, p_iSeq, p_iRng1, p_iRng2, p_oNo, p_oIx, p_dSl, p_asIx, p_opTup, p_opLst, p_lenT, p_lenL, p_lenS, p_tupT, p_tupL, p_add, p_sub, p_mul, p_lt, p_le, p_gt, p_ge, p_eqI, p_neI, p_isN, p_isnN, p_isB, p_isnB, p_isNone_n, p_isNone_i, p_isNone_t, p_isNone_l, p_appL, p_appT, b_mc, b_mn, b_ac, b_an, b_rs, b_rz, b_lc, b_ln, b_it, b_if, b_itt, b_iff, p_dSeq, p_eqB, p_neB, len_eT, len_eR, len_eV, isNone_eO, seq_eT, seq_eR, seq_eV, seq_eL, eO_some, eO_none, len_eL, p_dOrT, ↓p_eqN, ↓p_neN, ↓p_ltN, ↓p_leN, ↓p_gtN, ↓p_geN, Nat.reduceSub, ln, ↓e1, ↓e2, ↓e3, i0, i1, i2, hb]
  | [a, b, c, d], h, hb, h1, h5, ln, ix =>
    have i0 : opIx (eI [a, b, c, d]) (.int 0) = some (.int a) := ix 0 (by simp)
    have i1 : opIx (eI [a, b, c, d]) (.int 1) = some (.int b) := ix 1 (by simp)
    have i2 : opIx (eI [a, b, c, d]) (.int 2) = some (.int c) := ix 2 (by simp)
    have i3 : opIx (eI [a, b, c, d]) (.int 3) = some (.int d) := ix 3 (by simp)
    have ln : opLen [eI [a, b, c, d]] = some (.int 4) := ln
    have e1 : opEq (.int 4) (.int 1) = some (.bl false) := rfl
    have e2 : opEq (.int 4) (.int 2) = some (.bl false) := rfl
    have e3 : opEq (.int 4) (.int 3) = some (.bl false) := rfl
    have e4 : opEq (.int 4) (.int 4) = some (.bl true) := rfl
    have hb : opBells [.int a, .int b, .int c, .int d] = some (eB [a, b, c, d]) := hb
    simp only [bnd_some, bnd_none, p_dc, p_dv, lk_z, lk_s, st_z, st_s, un_z, un_s, wipe_n, wipe_c, p_d2, p_d1, p_dnil, p_dcons, p_dL, p_asB, p_asI, p_asL, p_asSeqL, p_asSeqT, p_bV, p_dB, p_bAnd, p_bOr, p_bNot, p_dIf, p_dAnd, p_dOr, p_dNot, p_dCh, p_bYes, p_gN, p_gT, p_gsNil, p_gsCons, p_dNx, p_dRet, p_dSet, p_dIfS, p_dAsg, p_dPar, p_dAug, p_dApp, p_dSetIx, p_nLst, p_nRep, p_nOf, p_dSetN, p_dParN1, p_dParNN, p_iSeq, p_iRng1, p_iRng2, p_oNo, p_oIx, p_dSl, p_asIx, p_opTup, p_opLst, p_lenT, p_lenL, p_lenS, p_tupT, p_tupL, p_add, p_sub, p_mul, p_lt, p_le, p_gt, p_ge, p_eqI, p_neI, p_isN, p_isnN, p_isB, p_isnB, p_isNone_n, p_isNone_i, p_isNone_t, p_isNone_l, p_appL, p_appT, b_mc, b_mn, b_ac, b_an, b_rs, b_rz, b_lc, b_ln, b_it, b_if, b_itt, b_iff, p_dSeq, p_eqB, p_neB, len_eT, len_eR, len_eV, isNone_eO, seq_eT, seq_eR, seq_eV, seq_eL, eO_some, eO_none, len_eL, p_dOrT, ↓p_eqN, ↓p_neN, ↓p_ltN, ↓p_leN, ↓p_gtN, ↓p_geN, Nat.reduceSub, ln, ↓e1, ↓e2, ↓e3, ↓e4, i0, i1, i2, i3, hb]
  | [a, b, c, d, e], h, hb, h1, h5, ln, ix =>
    have i0 : opIx (eI [a, b, c, d, e]) (.int 0) = some (.int a) := ix 0 (by simp)
    have i1 : opIx (eI [a, b, c, d, e]) (.int 1) = some (.int b) := ix 1 (by simp)
    have i2 : opIx (eI [a, b, c, d, e]) (.int 2) = some (.int c) := ix 2 (by simp)
    have i3 : opIx (eI [a, b, c, d, e]) (.int 3) = some (.int d) := ix 3 (by simp)
    have i4 : opIx (eI [a, b, c, d, e]) (.int 4) = some (.int e) := ix 4 (by simp)
    have ln : opLen [eI [a, b, c, d, e]] = some (.int 5) := ln
    have e1 : opEq (.int 5) (.int 1) = some (.bl false) := rfl
    have e2 : opEq (.int 5) (.int 2) = some (.bl false) := rfl
    have e3 : opEq (.int 5) (.int 3) = some (.bl false) := rfl
    have e4 : opEq (.int 5) (.int 4) = some (.bl false) := rfl
    have hb : opBells [.int a, .int b, .int c, .int d, .int e] = some (eB [a, b, c, d, e]) := hb
    simp only [bnd_some, bnd_none, p_dc, p_dv, lk_z, lk_s, st_z, st_s, un_z, un_s, wipe_n, wipe_c, p_d2, p_d1, p_dnil, p_dcons, p_dL, p_asB, p_asI, p_asL, p_asSeqL, p_asSeqT, p_bV, p_dB, p_bAnd, p_bOr, p_bNot, p_dIf, p_dAnd, p_dOr, p_dNot, p_dCh, p_bYes, p_gN, p_gT, p_gsNil, p_gsCons, p_dNx, p_dRet, p_dSet, p_dIfS, p_dAsg, p_dPar, p_dAug, p_dApp, p_dSetIx, p_nLst, p_nRep, p_nOf, p_dSetN, p_dParN1, p_dParNN, p_iSeq, p_iRng1, p_iRng2, p_oNo, p_oIx, p_dSl, p_asIx, p_opTup, p_opLst, p_lenT, p_lenL, p_lenS, p_tupT, p_tupL, p_add, p_sub, p_mul, p_lt, p_le, p_gt, p_ge, p_eqI, p_neI, p_isN, p_isnN, p_isB, p_isnB, p_isNone_n, p_isNone_i, p_isNone_t, p_isNone_l, p_appL, p_appT, b_mc, b_mn, b_ac, b_an, b_rs, b_rz, b_lc, b_ln, b_it, b_if, b_itt, b_iff, p_dSeq, p_eqB, p_neB, len_eT, len_eR, len_eV, isNone_eO, seq_eT, seq_eR, seq_eV, seq_eL, eO_some, eO_none, len_eL, p_dOrT, ↓p_eqN, ↓p_neN, ↓p_ltN, ↓p_leN, ↓p_gtN, ↓p_geN, Nat.reduceSub, ln, ↓e1, ↓e2, ↓e3, ↓e4, i0, i1, i2, i3, i4, hb]
  | [], h, hb, h1, h5, ln, ix => simp at h1
  | _ :: _ :: _ :: _ :: _ :: _ :: _, h, hb, h1, h5, ln, ix => simp at h5
theorem ring_len (ps : List Nat) (x : Nat) : ((List.range ps.length).filter fun a => decide (x % ps.getD a 0 = 0)).length = ringN ps x := by
  have e : ps = (List.range ps.length).map fun a => ps.getD a 0 := ext_getD rfl (by simp) fun i hi => (getD_rmap (fun a => ps.getD a 0) hi).symm
  unfold ringN
  conv => rhs; rw [e]
  rw [List.filter_map, List.length_map]
  rfl
end Mi
namespace Mi
open DL
theorem ringN_0 (ps : List Nat) : ringN ps 0 = ps.length := by
  unfold ringN
  rw [List.filter_eq_self.mpr]
  intro p _
  rw [Nat.zero_mod]
  rfl
end Mi
namespace Mi
open DL
theorem upTo_win {P : Nat → Bool} {z : Nat} (h : ∀ x, P (x + z) = P x) : ∀ a, upTo P (a + z) = upTo P a + upTo P z
  | 0 => by
    rw [Nat.zero_add]
    show upTo P z = 0 + upTo P z
    omega
  | a + 1 => by
    have e : a + 1 + z = (a + z) + 1 := by omega
    rw [e, upTo_succ, upTo_succ, upTo_win h a, h a]
    omega
theorem ring_period {ps : List Nat} {z : Nat} (h : ∀ p ∈ ps, p ∣ z) (x : Nat) : ringN ps (x + z) = ringN ps x := by
  unfold ringN
  refine congrArg List.length (List.filter_congr fun p hp => ?_)
  obtain ⟨k, rfl⟩ := h p hp
  rw [Nat.add_mul_mod_self_left]
def lcmL (ps : List Nat) : Nat := ps.foldl (fun a p => Nat.lcm a p) 1
theorem lcmL_snoc (ps : List Nat) (p : Nat) : lcmL (ps ++ [p]) = Nat.lcm (lcmL ps) p := by
  unfold lcmL
  rw [List.foldl_append]
  rfl
theorem lcmL_spec : ∀ (r ps : List Nat), ps = r.reverse → (∀ p ∈ ps, 0 < p ∧ p ≤ 1000) → 0 < lcmL ps ∧ lcmL ps ≤ 1000 ^ ps.length ∧ ∀ p ∈ ps, p ∣ lcmL ps
  | [], ps, e, _ => by
    subst e
    exact ⟨by decide, by decide, by simp⟩
  | p :: r, ps, e, hb => by
    subst e
    rw [List.reverse_cons] at hb ⊢
    have hp := hb p (by simp)
    obtain ⟨h1, h2, h3⟩ := lcmL_spec r _ rfl fun q hq => hb q (by simp only [List.mem_append]; exact .inl hq)
    rw [lcmL_snoc, List.length_append, List.length_singleton, Nat.pow_succ]
    refine ⟨Nat.lcm_pos h1 hp.1, Nat.le_trans (Nat.le_of_dvd (Nat.mul_pos h1 hp.1) (Nat.lcm_dvd_mul _ p)) (Nat.mul_le_mul h2 hp.2), fun q hq => ?_⟩
    rcases List.mem_append.mp hq with z | z
    · exact Nat.dvd_trans (h3 q z) (Nat.dvd_lcm_left _ _)
    · rw [List.mem_singleton.mp z]
      exact Nat.dvd_lcm_right _ _
theorem together_m {ps : List Nat} (h : Pds ps) : opM m_B_together [eB ps] = some (.int (lcmL ps : Nat)) := by
  show m_B_together [eB ps] = _
  obtain ⟨ρ', q1, ag, q2⟩ := for_agPre (b := m_B_together_b1) (i := 2) (ws := [2, 1]) (ρ := st [some (eB ps), none, none] 1 (.int 1)) (fun p : Nat => D.int p) (fun pre ρ' => lk ρ' 1 = some (.int (lcmL pre : Nat))) ps (by decide) (show 2 < 3 by decide) rfl (fun pre ρ' d q => by rw [lk_st_o (by decide)]; exact q) (by
    intro pre p r' e ρ1 ag e2 e1
    have hl : ρ1.length = 3 := ag.1
    have hp := h.bd p (by rw [e]; simp)
    have sp := lcmL_spec pre.reverse pre (by simp) fun q hq => h.bd q (by rw [e]; simp only [List.mem_append]; exact .inl hq)
    have lm := lcm_m sp.1 (b := p) (by omega) (Nat.lt_of_le_of_lt (Nat.gcd_le_right _ hp.1) (by omega))
    refine ⟨st ρ1 1 (.int (lcmL (pre ++ [p]) : Nat)), ?_, ag.st (by decide), by rw [lk_st_i (by omega)]⟩
    rw [lcmL_snoc]
    simp only [m_B_together_b1, bnd_some, bnd_none, p_dc, p_dv, lk_z, lk_s, st_z, st_s, un_z, un_s, wipe_n, wipe_c, p_d2, p_d1, p_dnil, p_dcons, p_dL, p_asB, p_asI, p_asL, p_asSeqL, p_asSeqT, p_bV, p_dB, p_bAnd, p_bOr, p_bNot, p_dIf, p_dAnd, p_dOr, p_dNot, p_dCh, p_bYes, p_gN, p_gT, p_gsNil, p_gsCons, p_dNx, p_dRet, p_dSet, p_dIfS, p_dAsg, p_dPar, p_dAug, p_dApp, p_dSetIx, p_nLst, p_nRep, p_nOf, p_dSetN, p_dParN1, p_dParNN, p_iSeq, p_iRng1, p_iRng2, p_oNo, p_oIx, p_dSl, p_asIx, p_opTup, p_opLst, p_lenT, p_lenL, p_lenS, p_tupT, p_tupL, p_add, p_sub, p_mul, p_lt, p_le, p_gt, p_ge, p_eqI, p_neI, p_isN, p_isnN, p_isB, p_isnB, p_isNone_n, p_isNone_i, p_isNone_t, p_isNone_l, p_appL, p_appT, b_mc, b_mn, b_ac, b_an, b_rs, b_rz, b_lc, b_ln, b_it, b_if, b_itt, b_iff, p_dSeq, p_eqB, p_neB, len_eT, len_eR, len_eV, isNone_eO, seq_eT, seq_eR, seq_eV, seq_eL, eO_some, eO_none, len_eL, p_dOrT, ↓p_eqN, ↓p_neN, ↓p_ltN, ↓p_leN, ↓p_gtN, ↓p_geN, e1, e2, lm])
  have per := per_m ps
  have f := (for_eq (it := iSeq (d1 opPer (dv 0))) (ds := ps.map fun p : Nat => D.int p) (ρ := st [some (eB ps), none, none] 1 (.int 1)) (by simp only [bnd_some, bnd_none, p_dc, p_dv, lk_z, lk_s, st_z, st_s, un_z, un_s, wipe_n, wipe_c, p_d2, p_d1, p_dnil, p_dcons, p_dL, p_asB, p_asI, p_asL, p_asSeqL, p_asSeqT, p_bV, p_dB, p_bAnd, p_bOr, p_bNot, p_dIf, p_dAnd, p_dOr, p_dNot, p_dCh, p_bYes, p_gN, p_gT, p_gsNil, p_gsCons, p_dNx, p_dRet, p_dSet, p_dIfS, p_dAsg, p_dPar, p_dAug, p_dApp, p_dSetIx, p_nLst, p_nRep, p_nOf, p_dSetN, p_dParN1, p_dParNN, p_iSeq, p_iRng1, p_iRng2, p_oNo, p_oIx, p_dSl, p_asIx, p_opTup, p_opLst, p_lenT, p_lenL, p_lenS, p_tupT, p_tupL, p_add, p_sub, p_mul, p_lt, p_le, p_gt, p_ge, p_eqI, p_neI, p_isN, p_isnN, p_isB, p_isnB, p_isNone_n, p_isNone_i, p_isNone_t, p_isNone_l, p_appL, p_appT, b_mc, b_mn, b_ac, b_an, b_rs, b_rz, b_lc, b_ln, b_it, b_if, b_itt, b_iff, p_dSeq, p_eqB, p_neB, len_eT, len_eR, len_eV, isNone_eO, seq_eT, seq_eR, seq_eV, seq_eL, eO_some, eO_none, len_eL, p_dOrT, ↓p_eqN, ↓p_neN, ↓p_ltN, ↓p_leN, ↓p_gtN, ↓p_geN, per]; rfl)).trans q1
  refine run_rt rfl ?_
  generalize eB ps = bb at f
  simp only [bnd_some, bnd_none, p_dc, p_dv, lk_z, lk_s, st_z, st_s, un_z, un_s, wipe_n, wipe_c, p_d2, p_d1, p_dnil, p_dcons, p_dL, p_asB, p_asI, p_asL, p_asSeqL, p_asSeqT, p_bV, p_dB, p_bAnd, p_bOr, p_bNot, p_dIf, p_dAnd, p_dOr, p_dNot, p_dCh, p_bYes, p_gN, p_gT, p_gsNil, p_gsCons, p_dNx, p_dRet, p_dSet, p_dIfS, p_dAsg, p_dPar, p_dAug, p_dApp, p_dSetIx, p_nLst, p_nRep, p_nOf, p_dSetN, p_dParN1, p_dParNN, p_iSeq, p_iRng1, p_iRng2, p_oNo, p_oIx, p_dSl, p_asIx, p_opTup, p_opLst, p_lenT, p_lenL, p_lenS, p_tupT, p_tupL, p_add, p_sub, p_mul, p_lt, p_le, p_gt, p_ge, p_eqI, p_neI, p_isN, p_isnN, p_isB, p_isnB, p_isNone_n, p_isNone_i, p_isNone_t, p_isNone_l, p_appL, p_appT, b_mc, b_mn, b_ac, b_an, b_rs, b_rz, b_lc, b_ln, b_it, b_if, b_itt, b_iff, p_dSeq, p_eqB, p_neB, len_eT, len_eR, len_eV, isNone_eO, seq_eT, seq_eR, seq_eV, seq_eL, eO_some, eO_none, len_eL, p_dOrT, ↓p_eqN, ↓p_neN, ↓p_ltN, ↓p_leN, ↓p_gtN, ↓p_geN] at f
  simp only [bnd_some, bnd_none, p_dc, p_dv, lk_z, lk_s, st_z, st_s, un_z, un_s, wipe_n, wipe_c, p_d2, p_d1, p_dnil, p_dcons, p_dL, p_asB, p_asI, p_asL, p_asSeqL, p_asSeqT, p_bV, p_dB, p_bAnd, p_bOr, p_bNot, p_dIf, p_dAnd, p_dOr, p_dNot, p_dCh, p_bYes, p_gN, p_gT, p_gsNil, p_gsCons, p_dNx, p_dRet, p_dSet, p_dIfS, p_dAsg, p_dPar, p_dAug, p_dApp, p_dSetIx, p_nLst, p_nRep, p_nOf, p_dSetN, p_dParN1, p_dParNN, p_iSeq, p_iRng1, p_iRng2, p_oNo, p_oIx, p_dSl, p_asIx, p_opTup, p_opLst, p_lenT, p_lenL, p_lenS, p_tupT, p_tupL, p_add, p_sub, p_mul, p_lt, p_le, p_gt, p_ge, p_eqI, p_neI, p_isN, p_isnN, p_isB, p_isnB, p_isNone_n, p_isNone_i, p_isNone_t, p_isNone_l, p_appL, p_appT, b_mc, b_mn, b_ac, b_an, b_rs, b_rz, b_lc, b_ln, b_it, b_if, b_itt, b_iff, p_dSeq, p_eqB, p_neB, len_eT, len_eR, len_eV, isNone_eO, seq_eT, seq_eR, seq_eV, seq_eL, eO_some, eO_none, len_eL, p_dOrT, ↓p_eqN, ↓p_neN, ↓p_ltN, ↓p_leN, ↓p_gtN, ↓p_geN, Nat.reduceSub, f, q2]
end Mi
namespace Mi
open DL
theorem min_n (a b : Nat) : opMin [.int (a : Nat), .int (b : Nat)] = some (.int ((min a b : Nat) : Int)) := by
  show some (D.int (if (b : Int) < (a : Int) then (b : Int) else (a : Int))) = _
  by_cases z : b < a
  · rw [if_pos (by omega), Nat.min_eq_right (by omega)]
  · rw [if_neg (by omega), Nat.min_eq_left (by omega)]
theorem add_nn (a b : Nat) : opAdd (.int (a : Nat)) (.int (b : Nat)) = some (.int ((a + b : Nat) : Int)) := by rw [p_add, Int.natCast_add]
end Mi
namespace Mi
open DL
end Mi
namespace Mi
open DL
end Mi
namespace Mi
open DL
end Mi
namespace Mi
open DL
theorem rung_m {ps : List Nat} (h : Pds ps) (t : Nat) : m_rung_to [.lst ((meet ps).map eM), .int (t : Nat)] = some (.int (upTo (anyR ps) (t + 1) : Nat)) := by
  have mp := meet_pos h
  rw [rung_to_m mp]
  refine congrArg (fun i => some (D.int i)) ?_
  have e1 : (t : Int) = ((t + 1 : Nat) : Int) - 1 := by omega
  rw [e1]
  refine sum_upTo (fun s hs => (mp s hs).1) fR (anyR ps) (fun x => ?_) (t + 1)
  rw [at_time x ps.reverse ps (by simp), hS_R _ (by have := ringN_le ps x; have := h.five; omega)]
  unfold anyR
  by_cases z : ringN ps x = 0
  · rw [if_pos z, if_neg (by simp [z])]
  · rw [if_neg z, if_pos (by simp [z])]
theorem upTo_mono (P : Nat → Bool) {a b : Nat} (h : a ≤ b) : upTo P a ≤ upTo P b := by
  obtain ⟨c, rfl⟩ : ∃ c, b = a + c := ⟨b - a, by omega⟩
  rw [upTo_add]
  omega
/-- one bell alone rings often enough -/
theorem upTo_bell {ps : List Nat} {p : Nat} (hp : p ∈ ps) (h0 : 0 < p) : ∀ k, k < upTo (anyR ps) (k * p + 1)
  | 0 => by
    rw [Nat.zero_mul, upTo_succ]
    have : anyR ps 0 = true := by
      unfold anyR
      rw [ringN_0]
      exact decide_eq_true (by
        have := List.length_pos_of_mem hp
        omega)
    rw [if_pos this]
    omega
  | k + 1 => by
    have ih := upTo_bell hp h0 k
    have m := upTo_mono (anyR ps) (show k * p + 1 ≤ (k + 1) * p by rw [Nat.succ_mul]; omega)
    rw [upTo_succ]
    have : anyR ps ((k + 1) * p) = true := by
      unfold anyR ringN
      refine decide_eq_true fun z => ?_
      have : p ∈ ps.filter fun q => decide (((k + 1) * p) % q = 0) := List.mem_filter.mpr ⟨hp, decide_eq_true (Nat.mul_mod_left _ _)⟩
      rw [List.eq_nil_of_length_eq_zero z] at this
      cases this
    rw [if_pos this]
    omega
/-- t: the time with the index idx among all times at which a bell rings -/
def RingAt (ps : List Nat) (idx t : Nat) : Prop := idx < upTo (anyR ps) (t + 1) ∧ upTo (anyR ps) t ≤ idx
theorem fold_min : ∀ (l : List Int) (a : Int), l.foldl min a ∈ a :: l ∧ ∀ x ∈ a :: l, l.foldl min a ≤ x
  | [], a => ⟨by simp, by simp⟩
  | b :: l, a => by
    rw [List.foldl_cons]
    obtain ⟨h1, h2⟩ := fold_min l (min a b)
    refine ⟨?_, fun x hx => ?_⟩
    · rcases List.mem_cons.mp h1 with e | e
      · rw [e, Int.min_def]
        by_cases z : a ≤ b
        · rw [if_pos z]; exact List.mem_cons_self
        · rw [if_neg z]; exact List.mem_cons_of_mem _ List.mem_cons_self
      · exact List.mem_cons_of_mem _ (List.mem_cons_of_mem _ e)
    · have := h2 (min a b) List.mem_cons_self
      rcases List.mem_cons.mp hx with e | e
      · rw [e]; omega
      · rcases List.mem_cons.mp e with e | e
        · rw [e]; omega
        · exact h2 x (List.mem_cons_of_mem _ e)
theorem ring_at_m {ps : List Nat} (hp : Pds ps) {idx : Nat} (hi : idx ≤ 1000000000000000) : ∃ t, RingAt ps idx t ∧ (∀ p ∈ ps, t ≤ idx * p) ∧ m_ring_at [eB ps, .int (idx : Nat)] = some (.int (t : Nat)) := by
  have mt := meetings_m hp
  have rt := fun t => rung_m hp t
  obtain ⟨p0, r, eps⟩ : ∃ p0 r, ps = p0 :: r := by
    cases ps with
    | nil => have := hp.one; simp at this
    | cons a r => exact ⟨a, r, rfl⟩
  have fm := fold_min (r.map fun p : Nat => (p : Int)) (p0 : Int)
  rw [← List.map_cons (f := fun p : Nat => (p : Int)), ← eps] at fm
  obtain ⟨f1, f2⟩ := fm
  obtain ⟨p, hpm, hpe⟩ := List.mem_map.mp f1
  have pb := hp.bd p hpm
  have pmin : ∀ q ∈ ps, p ≤ q := fun q hq => by
    have := f2 q (List.mem_map.mpr ⟨q, hq, rfl⟩)
    omega
  have mn : opMinT [eI ps] = some (.int (p : Nat)) := by
    have ai : asInts (ps.map fun n : Nat => D.int n) = some (ps.map fun n : Nat => (n : Int)) := asInts_map _ ps
    show (asInts (ps.map fun n : Nat => D.int n)).bind _ = _
    rw [ai, eps]
    show some (D.int ((r.map fun p : Nat => (p : Int)).foldl min (p0 : Int))) = _
    rw [← hpe]
  have per := per_m ps
  have mu := mul_n (a := idx) (b := p) (by omega)
  have top := upTo_bell hpm pb.1 idx
  have hb : idx * p ≤ 1000000000000000000 := by
    calc idx * p ≤ 1000000000000000 * 1000 := Nat.mul_le_mul hi pb.2
      _ = 1000000000000000000 := by decide
  generalize hll : D.lst ((meet ps).map eM) = ll at mt rt
  obtain ⟨ρ', q1, t, x5, h1, h2, h3, rfl⟩ := dWhile_m (t := bV (d2 opLt (dv 3) (dv 4))) (b := m_ring_at_b1)
    (fun k ρ => ∃ lo hi' x5, lo ≤ hi' ∧ hi' ≤ idx * p ∧ k = hi' - lo ∧ idx < upTo (anyR ps) (hi' + 1) ∧ upTo (anyR ps) lo ≤ idx ∧ ρ = [some (eB ps), some (.int (idx : Nat)), some ll, some (.int (lo : Nat)), some (.int (hi' : Nat)), x5])
    (fun ρ => ∃ t x5, idx < upTo (anyR ps) (t + 1) ∧ upTo (anyR ps) t ≤ idx ∧ t ≤ idx * p ∧ ρ = [some (eB ps), some (.int (idx : Nat)), some ll, some (.int (t : Nat)), some (.int (t : Nat)), x5])
    (k := idx * p) (ρ := [some (eB ps), some (.int (idx : Nat)), some ll, some (.int ((0 : Nat) : Int)), some (.int ((idx * p : Nat) : Int)), none]) ⟨0, idx * p, none, Nat.zero_le _, Nat.le_refl _, rfl, top, Nat.zero_le _, rfl⟩ (by omega) (by
      rintro k ρ ⟨lo, hi', x5, hlo, hhi, rfl, t1, t2, rfl⟩
      have lt := p_ltN lo hi'
      refine ⟨decide (lo < hi'), by simp only [bnd_some, bnd_none, p_dc, p_dv, lk_z, lk_s, st_z, st_s, un_z, un_s, wipe_n, wipe_c, p_d2, p_d1, p_dnil, p_dcons, p_dL, p_asB, p_asI, p_asL, p_asSeqL, p_asSeqT, p_bV, p_dB, p_bAnd, p_bOr, p_bNot, p_dIf, p_dAnd, p_dOr, p_dNot, p_dCh, p_bYes, p_gN, p_gT, p_gsNil, p_gsCons, p_dNx, p_dRet, p_dSet, p_dIfS, p_dAsg, p_dPar, p_dAug, p_dApp, p_dSetIx, p_nLst, p_nRep, p_nOf, p_dSetN, p_dParN1, p_dParNN, p_iSeq, p_iRng1, p_iRng2, p_oNo, p_oIx, p_dSl, p_asIx, p_opTup, p_opLst, p_lenT, p_lenL, p_lenS, p_tupT, p_tupL, p_add, p_sub, p_mul, p_lt, p_le, p_gt, p_ge, p_eqI, p_neI, p_isN, p_isnN, p_isB, p_isnB, p_isNone_n, p_isNone_i, p_isNone_t, p_isNone_l, p_appL, p_appT, b_mc, b_mn, b_ac, b_an, b_rs, b_rz, b_lc, b_ln, b_it, b_if, b_itt, b_iff, p_dSeq, p_eqB, p_neB, len_eT, len_eR, len_eV, isNone_eO, seq_eT, seq_eR, seq_eV, seq_eL, eO_some, eO_none, len_eL, p_dOrT, ↓p_eqN, ↓p_neN, ↓p_ltN, ↓p_leN, ↓p_gtN, ↓p_geN, ↓lt], fun hc => ?_, fun hc => ?_⟩
      · have hc := of_decide_eq_true hc
        have ad := add_nn lo hi'
        have dd : opFdiv (.int ((lo + hi' : Nat) : Int)) (.int 2) = some (.int (((lo + hi') / 2 : Nat) : Int)) := div_n (b := 2) (by decide) (by decide)
        have r := rt ((lo + hi') / 2)
        have mlt : lo ≤ (lo + hi') / 2 ∧ (lo + hi') / 2 < hi' := by omega
        generalize (lo + hi') / 2 = mid at dd r mlt
        have gt := p_gtN (upTo (anyR ps) (mid + 1)) idx
        have ad1 : opAdd (.int (mid : Nat)) (.int 1) = some (.int ((mid + 1 : Nat) : Int)) := add_nn _ 1
        by_cases z : idx < upTo (anyR ps) (mid + 1)
        · rw [decide_eq_true z] at gt
          refine ⟨mid - lo, [some (eB ps), some (.int (idx : Nat)), some ll, some (.int (lo : Nat)), some (.int (mid : Nat)), some (.int (mid : Nat))], by omega, ?_, lo, mid, _, mlt.1, by omega, rfl, z, t2, rfl⟩
          simp only [m_ring_at_b1, bnd_some, bnd_none, p_dc, p_dv, lk_z, lk_s, st_z, st_s, un_z, un_s, wipe_n, wipe_c, p_d2, p_d1, p_dnil, p_dcons, p_dL, p_asB, p_asI, p_asL, p_asSeqL, p_asSeqT, p_bV, p_dB, p_bAnd, p_bOr, p_bNot, p_dIf, p_dAnd, p_dOr, p_dNot, p_dCh, p_bYes, p_gN, p_gT, p_gsNil, p_gsCons, p_dNx, p_dRet, p_dSet, p_dIfS, p_dAsg, p_dPar, p_dAug, p_dApp, p_dSetIx, p_nLst, p_nRep, p_nOf, p_dSetN, p_dParN1, p_dParNN, p_iSeq, p_iRng1, p_iRng2, p_oNo, p_oIx, p_dSl, p_asIx, p_opTup, p_opLst, p_lenT, p_lenL, p_lenS, p_tupT, p_tupL, p_add, p_sub, p_mul, p_lt, p_le, p_gt, p_ge, p_eqI, p_neI, p_isN, p_isnN, p_isB, p_isnB, p_isNone_n, p_isNone_i, p_isNone_t, p_isNone_l, p_appL, p_appT, b_mc, b_mn, b_ac, b_an, b_rs, b_rz, b_lc, b_ln, b_it, b_if, b_itt, b_iff, p_dSeq, p_eqB, p_neB, len_eT, len_eR, len_eV, isNone_eO, seq_eT, seq_eR, seq_eV, seq_eL, eO_some, eO_none, len_eL, p_dOrT, ↓p_eqN, ↓p_neN, ↓p_ltN, ↓p_leN, ↓p_gtN, ↓p_geN, ↓ad, ↓dd, r, ↓gt]
        · rw [decide_eq_false z] at gt
          refine ⟨hi' - (mid + 1), [some (eB ps), some (.int (idx : Nat)), some ll, some (.int ((mid + 1 : Nat) : Int)), some (.int (hi' : Nat)), some (.int (mid : Nat))], by omega, ?_, mid + 1, hi', _, by omega, hhi, rfl, t1, by omega, rfl⟩
          simp only [m_ring_at_b1, bnd_some, bnd_none, p_dc, p_dv, lk_z, lk_s, st_z, st_s, un_z, un_s, wipe_n, wipe_c, p_d2, p_d1, p_dnil, p_dcons, p_dL, p_asB, p_asI, p_asL, p_asSeqL, p_asSeqT, p_bV, p_dB, p_bAnd, p_bOr, p_bNot, p_dIf, p_dAnd, p_dOr, p_dNot, p_dCh, p_bYes, p_gN, p_gT, p_gsNil, p_gsCons, p_dNx, p_dRet, p_dSet, p_dIfS, p_dAsg, p_dPar, p_dAug, p_dApp, p_dSetIx, p_nLst, p_nRep, p_nOf, p_dSetN, p_dParN1, p_dParNN, p_iSeq, p_iRng1, p_iRng2, p_oNo, p_oIx, p_dSl, p_asIx, p_opTup, p_opLst, p_lenT, p_lenL, p_lenS, p_tupT, p_tupL, p_add, p_sub, p_mul, p_lt, p_le, p_gt, p_ge, p_eqI, p_neI, p_isN, p_isnN, p_isB, p_isnB, p_isNone_n, p_isNone_i, p_isNone_t, p_isNone_l, p_appL, p_appT, b_mc, b_mn, b_ac, b_an, b_rs, b_rz, b_lc, b_ln, b_it, b_if, b_itt, b_iff, p_dSeq, p_eqB, p_neB, len_eT, len_eR, len_eV, isNone_eO, seq_eT, seq_eR, seq_eV, seq_eL, eO_some, eO_none, len_eL, p_dOrT, ↓p_eqN, ↓p_neN, ↓p_ltN, ↓p_leN, ↓p_gtN, ↓p_geN, ↓ad, ↓dd, r, ↓gt, ↓ad1]
      · have hc := of_decide_eq_false hc
        have e : lo = hi' := by omega
        subst e
        exact ⟨lo, _, t1, t2, hhi, rfl⟩)
  refine ⟨t, ⟨h1, h2⟩, fun q hq => Nat.le_trans h3 (Nat.mul_le_mul_left _ (pmin q hq)), run_rt rfl ?_⟩
  have q1 : dWhile (bV (d2 opLt (dv 3) (dv 4))) m_ring_at_b1 [some (eB ps), some (.int (idx : Nat)), some ll, some (.int 0), some (.int ((idx * p : Nat) : Int)), none] = _ := q1
  simp only [bnd_some, bnd_none, p_dc, p_dv, lk_z, lk_s, st_z, st_s, un_z, un_s, wipe_n, wipe_c, p_d2, p_d1, p_dnil, p_dcons, p_dL, p_asB, p_asI, p_asL, p_asSeqL, p_asSeqT, p_bV, p_dB, p_bAnd, p_bOr, p_bNot, p_dIf, p_dAnd, p_dOr, p_dNot, p_dCh, p_bYes, p_gN, p_gT, p_gsNil, p_gsCons, p_dNx, p_dRet, p_dSet, p_dIfS, p_dAsg, p_dPar, p_dAug, p_dApp, p_dSetIx, p_nLst, p_nRep, p_nOf, p_dSetN, p_dParN1, p_dParNN, p_iSeq, p_iRng1, p_iRng2, p_oNo, p_oIx, p_dSl, p_asIx, p_opTup, p_opLst, p_lenT, p_lenL, p_lenS, p_tupT, p_tupL, p_add, p_sub, p_mul, p_lt, p_le, p_gt, p_ge, p_eqI, p_neI, p_isN, p_isnN, p_isB, p_isnB, p_isNone_n, p_isNone_i, p_isNone_t, p_isNone_l, p_appL, p_appT, b_mc, b_mn, b_ac, b_an, b_rs, b_rz, b_lc, b_ln, b_it, b_if, b_itt, b_iff, p_dSeq, p_eqB, p_neB, len_eT, len_eR, len_eV, isNone_eO, seq_eT, seq_eR, seq_eV, seq_eL, eO_some, eO_none, len_eL, p_dOrT, ↓p_eqN, ↓p_neN, ↓p_ltN, ↓p_leN, ↓p_gtN, ↓p_geN, Nat.reduceSub, mt, per, mn, mu, q1]
end Mi
namespace Mi
open DL
end Mi
namespace Mi
open DL
theorem RingAt.uniq {ps : List Nat} {idx t u : Nat} (h : RingAt ps idx t) (h' : RingAt ps idx u) : t = u := by
  apply Nat.le_antisymm
  · apply Nat.le_of_not_lt
    intro z
    have := upTo_mono (anyR ps) (show u + 1 ≤ t by omega)
    have := h.2
    have := h'.1
    omega
  · apply Nat.le_of_not_lt
    intro z
    have := upTo_mono (anyR ps) (show t + 1 ≤ u by omega)
    have := h'.2
    have := h.1
    omega
end Mi
namespace Mi
open DL
theorem law_bells_g {ds : List Nat} (hd : 8 ≤ ds.length) {most : Nat} (m0 : 0 < most) (m1 : most ≤ 1000) : ∃ ps, Pds ps ∧ m_law_bells [eL ds, .int (most : Nat)] = some (eI ps) := by
  have d0 : opIx (eL ds) (.int 0) = some (.int (ds.getD 0 0)) := ix_eL (k := 0) (by omega)
  have d7 : opIx (eL ds) (.int 7) = some (.int (ds.getD 7 0)) := ix_eL (k := 7) (by omega)
  obtain ⟨n, n0, n5, en⟩ := size_g (ds.getD 0 0) 5 5 rfl (by decide)
  have m3 : opMod (.int (ds.getD 7 0)) (.int 3) = some (.int ((ds.getD 7 0 % 3 : Nat) : Int)) := mod_n (b := 3) (by decide)
  obtain ⟨b, b0, b1, eb⟩ : ∃ b : Nat, 0 < b ∧ b ≤ 1000 ∧ opIx (.lst [.int 6, .int 12, .int (most : Nat)]) (.int ((ds.getD 7 0 % 3 : Nat) : Int)) = some (.int (b : Nat)) := by
    have : ds.getD 7 0 % 3 = 0 ∨ ds.getD 7 0 % 3 = 1 ∨ ds.getD 7 0 % 3 = 2 := by omega
    rcases this with e | e | e <;> rw [e]
    · exact ⟨6, by decide, by decide, rfl⟩
    · exact ⟨12, by decide, by decide, rfl⟩
    · exact ⟨most, m0, m1, rfl⟩
  obtain ⟨ρ', q1, ag, qs, q2, q3, q4⟩ := for_agP (b := m_law_bells_b1) (i := 3) (n := n) (ws := [3, 2]) (ρ := st [some (eL ds), some (.int (most : Nat)), none, none] 2 (.tup [])) (fun i : Nat => D.int i) (fun k ρ' => ∃ qs : List Nat, qs.length = k ∧ (∀ p ∈ qs, 0 < p ∧ p ≤ 1000) ∧ lk ρ' 2 = some (eI qs)) (by decide) (show 3 < 4 by decide) ⟨[], rfl, by simp, rfl⟩ (fun k ρ' d ⟨qs, a, b, c⟩ => ⟨qs, a, b, by rw [lk_st_o (by decide)]; exact c⟩) (by
    rintro k hk ρ1 ag e3 ⟨qs, h1, h2, h3⟩
    have hl : ρ1.length = 4 := ag.1
    have a0 := ag.lk 0 (by decide) (x := some (eL ds)) rfl
    have a1 := ag.lk 1 (by decide) (x := some (.int (most : Nat))) rfl
    have ad : opAdd (.int 1) (.int (k : Nat)) = some (.int ((1 + k : Nat) : Int)) := by rw [p_add]; congr 2
    have ix := ix_eL (ds := ds) (k := 1 + k) (by omega)
    have mo := mod_n (a := ds.getD (1 + k) 0) b0
    have mlt := Nat.mod_lt (ds.getD (1 + k) 0) b0
    generalize ds.getD (1 + k) 0 % b = y at mo mlt
    have ad2 : opAdd (.int 1) (.int (y : Nat)) = some (.int ((1 + y : Nat) : Int)) := by rw [p_add]; congr 2
    have ap := add_eI qs (1 + y) (by omega)
    refine ⟨st ρ1 2 (eI (qs ++ [1 + y])), ?_, ag.st (by decide), qs ++ [1 + y], by simp [h1], fun p hp => ?_, by rw [lk_st_i (by omega)]⟩
    · simp only [m_law_bells_b1, bnd_some, bnd_none, p_dc, p_dv, lk_z, lk_s, st_z, st_s, un_z, un_s, wipe_n, wipe_c, p_d2, p_d1, p_dnil, p_dcons, p_dL, p_asB, p_asI, p_asL, p_asSeqL, p_asSeqT, p_bV, p_dB, p_bAnd, p_bOr, p_bNot, p_dIf, p_dAnd, p_dOr, p_dNot, p_dCh, p_bYes, p_gN, p_gT, p_gsNil, p_gsCons, p_dNx, p_dRet, p_dSet, p_dIfS, p_dAsg, p_dPar, p_dAug, p_dApp, p_dSetIx, p_nLst, p_nRep, p_nOf, p_dSetN, p_dParN1, p_dParNN, p_iSeq, p_iRng1, p_iRng2, p_oNo, p_oIx, p_dSl, p_asIx, p_opTup, p_opLst, p_lenT, p_lenL, p_lenS, p_tupT, p_tupL, p_add, p_sub, p_mul, p_lt, p_le, p_gt, p_ge, p_eqI, p_neI, p_isN, p_isnN, p_isB, p_isnB, p_isNone_n, p_isNone_i, p_isNone_t, p_isNone_l, p_appL, p_appT, b_mc, b_mn, b_ac, b_an, b_rs, b_rz, b_lc, b_ln, b_it, b_if, b_itt, b_iff, p_dSeq, p_eqB, p_neB, len_eT, len_eR, len_eV, isNone_eO, seq_eT, seq_eR, seq_eV, seq_eL, eO_some, eO_none, len_eL, p_dOrT, ↓p_eqN, ↓p_neN, ↓p_ltN, ↓p_leN, ↓p_gtN, ↓p_geN, h3, a0, a1, e3, ↓ad, ix, d7, m3, eb, mo, ↓ad2, ap, Nat.reduceAdd, Nat.reduceLeDiff]
    · rcases List.mem_append.mp hp with z | z
      · exact h2 p z
      · rw [List.mem_singleton.mp z]
        omega)
  have f := (for_eq (it := iRng1 (dcons (d2 opAdd (dc (.int 1)) (d2 opMod (d2 opIx (dv 0) (dc (.int 0))) (dc (.int 5)))) dnil)) (ρ := st [some (eL ds), some (.int (most : Nat)), none, none] 2 (.tup [])) (by simp only [bnd_some, bnd_none, p_dc, p_dv, lk_z, lk_s, st_z, st_s, un_z, un_s, wipe_n, wipe_c, p_d2, p_d1, p_dnil, p_dcons, p_dL, p_asB, p_asI, p_asL, p_asSeqL, p_asSeqT, p_bV, p_dB, p_bAnd, p_bOr, p_bNot, p_dIf, p_dAnd, p_dOr, p_dNot, p_dCh, p_bYes, p_gN, p_gT, p_gsNil, p_gsCons, p_dNx, p_dRet, p_dSet, p_dIfS, p_dAsg, p_dPar, p_dAug, p_dApp, p_dSetIx, p_nLst, p_nRep, p_nOf, p_dSetN, p_dParN1, p_dParNN, p_iSeq, p_iRng1, p_iRng2, p_oNo, p_oIx, p_dSl, p_asIx, p_opTup, p_opLst, p_lenT, p_lenL, p_lenS, p_tupT, p_tupL, p_add, p_sub, p_mul, p_lt, p_le, p_gt, p_ge, p_eqI, p_neI, p_isN, p_isnN, p_isB, p_isnB, p_isNone_n, p_isNone_i, p_isNone_t, p_isNone_l, p_appL, p_appT, b_mc, b_mn, b_ac, b_an, b_rs, b_rz, b_lc, b_ln, b_it, b_if, b_itt, b_iff, p_dSeq, p_eqB, p_neB, len_eT, len_eR, len_eV, isNone_eO, seq_eT, seq_eR, seq_eV, seq_eL, eO_some, eO_none, len_eL, p_dOrT, ↓p_eqN, ↓p_neN, ↓p_ltN, ↓p_leN, ↓p_gtN, ↓p_geN, d0, en, rng1 (n := n) (by omega)])).trans q1
  refine ⟨qs, ⟨by omega, by omega, q3⟩, run_rt rfl ?_⟩
  simp only [bnd_some, bnd_none, p_dc, p_dv, lk_z, lk_s, st_z, st_s, un_z, un_s, wipe_n, wipe_c, p_d2, p_d1, p_dnil, p_dcons, p_dL, p_asB, p_asI, p_asL, p_asSeqL, p_asSeqT, p_bV, p_dB, p_bAnd, p_bOr, p_bNot, p_dIf, p_dAnd, p_dOr, p_dNot, p_dCh, p_bYes, p_gN, p_gT, p_gsNil, p_gsCons, p_dNx, p_dRet, p_dSet, p_dIfS, p_dAsg, p_dPar, p_dAug, p_dApp, p_dSetIx, p_nLst, p_nRep, p_nOf, p_dSetN, p_dParN1, p_dParNN, p_iSeq, p_iRng1, p_iRng2, p_oNo, p_oIx, p_dSl, p_asIx, p_opTup, p_opLst, p_lenT, p_lenL, p_lenS, p_tupT, p_tupL, p_add, p_sub, p_mul, p_lt, p_le, p_gt, p_ge, p_eqI, p_neI, p_isN, p_isnN, p_isB, p_isnB, p_isNone_n, p_isNone_i, p_isNone_t, p_isNone_l, p_appL, p_appT, b_mc, b_mn, b_ac, b_an, b_rs, b_rz, b_lc, b_ln, b_it, b_if, b_itt, b_iff, p_dSeq, p_eqB, p_neB, len_eT, len_eR, len_eV, isNone_eO, seq_eT, seq_eR, seq_eV, seq_eL, eO_some, eO_none, len_eL, p_dOrT, ↓p_eqN, ↓p_neN, ↓p_ltN, ↓p_leN, ↓p_gtN, ↓p_geN] at f
  simp only [bnd_some, bnd_none, p_dc, p_dv, lk_z, lk_s, st_z, st_s, un_z, un_s, wipe_n, wipe_c, p_d2, p_d1, p_dnil, p_dcons, p_dL, p_asB, p_asI, p_asL, p_asSeqL, p_asSeqT, p_bV, p_dB, p_bAnd, p_bOr, p_bNot, p_dIf, p_dAnd, p_dOr, p_dNot, p_dCh, p_bYes, p_gN, p_gT, p_gsNil, p_gsCons, p_dNx, p_dRet, p_dSet, p_dIfS, p_dAsg, p_dPar, p_dAug, p_dApp, p_dSetIx, p_nLst, p_nRep, p_nOf, p_dSetN, p_dParN1, p_dParNN, p_iSeq, p_iRng1, p_iRng2, p_oNo, p_oIx, p_dSl, p_asIx, p_opTup, p_opLst, p_lenT, p_lenL, p_lenS, p_tupT, p_tupL, p_add, p_sub, p_mul, p_lt, p_le, p_gt, p_ge, p_eqI, p_neI, p_isN, p_isnN, p_isB, p_isnB, p_isNone_n, p_isNone_i, p_isNone_t, p_isNone_l, p_appL, p_appT, b_mc, b_mn, b_ac, b_an, b_rs, b_rz, b_lc, b_ln, b_it, b_if, b_itt, b_iff, p_dSeq, p_eqB, p_neB, len_eT, len_eR, len_eV, isNone_eO, seq_eT, seq_eR, seq_eV, seq_eL, eO_some, eO_none, len_eL, p_dOrT, ↓p_eqN, ↓p_neN, ↓p_ltN, ↓p_leN, ↓p_gtN, ↓p_geN, Nat.reduceSub, Nat.zero_le, f, q4]
end Mi
namespace Mi
open DL
end Mi
namespace Mi
open DL
end Mi
namespace Mi
open DL
section
variable {m w M : Nat} {T : Nat → Nat → Option Nat} {r : Nat}
theorem neN_refl (x : Nat) : opNe (.int (x : Nat)) (.int (x : Nat)) = some (.bl false) := by
  have := p_neN x x
  rw [decide_eq_true rfl] at this
  exact this
end
end Mi
namespace Mi
open DL
def minL : List Nat → Nat
  | [] => 0
  | [a] => a
  | a :: b :: r => min a (minL (b :: r))
theorem minL_spec : ∀ {l : List Nat}, l ≠ [] → minL l ∈ l ∧ ∀ x ∈ l, minL l ≤ x
  | [], h => absurd rfl h
  | [a], _ => ⟨by simp [minL], by simp [minL]⟩
  | a :: b :: r, _ => by
    obtain ⟨h1, h2⟩ := minL_spec (l := b :: r) (by simp)
    unfold minL
    refine ⟨?_, fun x hx => ?_⟩
    · by_cases z : a ≤ minL (b :: r)
      · rw [Nat.min_eq_left z]; exact List.mem_cons_self
      · rw [Nat.min_eq_right (by omega)]; exact List.mem_cons_of_mem _ h1
    · rcases List.mem_cons.mp hx with e | e
      · rw [e]; exact Nat.min_le_left _ _
      · exact Nat.le_trans (Nat.min_le_right _ _) (h2 x e)
def nextR (ps : List Nat) (t : Nat) : Nat := minL (ps.map fun p => (t / p + 1) * p)
def iterR (ps : List Nat) (t : Nat) : Nat → Nat
  | 0 => t
  | k + 1 => nextR ps (iterR ps t k)
theorem nextR_spec {ps : List Nat} (h : ps ≠ []) (t : Nat) : (∃ p ∈ ps, nextR ps t = (t / p + 1) * p) ∧ ∀ p ∈ ps, nextR ps t ≤ (t / p + 1) * p := by
  obtain ⟨h1, h2⟩ := minL_spec (l := ps.map fun p => (t / p + 1) * p) (by simpa using h)
  obtain ⟨p, hp, e⟩ := List.mem_map.mp h1
  exact ⟨⟨p, hp, e.symm⟩, fun q hq => h2 _ (List.mem_map.mpr ⟨q, hq, rfl⟩)⟩
theorem anyR_iff {ps : List Nat} {x : Nat} : anyR ps x = true ↔ ∃ p ∈ ps, x % p = 0 := by
  unfold anyR ringN
  rw [decide_eq_true_eq]
  constructor
  · intro h
    obtain ⟨p, hp⟩ := List.exists_mem_of_ne_nil (ps.filter fun p => decide (x % p = 0)) (fun z : (ps.filter fun p => decide (x % p = 0)) = [] => h (by rw [z]; rfl))
    obtain ⟨h1, h2⟩ := List.mem_filter.mp hp
    exact ⟨p, h1, of_decide_eq_true h2⟩
  · rintro ⟨p, h1, h2⟩ z
    have : p ∈ ps.filter fun p => decide (x % p = 0) := List.mem_filter.mpr ⟨h1, decide_eq_true h2⟩
    rw [List.eq_nil_of_length_eq_zero z] at this
    cases this
theorem Pds.ne {ps : List Nat} (h : Pds ps) : ps ≠ [] := fun z => by
  have := h.one
  rw [z] at this
  simp at this
theorem next_gt {ps : List Nat} (h : Pds ps) (t : Nat) : t < nextR ps t := by
  obtain ⟨⟨p, hp, e⟩, _⟩ := nextR_spec h.ne t
  rw [e, Nat.add_mul, Nat.one_mul]
  have := Nat.div_add_mod t p
  rw [Nat.mul_comm] at this
  have := Nat.mod_lt t (h.bd p hp).1
  omega
theorem next_any {ps : List Nat} (h : Pds ps) (t : Nat) : anyR ps (nextR ps t) = true := by
  obtain ⟨⟨p, hp, e⟩, _⟩ := nextR_spec h.ne t
  exact anyR_iff.mpr ⟨p, hp, by rw [e]; exact Nat.mul_mod_left _ _⟩
theorem next_gap {ps : List Nat} (h : Pds ps) {t x : Nat} (h1 : t < x) (h2 : x < nextR ps t) : anyR ps x = false := by
  cases z : anyR ps x with
  | false => rfl
  | true =>
    exfalso
    obtain ⟨p, hp, e⟩ := anyR_iff.mp z
    have h3 := (nextR_spec h.ne t).2 p hp
    have p0 := (h.bd p hp).1
    obtain ⟨k, rfl⟩ := Nat.dvd_of_mod_eq_zero e
    have : t / p < k := (Nat.div_lt_iff_lt_mul p0).mpr (by rw [Nat.mul_comm]; exact h1)
    have := Nat.mul_le_mul_right p (show t / p + 1 ≤ k by omega)
    rw [Nat.mul_comm k p] at this
    omega
theorem upTo_gap {P : Nat → Bool} {a : Nat} : ∀ n, (∀ x, a ≤ x → x < a + n → P x = false) → upTo P (a + n) = upTo P a
  | 0, _ => rfl
  | n + 1, h => by
    rw [← Nat.add_assoc, upTo_succ, upTo_gap n fun x h1 h2 => h x h1 (by omega), h (a + n) (by omega) (by omega)]
    rfl
theorem RingAt.any {ps : List Nat} {idx t : Nat} (h : RingAt ps idx t) : anyR ps t = true ∧ upTo (anyR ps) (t + 1) = idx + 1 ∧ upTo (anyR ps) t = idx := by
  obtain ⟨h1, h2⟩ := h
  have := upTo_succ (anyR ps) t
  cases z : anyR ps t with
  | true =>
    rw [z, if_pos rfl] at this
    exact ⟨rfl, by omega, by omega⟩
  | false =>
    rw [z, if_neg Bool.false_ne_true] at this
    omega
theorem RingAt.next {ps : List Nat} (hp : Pds ps) {idx t : Nat} (h : RingAt ps idx t) : RingAt ps (idx + 1) (nextR ps t) := by
  obtain ⟨_, h1, _⟩ := h.any
  have g := next_gt hp t
  have e : upTo (anyR ps) (nextR ps t) = idx + 1 := by
    rw [← h1, show nextR ps t = (t + 1) + (nextR ps t - (t + 1)) by omega]
    exact upTo_gap _ fun x a b => next_gap (t := t) (x := x) hp (by omega) (by omega)
  refine ⟨?_, by omega⟩
  rw [upTo_succ, next_any hp, if_pos rfl]
  omega
theorem RingAt.of_any {ps : List Nat} {idx t : Nat} (h : anyR ps t = true) (e : upTo (anyR ps) t = idx) : RingAt ps idx t := by
  refine ⟨?_, by omega⟩
  rw [upTo_succ, h, if_pos rfl]
  omega
theorem forY_seg {g : DG} {b : DY} (e out : Nat → D) (P : Nat → Rho → Prop) : ∀ (m k : Nat) (ds : List D) (ρ : Rho), ds.length = k → P k ρ → (∀ i, i < k + m → ∀ ρ ds, ds.length = i → P i ρ → ∃ ρ1, g (e i) ρ = some ρ1 ∧ ∃ ρ2, b ds ρ1 = some (ρ2, ds ++ [out i]) ∧ P (i + 1) ρ2) →
    ∃ ρ', forY g b ((List.range' k m).map e) ds ρ = some (ρ', ds ++ (List.range' k m).map out) ∧ P (k + m) ρ'
  | 0, k, ds, ρ, hd, h, _ => ⟨ρ, by simp [forY], h⟩
  | m + 1, k, ds, ρ, hd, h, hb => by
    obtain ⟨ρ1, e1, ρ2, e2, h2⟩ := hb k (by omega) ρ ds hd h
    obtain ⟨ρ', e3, h3⟩ := forY_seg e out P m (k + 1) (ds ++ [out k]) ρ2 (by simp [hd]) h2 fun i hi => hb i (by omega)
    refine ⟨ρ', ?_, by rw [show k + (m + 1) = k + 1 + m by omega]; exact h3⟩
    rw [List.range'_succ, List.map_cons, List.map_cons]
    unfold forY
    rw [e1]
    show (b ds ρ1).bind _ = _
    rw [e2]
    show forY g b _ (ds ++ [out k]) ρ2 = _
    rw [e3, List.append_assoc]
    rfl
theorem forY_range {g : DG} {b : DY} (e out : Nat → D) (P : Nat → Rho → Prop) (n : Nat) {ρ : Rho} (h : P 0 ρ) (hb : ∀ i, i < n → ∀ ρ ds, ds.length = i → P i ρ → ∃ ρ1, g (e i) ρ = some ρ1 ∧ ∃ ρ2, b ds ρ1 = some (ρ2, ds ++ [out i]) ∧ P (i + 1) ρ2) :
    ∃ ρ', forY g b ((List.range n).map e) [] ρ = some (ρ', (List.range n).map out) ∧ P n ρ' := by
  obtain ⟨ρ', h1, h2⟩ := forY_seg e out P n 0 [] ρ rfl h fun i hi => hb i (by omega)
  rw [← List.range_eq_range'] at h1
  exact ⟨ρ', by simpa using h1, by simpa using h2⟩
theorem yseq {f g : DY} {ds : List D} {ρ : Rho} {r r' : Rho × List D} (h : f ds ρ = some r) (h' : g r.2 r.1 = some r') : ySeq f g ds ρ = some r' := by
  unfold ySeq
  rw [h]
  exact h'
theorem ypl {f : DS} {ds : List D} {ρ ρ' : Rho} (h : f ρ = some (.nx ρ')) : yPl f ds ρ = some (ρ', ds) := by
  unfold yPl
  rw [h]
  rfl
theorem yfor {it : DFs} {g : DG} {b : DY} {es ds : List D} {ρ : Rho} {r : Rho × List D} (h : it ρ = some es) (h' : forY g b es ds ρ = some r) : yFor it g b ds ρ = some r := by
  unfold yFor
  rw [h]
  exact h'
theorem run_y {n a : Nat} {f : DY} {ds : List D} {r : Rho × List D} (hl : ds.length = a) (h : f [] (ds.map some ++ List.replicate (n - a) none) = some r) : runY n a f ds = some r.2 := by
  unfold runY
  rw [if_pos hl, h]
  rfl
theorem minP_m {ps : List Nat} (h : ps ≠ []) (t : Nat) : opMin [.lst (ps.map fun p => .int ((t / p + 1) * p : Nat))] = some (.int (nextR ps t : Nat)) := by
  obtain ⟨p, hp, hm, e⟩ := opMin_m (fun p => (t / p + 1) * p) ps h
  rw [e]
  obtain ⟨⟨q, hq, e2⟩, hm2⟩ := nextR_spec h t
  have : (t / p + 1) * p = nextR ps t := Nat.le_antisymm (by rw [e2]; exact hm q hq) (hm2 p hp)
  rw [this]
theorem rings_m {ps : List Nat} (h : Pds ps) {s n : Nat} (hs : s ≤ 1000000000000000) (hn : n ≤ 100) : m_B_rings [eB ps, .int (s : Nat), .int (n : Nat)] = some ((List.range n).map fun i => .int (iterR ps s (i + 1) : Nat)) := by
  have p15 : opPow (.int 10) (.int 15) = some (.int 1000000000000000) := sameO_eq (by decide +kernel)
  have i1 := is_integer_m (s : Nat) 0 1000000000000000
  rw [decide_eq_true (by omega : (0 : Int) ≤ (s : Nat)), decide_eq_true (by omega : ((s : Nat) : Int) ≤ 1000000000000000)] at i1
  have i2 := is_integer_m (n : Nat) 0 100
  rw [decide_eq_true (by omega : (0 : Int) ≤ (n : Nat)), decide_eq_true (by omega : ((n : Nat) : Int) ≤ 100)] at i2
  have per := per_m ps
  have h5 := h.five
  obtain ⟨ρ', q, _⟩ := forY_range (g := gN 4) (b := m_B_rings_y1) (fun i : Nat => D.int i) (fun i => .int (iterR ps s (i + 1) : Nat)) (fun k ρ => ρ.length = 6 ∧ lk ρ 0 = some (eB ps) ∧ lk ρ 3 = some (.int (iterR ps s k : Nat))) n
    (ρ := [some (eB ps), some (.int (s : Nat)), some (.int (n : Nat)), some (.int (s : Nat)), none, none]) ⟨rfl, rfl, rfl⟩ (by
    rintro i hi ρ ds hd ⟨hl, h0, h3⟩
    refine ⟨st ρ 4 (.int (i : Nat)), rfl, st (st ρ 4 (.int (i : Nat))) 3 (.int (iterR ps s (i + 1) : Nat)), ?_, by simp only [len_st, hl], by simp only [lk_st_o, Nat.reduceBEq, h0], by rw [lk_st_i (by rw [len_st]; omega)]⟩
    generalize ht : iterR ps s i = t at h3
    have en : iterR ps s (i + 1) = nextR ps t := by rw [← ht]; rfl
    rw [en]
    have c1 : m_B_rings_c1 (st ρ 4 (.int (i : Nat))) = some (.lst (ps.map fun p => .int ((t / p + 1) * p : Nat))) := by
      unfold m_B_rings_c1
      refine comp_all (fun p : Nat => D.int p) (fun p => .int ((t / p + 1) * p : Nat)) ps (by simp only [bnd_some, bnd_none, p_dc, p_dv, lk_z, lk_s, st_z, st_s, un_z, un_s, wipe_n, wipe_c, p_d2, p_d1, p_dnil, p_dcons, p_dL, p_asB, p_asI, p_asL, p_asSeqL, p_asSeqT, p_bV, p_dB, p_bAnd, p_bOr, p_bNot, p_dIf, p_dAnd, p_dOr, p_dNot, p_dCh, p_bYes, p_gN, p_gT, p_gsNil, p_gsCons, p_dNx, p_dRet, p_dSet, p_dIfS, p_dAsg, p_dPar, p_dAug, p_dApp, p_dSetIx, p_nLst, p_nRep, p_nOf, p_dSetN, p_dParN1, p_dParNN, p_iSeq, p_iRng1, p_iRng2, p_oNo, p_oIx, p_dSl, p_asIx, p_opTup, p_opLst, p_lenT, p_lenL, p_lenS, p_tupT, p_tupL, p_add, p_sub, p_mul, p_lt, p_le, p_gt, p_ge, p_eqI, p_neI, p_isN, p_isnN, p_isB, p_isnB, p_isNone_n, p_isNone_i, p_isNone_t, p_isNone_l, p_appL, p_appT, b_mc, b_mn, b_ac, b_an, b_rs, b_rz, b_lc, b_ln, b_it, b_if, b_itt, b_iff, p_dSeq, p_eqB, p_neB, len_eT, len_eR, len_eV, isNone_eO, seq_eT, seq_eR, seq_eV, seq_eL, eO_some, eO_none, len_eL, p_dOrT, ↓p_eqN, ↓p_neN, ↓p_ltN, ↓p_leN, ↓p_gtN, ↓p_geN, lk_st_o, Nat.reduceBEq, h0, per]; rfl) (by omega) ?_
      intro p hp
      have pb := h.bd p hp
      have d1 := div_n (a := t) (b := p) pb.1 (by omega)
      have ad := add_nn (t / p) 1
      have ad : opAdd (.int ((t / p : Nat) : Int)) (.int 1) = some (.int ((t / p + 1 : Nat) : Int)) := ad
      have mu := mul_n (a := t / p + 1) (b := p) (by omega)
      refine ⟨_, rfl, ?_⟩
      simp only [bnd_some, bnd_none, p_dc, p_dv, lk_z, lk_s, st_z, st_s, un_z, un_s, wipe_n, wipe_c, p_d2, p_d1, p_dnil, p_dcons, p_dL, p_asB, p_asI, p_asL, p_asSeqL, p_asSeqT, p_bV, p_dB, p_bAnd, p_bOr, p_bNot, p_dIf, p_dAnd, p_dOr, p_dNot, p_dCh, p_bYes, p_gN, p_gT, p_gsNil, p_gsCons, p_dNx, p_dRet, p_dSet, p_dIfS, p_dAsg, p_dPar, p_dAug, p_dApp, p_dSetIx, p_nLst, p_nRep, p_nOf, p_dSetN, p_dParN1, p_dParNN, p_iSeq, p_iRng1, p_iRng2, p_oNo, p_oIx, p_dSl, p_asIx, p_opTup, p_opLst, p_lenT, p_lenL, p_lenS, p_tupT, p_tupL, p_add, p_sub, p_mul, p_lt, p_le, p_gt, p_ge, p_eqI, p_neI, p_isN, p_isnN, p_isB, p_isnB, p_isNone_n, p_isNone_i, p_isNone_t, p_isNone_l, p_appL, p_appT, b_mc, b_mn, b_ac, b_an, b_rs, b_rz, b_lc, b_ln, b_it, b_if, b_itt, b_iff, p_dSeq, p_eqB, p_neB, len_eT, len_eR, len_eV, isNone_eO, seq_eT, seq_eR, seq_eV, seq_eL, eO_some, eO_none, len_eL, p_dOrT, ↓p_eqN, ↓p_neN, ↓p_ltN, ↓p_leN, ↓p_gtN, ↓p_geN, lk_st_o, lk_st_i, lk_un_o, len_st, len_un, Nat.reduceBEq, Nat.reduceLT, hl, h3, d1, ↓ad, mu]
    have mn := minP_m h.ne t
    have e1 : (yPl (dSet 3 (dL opMin (dcons m_B_rings_c1 dnil)))) ds (st ρ 4 (.int (i : Nat))) = some (st (st ρ 4 (.int (i : Nat))) 3 (.int (nextR ps t : Nat)), ds) := by
      have : dSet 3 (dL opMin (dcons m_B_rings_c1 dnil)) (st ρ 4 (.int (i : Nat))) = some (.nx (st (st ρ 4 (.int (i : Nat))) 3 (.int (nextR ps t : Nat)))) := by simp only [bnd_some, bnd_none, p_dc, p_dv, lk_z, lk_s, st_z, st_s, un_z, un_s, wipe_n, wipe_c, p_d2, p_d1, p_dnil, p_dcons, p_dL, p_asB, p_asI, p_asL, p_asSeqL, p_asSeqT, p_bV, p_dB, p_bAnd, p_bOr, p_bNot, p_dIf, p_dAnd, p_dOr, p_dNot, p_dCh, p_bYes, p_gN, p_gT, p_gsNil, p_gsCons, p_dNx, p_dRet, p_dSet, p_dIfS, p_dAsg, p_dPar, p_dAug, p_dApp, p_dSetIx, p_nLst, p_nRep, p_nOf, p_dSetN, p_dParN1, p_dParNN, p_iSeq, p_iRng1, p_iRng2, p_oNo, p_oIx, p_dSl, p_asIx, p_opTup, p_opLst, p_lenT, p_lenL, p_lenS, p_tupT, p_tupL, p_add, p_sub, p_mul, p_lt, p_le, p_gt, p_ge, p_eqI, p_neI, p_isN, p_isnN, p_isB, p_isnB, p_isNone_n, p_isNone_i, p_isNone_t, p_isNone_l, p_appL, p_appT, b_mc, b_mn, b_ac, b_an, b_rs, b_rz, b_lc, b_ln, b_it, b_if, b_itt, b_iff, p_dSeq, p_eqB, p_neB, len_eT, len_eR, len_eV, isNone_eO, seq_eT, seq_eR, seq_eV, seq_eL, eO_some, eO_none, len_eL, p_dOrT, ↓p_eqN, ↓p_neN, ↓p_ltN, ↓p_leN, ↓p_gtN, ↓p_geN, c1, mn]
      unfold yPl
      rw [this]
      rfl
    have l3 : dv 3 (st (st ρ 4 (.int (i : Nat))) 3 (.int (nextR ps t : Nat))) = some (.int (nextR ps t : Nat)) := by
      show lk _ 3 = _
      rw [lk_st_i (by rw [len_st]; omega)]
    have e2 : yOut (dv 3) ds (st (st ρ 4 (.int (i : Nat))) 3 (.int (nextR ps t : Nat))) = some (st (st ρ 4 (.int (i : Nat))) 3 (.int (nextR ps t : Nat)), ds ++ [.int (nextR ps t : Nat)]) := by
      unfold yOut
      rw [l3]
      show (if ds.length < 100000 then some (st (st ρ 4 (.int (i : Nat))) 3 (.int (nextR ps t : Nat)), ds ++ [D.int (nextR ps t : Nat)]) else none) = _
      rw [if_pos (by omega)]
    unfold m_B_rings_y1 ySeq
    rw [e1]
    show ((yOut (dv 3) ds _).bind _) = _
    rw [e2]
    rfl)
  have rg : opRng1 [.int (n : Nat)] = some ((List.range n).map fun i : Nat => D.int i) := rng1 (n := n) (by omega)
  have e1 : (dIfS (bOr (bNot (bV (dL m_is_integer (dcons (dv 1) (dcons (dc (.int 0)) (dcons (d2 opPow (dc (.int 10)) (dc (.int 15))) dnil)))))) (bNot (bV (dL m_is_integer (dcons (dv 2) (dcons (dc (.int 0)) (dcons (dc (.int 100)) dnil))))))) dFail dNx) [some (eB ps), some (.int (s : Nat)), some (.int (n : Nat)), none, none, none] =
      some (.nx [some (eB ps), some (.int (s : Nat)), some (.int (n : Nat)), none, none, none]) := by
    simp only [bnd_some, bnd_none, p_dc, p_dv, lk_z, lk_s, st_z, st_s, un_z, un_s, wipe_n, wipe_c, p_d2, p_d1, p_dnil, p_dcons, p_dL, p_asB, p_asI, p_asL, p_asSeqL, p_asSeqT, p_bV, p_dB, p_bAnd, p_bOr, p_bNot, p_dIf, p_dAnd, p_dOr, p_dNot, p_dCh, p_bYes, p_gN, p_gT, p_gsNil, p_gsCons, p_dNx, p_dRet, p_dSet, p_dIfS, p_dAsg, p_dPar, p_dAug, p_dApp, p_dSetIx, p_nLst, p_nRep, p_nOf, p_dSetN, p_dParN1, p_dParNN, p_iSeq, p_iRng1, p_iRng2, p_oNo, p_oIx, p_dSl, p_asIx, p_opTup, p_opLst, p_lenT, p_lenL, p_lenS, p_tupT, p_tupL, p_add, p_sub, p_mul, p_lt, p_le, p_gt, p_ge, p_eqI, p_neI, p_isN, p_isnN, p_isB, p_isnB, p_isNone_n, p_isNone_i, p_isNone_t, p_isNone_l, p_appL, p_appT, b_mc, b_mn, b_ac, b_an, b_rs, b_rz, b_lc, b_ln, b_it, b_if, b_itt, b_iff, p_dSeq, p_eqB, p_neB, len_eT, len_eR, len_eV, isNone_eO, seq_eT, seq_eR, seq_eV, seq_eL, eO_some, eO_none, len_eL, p_dOrT, ↓p_eqN, ↓p_neN, ↓p_ltN, ↓p_leN, ↓p_gtN, ↓p_geN, p15, ↓i1, ↓i2, Bool.and_self, Bool.not_true, Bool.false_eq_true, if_false]
  have e2 : dSet 3 (dv 1) [some (eB ps), some (.int (s : Nat)), some (.int (n : Nat)), none, none, none] = some (.nx [some (eB ps), some (.int (s : Nat)), some (.int (n : Nat)), some (.int (s : Nat)), none, none]) := rfl
  have e3 : iRng1 (dcons (dv 2) dnil) [some (eB ps), some (.int (s : Nat)), some (.int (n : Nat)), some (.int (s : Nat)), none, none] = some ((List.range n).map fun i : Nat => D.int i) := by
    simp only [bnd_some, bnd_none, p_dc, p_dv, lk_z, lk_s, st_z, st_s, un_z, un_s, wipe_n, wipe_c, p_d2, p_d1, p_dnil, p_dcons, p_dL, p_asB, p_asI, p_asL, p_asSeqL, p_asSeqT, p_bV, p_dB, p_bAnd, p_bOr, p_bNot, p_dIf, p_dAnd, p_dOr, p_dNot, p_dCh, p_bYes, p_gN, p_gT, p_gsNil, p_gsCons, p_dNx, p_dRet, p_dSet, p_dIfS, p_dAsg, p_dPar, p_dAug, p_dApp, p_dSetIx, p_nLst, p_nRep, p_nOf, p_dSetN, p_dParN1, p_dParNN, p_iSeq, p_iRng1, p_iRng2, p_oNo, p_oIx, p_dSl, p_asIx, p_opTup, p_opLst, p_lenT, p_lenL, p_lenS, p_tupT, p_tupL, p_add, p_sub, p_mul, p_lt, p_le, p_gt, p_ge, p_eqI, p_neI, p_isN, p_isnN, p_isB, p_isnB, p_isNone_n, p_isNone_i, p_isNone_t, p_isNone_l, p_appL, p_appT, b_mc, b_mn, b_ac, b_an, b_rs, b_rz, b_lc, b_ln, b_it, b_if, b_itt, b_iff, p_dSeq, p_eqB, p_neB, len_eT, len_eR, len_eV, isNone_eO, seq_eT, seq_eR, seq_eV, seq_eL, eO_some, eO_none, len_eL, p_dOrT, ↓p_eqN, ↓p_neN, ↓p_ltN, ↓p_leN, ↓p_gtN, ↓p_geN, rg]
  exact run_y (r := (ρ', (List.range n).map fun i => D.int (iterR ps s (i + 1) : Nat))) rfl (yseq (ypl e1) (yseq (ypl e2) (yseq (g := yNx) (yfor e3 q) rfl)))
def ringL (ps : List Nat) (x : Nat) : List Nat := (List.range ps.length).filter fun a => decide (x % ps.getD a 0 = 0)
theorem ringL_len (ps : List Nat) (x : Nat) : (ringL ps x).length = ringN ps x := ring_len ps x
theorem ringL_nil {ps : List Nat} {x : Nat} : decide (ringL ps x = []) = !anyR ps x := by
  have := ringL_len ps x
  unfold anyR
  rw [← this]
  cases ringL ps x <;> simp
theorem ringing_e {ps : List Nat} (h : Pds ps) (x : Nat) : m_law_ringing [eI ps, .int (x : Nat)] = some (eI (ringL ps x)) := by
  have en : iEn (dcons (dv 0) dnil) [some (eI ps), some (.int (x : Nat)), none, none] = some ((List.range ps.length).map fun a => .tup [.int (a : Nat), .int (ps.getD a 0 : Nat)]) := by
    have e : eI ps = .tup ((List.range ps.length).map fun a => D.int (ps.getD a 0 : Nat)) := by
      rw [eI_eV rfl]
      rfl
    rw [p_iEnT (xs := (List.range ps.length).map fun a => D.int (ps.getD a 0 : Nat)) (by rw [← e]; rfl), enum_range]
  have h5 := h.five
  have c1 : m_law_ringing_c1 [some (eI ps), some (.int (x : Nat)), none, none] = some (.lst ((ringL ps x).map fun a => D.int (a : Nat))) := by
    unfold m_law_ringing_c1 ringL
    rw [comp_if (fun a : Nat => .tup [.int (a : Nat), .int (ps.getD a 0 : Nat)]) (fun a => decide (x % ps.getD a 0 = 0)) (fun a => D.int (a : Nat)) (List.range ps.length) en (by simp; omega) (by
      intro a ha
      have ha := List.mem_range.mp ha
      have pb := h.bd (ps.getD a 0) (by rw [List.getD_eq_getElem?_getD, List.getElem?_eq_getElem ha]; exact List.getElem_mem ha)
      have oi : opInt [.int (x : Nat)] = some (.int (x : Nat)) := rfl
      have mo := mod_n (a := x) pb.1
      have eq : opEq (.int ((x % ps.getD a 0 : Nat) : Int)) (.int 0) = some (.bl (decide (x % ps.getD a 0 = 0))) := p_eqN _ 0
      generalize ps.getD a 0 = p at mo eq
      refine ⟨_, by simp only [bnd_some, bnd_none, p_dc, p_dv, lk_z, lk_s, st_z, st_s, un_z, un_s, wipe_n, wipe_c, p_d2, p_d1, p_dnil, p_dcons, p_dL, p_asB, p_asI, p_asL, p_asSeqL, p_asSeqT, p_bV, p_dB, p_bAnd, p_bOr, p_bNot, p_dIf, p_dAnd, p_dOr, p_dNot, p_dCh, p_bYes, p_gN, p_gT, p_gsNil, p_gsCons, p_dNx, p_dRet, p_dSet, p_dIfS, p_dAsg, p_dPar, p_dAug, p_dApp, p_dSetIx, p_nLst, p_nRep, p_nOf, p_dSetN, p_dParN1, p_dParNN, p_iSeq, p_iRng1, p_iRng2, p_oNo, p_oIx, p_dSl, p_asIx, p_opTup, p_opLst, p_lenT, p_lenL, p_lenS, p_tupT, p_tupL, p_add, p_sub, p_mul, p_lt, p_le, p_gt, p_ge, p_eqI, p_neI, p_isN, p_isnN, p_isB, p_isnB, p_isNone_n, p_isNone_i, p_isNone_t, p_isNone_l, p_appL, p_appT, b_mc, b_mn, b_ac, b_an, b_rs, b_rz, b_lc, b_ln, b_it, b_if, b_itt, b_iff, p_dSeq, p_eqB, p_neB, len_eT, len_eR, len_eV, isNone_eO, seq_eT, seq_eR, seq_eV, seq_eL, eO_some, eO_none, len_eL, p_dOrT, ↓p_eqN, ↓p_neN, ↓p_ltN, ↓p_leN, ↓p_gtN, ↓p_geN]; rfl, ?_, fun _ => ?_⟩
      · simp only [bnd_some, bnd_none, p_dc, p_dv, lk_z, lk_s, st_z, st_s, un_z, un_s, wipe_n, wipe_c, p_d2, p_d1, p_dnil, p_dcons, p_dL, p_asB, p_asI, p_asL, p_asSeqL, p_asSeqT, p_bV, p_dB, p_bAnd, p_bOr, p_bNot, p_dIf, p_dAnd, p_dOr, p_dNot, p_dCh, p_bYes, p_gN, p_gT, p_gsNil, p_gsCons, p_dNx, p_dRet, p_dSet, p_dIfS, p_dAsg, p_dPar, p_dAug, p_dApp, p_dSetIx, p_nLst, p_nRep, p_nOf, p_dSetN, p_dParN1, p_dParNN, p_iSeq, p_iRng1, p_iRng2, p_oNo, p_oIx, p_dSl, p_asIx, p_opTup, p_opLst, p_lenT, p_lenL, p_lenS, p_tupT, p_tupL, p_add, p_sub, p_mul, p_lt, p_le, p_gt, p_ge, p_eqI, p_neI, p_isN, p_isnN, p_isB, p_isnB, p_isNone_n, p_isNone_i, p_isNone_t, p_isNone_l, p_appL, p_appT, b_mc, b_mn, b_ac, b_an, b_rs, b_rz, b_lc, b_ln, b_it, b_if, b_itt, b_iff, p_dSeq, p_eqB, p_neB, len_eT, len_eR, len_eV, isNone_eO, seq_eT, seq_eR, seq_eV, seq_eL, eO_some, eO_none, len_eL, p_dOrT, ↓p_eqN, ↓p_neN, ↓p_ltN, ↓p_leN, ↓p_gtN, ↓p_geN, lk_st_o, lk_st_i, lk_un_o, len_st, len_un, Nat.reduceBEq, Nat.reduceLT, oi, mo, ↓eq]
      · simp only [bnd_some, bnd_none, p_dc, p_dv, lk_z, lk_s, st_z, st_s, un_z, un_s, wipe_n, wipe_c, p_d2, p_d1, p_dnil, p_dcons, p_dL, p_asB, p_asI, p_asL, p_asSeqL, p_asSeqT, p_bV, p_dB, p_bAnd, p_bOr, p_bNot, p_dIf, p_dAnd, p_dOr, p_dNot, p_dCh, p_bYes, p_gN, p_gT, p_gsNil, p_gsCons, p_dNx, p_dRet, p_dSet, p_dIfS, p_dAsg, p_dPar, p_dAug, p_dApp, p_dSetIx, p_nLst, p_nRep, p_nOf, p_dSetN, p_dParN1, p_dParNN, p_iSeq, p_iRng1, p_iRng2, p_oNo, p_oIx, p_dSl, p_asIx, p_opTup, p_opLst, p_lenT, p_lenL, p_lenS, p_tupT, p_tupL, p_add, p_sub, p_mul, p_lt, p_le, p_gt, p_ge, p_eqI, p_neI, p_isN, p_isnN, p_isB, p_isnB, p_isNone_n, p_isNone_i, p_isNone_t, p_isNone_l, p_appL, p_appT, b_mc, b_mn, b_ac, b_an, b_rs, b_rz, b_lc, b_ln, b_it, b_if, b_itt, b_iff, p_dSeq, p_eqB, p_neB, len_eT, len_eR, len_eV, isNone_eO, seq_eT, seq_eR, seq_eV, seq_eL, eO_some, eO_none, len_eL, p_dOrT, ↓p_eqN, ↓p_neN, ↓p_ltN, ↓p_leN, ↓p_gtN, ↓p_geN, lk_st_o, lk_st_i, lk_un_o, len_st, len_un, Nat.reduceBEq, Nat.reduceLT])]
  refine run_rt rfl ?_
  have tl : ∀ l : List D, opTuple [.lst l] = some (.tup l) := fun l => rfl
  simp only [bnd_some, bnd_none, p_dc, p_dv, lk_z, lk_s, st_z, st_s, un_z, un_s, wipe_n, wipe_c, p_d2, p_d1, p_dnil, p_dcons, p_dL, p_asB, p_asI, p_asL, p_asSeqL, p_asSeqT, p_bV, p_dB, p_bAnd, p_bOr, p_bNot, p_dIf, p_dAnd, p_dOr, p_dNot, p_dCh, p_bYes, p_gN, p_gT, p_gsNil, p_gsCons, p_dNx, p_dRet, p_dSet, p_dIfS, p_dAsg, p_dPar, p_dAug, p_dApp, p_dSetIx, p_nLst, p_nRep, p_nOf, p_dSetN, p_dParN1, p_dParNN, p_iSeq, p_iRng1, p_iRng2, p_oNo, p_oIx, p_dSl, p_asIx, p_opTup, p_opLst, p_lenT, p_lenL, p_lenS, p_tupT, p_tupL, p_add, p_sub, p_mul, p_lt, p_le, p_gt, p_ge, p_eqI, p_neI, p_isN, p_isnN, p_isB, p_isnB, p_isNone_n, p_isNone_i, p_isNone_t, p_isNone_l, p_appL, p_appT, b_mc, b_mn, b_ac, b_an, b_rs, b_rz, b_lc, b_ln, b_it, b_if, b_itt, b_iff, p_dSeq, p_eqB, p_neB, len_eT, len_eR, len_eV, isNone_eO, seq_eT, seq_eR, seq_eV, seq_eL, eO_some, eO_none, len_eL, p_dOrT, ↓p_eqN, ↓p_neN, ↓p_ltN, ↓p_leN, ↓p_gtN, ↓p_geN, Nat.reduceSub, c1, tl]
  rfl
theorem eqd_eI (a b : List Nat) : opEq (eI a) (eI b) = some (.bl (decide (a = b))) := by rw [opEq_ok (ok_eI 59 a) (ok_eI 59 b), eq_eI]
theorem ned_eI (a b : List Nat) : opNe (eI a) (eI b) = some (.bl (!decide (a = b))) := by rw [opNe_ok (ok_eI 59 a) (ok_eI 59 b), eq_eI]
/-- the n-th of those below N -/
theorem filter_nth (P : Nat → Bool) : ∀ (N k : Nat), k < ((List.range N).filter P).length → upTo P (((List.range N).filter P).getD k 0) = k ∧ P (((List.range N).filter P).getD k 0) = true ∧ ((List.range N).filter P).getD k 0 < N
  | 0, k, h => by simp at h
  | N + 1, k, h => by
    rw [List.range_succ, List.filter_append] at h ⊢
    by_cases z : k < ((List.range N).filter P).length
    · obtain ⟨h1, h2, h3⟩ := filter_nth P N k z
      rw [List.getD_eq_getElem?_getD, List.getElem?_append_left z, ← List.getD_eq_getElem?_getD]
      exact ⟨h1, h2, by omega⟩
    · cases q : P N with
      | false =>
        rw [List.filter_cons_of_neg (by rw [q]; decide), List.filter_nil, List.append_nil] at h
        exact absurd h z
      | true =>
        rw [List.filter_cons_of_pos q, List.filter_nil, List.length_append, List.length_singleton] at h
        have e : k = ((List.range N).filter P).length := by omega
        rw [List.filter_cons_of_pos q, List.filter_nil, List.getD_eq_getElem?_getD, List.getElem?_append_right (by omega), e, Nat.sub_self]
        exact ⟨rfl, q, Nat.lt_succ_self _⟩
theorem minT_m {ps : List Nat} (h : ps ≠ []) : ∃ p ∈ ps, opMinT [eI ps] = some (.int (p : Nat)) := by
  obtain ⟨p0, r, rfl⟩ : ∃ p0 r, ps = p0 :: r := by
    cases ps with
    | nil => exact absurd rfl h
    | cons a r => exact ⟨a, r, rfl⟩
  have fm := (fold_min (r.map fun p : Nat => (p : Int)) (p0 : Int)).1
  rw [← List.map_cons (f := fun p : Nat => (p : Int))] at fm
  obtain ⟨p, hpm, hpe⟩ := List.mem_map.mp fm
  refine ⟨p, hpm, ?_⟩
  have ai : asInts ((p0 :: r).map fun n : Nat => D.int n) = some ((p0 :: r).map fun n : Nat => (n : Int)) := asInts_map _ _
  show (asInts ((p0 :: r).map fun n : Nat => D.int n)).bind _ = _
  rw [ai]
  show some (D.int ((r.map fun p : Nat => (p : Int)).foldl min (p0 : Int))) = _
  rw [← hpe]
end Mi
namespace Mi
open DL
theorem p27_15 : opPow (.int 10) (.int 15) = some (.int 1000000000000000) := sameO_eq (by decide +kernel)
theorem p27_12 : opPow (.int 10) (.int 12) = some (.int 1000000000000) := sameO_eq (by decide +kernel)
theorem p27_10 : opPow (.int 10) (.int 10) = some (.int 10000000000) := sameO_eq (by decide +kernel)
theorem sub_nn {a b : Nat} (h : b ≤ a) : opSub (.int (a : Nat)) (.int (b : Nat)) = some (.int ((a - b : Nat) : Int)) := by rw [p_sub, show ((a : Nat) : Int) - (b : Int) = ((a - b : Nat) : Int) by omega]
theorem k27_b1 {ps : List Nat} (hp : Pds ps) {a : Nat} (ha : a ≤ 1000000000000) {ρ : Rho} (hl : ρ.length = 10) (h3 : lk ρ 3 = some (eI ps)) (h4 : lk ρ 4 = some (eB ps)) (h6 : lk ρ 6 = some (.int (a : Nat))) :
    ∃ ρ', m_k27_b1 ρ = some (.nx ρ') ∧ Ag [7] ρ ρ' := by
  obtain ⟨t, rt, tle, ra⟩ := ring_at_m hp (idx := a) (by omega)
  obtain ⟨an, up, _⟩ := rt.any
  have rg := ringing_e hp t
  have e1 := eqd_eI (ringL ps t) []
  rw [ringL_nil, an] at e1
  have e1 : opEq (eI (ringL ps t)) (.tup []) = some (.bl (!true)) := e1
  obtain ⟨p, hpm, mn⟩ := minT_m hp.ne
  have pb := hp.bd p hpm
  have mu := mul_n (a := a) (b := p) (by omega)
  have g1 := p_gtN t (a * p)
  rw [decide_eq_false (by have := tle p hpm; omega)] at g1
  have le15 : opLe (.int (t : Nat)) (.int 1000000000000000) = some (.bl (decide (t ≤ 1000000000000000))) := p_leN t 1000000000000000
  have lt15 : opLt (.int (t : Nat)) (.int 1000000000000000) = some (.bl (decide (t < 1000000000000000))) := p_ltN t 1000000000000000
  have lt12 : opLt (.int (a : Nat)) (.int 1000000000000) = some (.bl (decide (a < 1000000000000))) := p_ltN a 1000000000000
  have cr := count_rings_m hp 0 t
  rw [if_pos (Nat.zero_le _), up] at cr
  have cr : m_count_rings [eB ps, .int 0, .int (t : Nat)] = some (.int ((a + 1 - 0 : Nat) : Int)) := cr
  have ad1 : opAdd (.int (a : Nat)) (.int 1) = some (.int ((a + 1 : Nat) : Int)) := add_nn a 1
  have n1 := neN_refl (a + 1)
  have cr : m_count_rings [eB ps, .int 0, .int (t : Nat)] = some (.int ((a + 1 : Nat) : Int)) := cr
  obtain ⟨t2, rt2, _, ra2⟩ := ring_at_m hp (idx := a + 1) (by omega)
  have e2 : t2 = nextR ps t := rt2.uniq (rt.next hp)
  subst e2
  have n2 := ne_eL [nextR ps t] [nextR ps t]
  rw [decide_eq_true rfl] at n2
  have n2 : opNe (.lst [.int (nextR ps t : Nat)]) (.lst [.int (nextR ps t : Nat)]) = some (.bl (!true)) := n2
  refine ⟨st ρ 7 (.int (t : Nat)), ?_, (Ag.refl _ ρ).st (by decide)⟩
  by_cases z : t < 1000000000000000
  · have rs := rings_m hp (s := t) (n := 1) (by omega) (by decide)
    have rs : opLG m_B_rings [eB ps, .int (t : Nat), .int 1] = some (.lst [.int (nextR ps t : Nat)]) := by
      show (m_B_rings [eB ps, .int (t : Nat), .int ((1 : Nat) : Int)]).bind (fun out => some (D.lst out)) = _
      rw [rs]
      rfl
    rw [decide_eq_true z] at lt15
    rw [decide_eq_true (by omega)] at le15
    by_cases y : a < 1000000000000
    · rw [decide_eq_true y] at lt12
      simp only [m_k27_b1, bnd_some, bnd_none, p_dc, p_dv, lk_z, lk_s, st_z, st_s, un_z, un_s, wipe_n, wipe_c, p_d2, p_d1, p_dnil, p_dcons, p_dL, p_asB, p_asI, p_asL, p_asSeqL, p_asSeqT, p_bV, p_dB, p_bAnd, p_bOr, p_bNot, p_dIf, p_dAnd, p_dOr, p_dNot, p_dCh, p_bYes, p_gN, p_gT, p_gsNil, p_gsCons, p_dNx, p_dRet, p_dSet, p_dIfS, p_dAsg, p_dPar, p_dAug, p_dApp, p_dSetIx, p_nLst, p_nRep, p_nOf, p_dSetN, p_dParN1, p_dParNN, p_iSeq, p_iRng1, p_iRng2, p_oNo, p_oIx, p_dSl, p_asIx, p_opTup, p_opLst, p_lenT, p_lenL, p_lenS, p_tupT, p_tupL, p_add, p_sub, p_mul, p_lt, p_le, p_gt, p_ge, p_eqI, p_neI, p_isN, p_isnN, p_isB, p_isnB, p_isNone_n, p_isNone_i, p_isNone_t, p_isNone_l, p_appL, p_appT, b_mc, b_mn, b_ac, b_an, b_rs, b_rz, b_lc, b_ln, b_it, b_if, b_itt, b_iff, p_dSeq, p_eqB, p_neB, len_eT, len_eR, len_eV, isNone_eO, seq_eT, seq_eR, seq_eV, seq_eL, eO_some, eO_none, len_eL, p_dOrT, ↓p_eqN, ↓p_neN, ↓p_ltN, ↓p_leN, ↓p_gtN, ↓p_geN, lk_st_o, lk_st_i, len_st, Nat.reduceBEq, Nat.reduceLT, hl, h3, h4, h6, ra, rg, Nat.zero_le, ↓e1, mn, mu, ↓g1, p27_15, p27_12, ↓le15, cr, ↓ad1, ↓n1, ↓lt15, ↓lt12, rs, ra2, ↓n2, Bool.not_true, Bool.false_eq_true, if_false, if_true, Nat.reduceAdd, Nat.reduceLeDiff]
    · rw [decide_eq_false y] at lt12
      simp only [m_k27_b1, bnd_some, bnd_none, p_dc, p_dv, lk_z, lk_s, st_z, st_s, un_z, un_s, wipe_n, wipe_c, p_d2, p_d1, p_dnil, p_dcons, p_dL, p_asB, p_asI, p_asL, p_asSeqL, p_asSeqT, p_bV, p_dB, p_bAnd, p_bOr, p_bNot, p_dIf, p_dAnd, p_dOr, p_dNot, p_dCh, p_bYes, p_gN, p_gT, p_gsNil, p_gsCons, p_dNx, p_dRet, p_dSet, p_dIfS, p_dAsg, p_dPar, p_dAug, p_dApp, p_dSetIx, p_nLst, p_nRep, p_nOf, p_dSetN, p_dParN1, p_dParNN, p_iSeq, p_iRng1, p_iRng2, p_oNo, p_oIx, p_dSl, p_asIx, p_opTup, p_opLst, p_lenT, p_lenL, p_lenS, p_tupT, p_tupL, p_add, p_sub, p_mul, p_lt, p_le, p_gt, p_ge, p_eqI, p_neI, p_isN, p_isnN, p_isB, p_isnB, p_isNone_n, p_isNone_i, p_isNone_t, p_isNone_l, p_appL, p_appT, b_mc, b_mn, b_ac, b_an, b_rs, b_rz, b_lc, b_ln, b_it, b_if, b_itt, b_iff, p_dSeq, p_eqB, p_neB, len_eT, len_eR, len_eV, isNone_eO, seq_eT, seq_eR, seq_eV, seq_eL, eO_some, eO_none, len_eL, p_dOrT, ↓p_eqN, ↓p_neN, ↓p_ltN, ↓p_leN, ↓p_gtN, ↓p_geN, lk_st_o, lk_st_i, len_st, Nat.reduceBEq, Nat.reduceLT, hl, h3, h4, h6, ra, rg, Nat.zero_le, ↓e1, mn, mu, ↓g1, p27_15, p27_12, ↓le15, cr, ↓ad1, ↓n1, ↓lt15, ↓lt12, Bool.not_true, Bool.false_eq_true, if_false, if_true]
  · rw [decide_eq_false z] at lt15
    by_cases y : t ≤ 1000000000000000
    · rw [decide_eq_true y] at le15
      simp only [m_k27_b1, bnd_some, bnd_none, p_dc, p_dv, lk_z, lk_s, st_z, st_s, un_z, un_s, wipe_n, wipe_c, p_d2, p_d1, p_dnil, p_dcons, p_dL, p_asB, p_asI, p_asL, p_asSeqL, p_asSeqT, p_bV, p_dB, p_bAnd, p_bOr, p_bNot, p_dIf, p_dAnd, p_dOr, p_dNot, p_dCh, p_bYes, p_gN, p_gT, p_gsNil, p_gsCons, p_dNx, p_dRet, p_dSet, p_dIfS, p_dAsg, p_dPar, p_dAug, p_dApp, p_dSetIx, p_nLst, p_nRep, p_nOf, p_dSetN, p_dParN1, p_dParNN, p_iSeq, p_iRng1, p_iRng2, p_oNo, p_oIx, p_dSl, p_asIx, p_opTup, p_opLst, p_lenT, p_lenL, p_lenS, p_tupT, p_tupL, p_add, p_sub, p_mul, p_lt, p_le, p_gt, p_ge, p_eqI, p_neI, p_isN, p_isnN, p_isB, p_isnB, p_isNone_n, p_isNone_i, p_isNone_t, p_isNone_l, p_appL, p_appT, b_mc, b_mn, b_ac, b_an, b_rs, b_rz, b_lc, b_ln, b_it, b_if, b_itt, b_iff, p_dSeq, p_eqB, p_neB, len_eT, len_eR, len_eV, isNone_eO, seq_eT, seq_eR, seq_eV, seq_eL, eO_some, eO_none, len_eL, p_dOrT, ↓p_eqN, ↓p_neN, ↓p_ltN, ↓p_leN, ↓p_gtN, ↓p_geN, lk_st_o, lk_st_i, len_st, Nat.reduceBEq, Nat.reduceLT, hl, h3, h4, h6, ra, rg, Nat.zero_le, ↓e1, mn, mu, ↓g1, p27_15, p27_12, ↓le15, cr, ↓ad1, ↓n1, ↓lt15, Bool.not_true, Bool.false_eq_true, if_false, if_true]
    · rw [decide_eq_false y] at le15
      simp only [m_k27_b1, bnd_some, bnd_none, p_dc, p_dv, lk_z, lk_s, st_z, st_s, un_z, un_s, wipe_n, wipe_c, p_d2, p_d1, p_dnil, p_dcons, p_dL, p_asB, p_asI, p_asL, p_asSeqL, p_asSeqT, p_bV, p_dB, p_bAnd, p_bOr, p_bNot, p_dIf, p_dAnd, p_dOr, p_dNot, p_dCh, p_bYes, p_gN, p_gT, p_gsNil, p_gsCons, p_dNx, p_dRet, p_dSet, p_dIfS, p_dAsg, p_dPar, p_dAug, p_dApp, p_dSetIx, p_nLst, p_nRep, p_nOf, p_dSetN, p_dParN1, p_dParNN, p_iSeq, p_iRng1, p_iRng2, p_oNo, p_oIx, p_dSl, p_asIx, p_opTup, p_opLst, p_lenT, p_lenL, p_lenS, p_tupT, p_tupL, p_add, p_sub, p_mul, p_lt, p_le, p_gt, p_ge, p_eqI, p_neI, p_isN, p_isnN, p_isB, p_isnB, p_isNone_n, p_isNone_i, p_isNone_t, p_isNone_l, p_appL, p_appT, b_mc, b_mn, b_ac, b_an, b_rs, b_rz, b_lc, b_ln, b_it, b_if, b_itt, b_iff, p_dSeq, p_eqB, p_neB, len_eT, len_eR, len_eV, isNone_eO, seq_eT, seq_eR, seq_eV, seq_eL, eO_some, eO_none, len_eL, p_dOrT, ↓p_eqN, ↓p_neN, ↓p_ltN, ↓p_leN, ↓p_gtN, ↓p_geN, lk_st_o, lk_st_i, len_st, Nat.reduceBEq, Nat.reduceLT, hl, h3, h4, h6, ra, rg, Nat.zero_le, ↓e1, mn, mu, ↓g1, p27_15, p27_12, ↓le15, ↓lt15, Bool.not_true, Bool.false_eq_true, if_false, if_true]
theorem k27_b2 {ns : List Int} (hns : ns.length ≤ 63) {i : Nat} (hi : i < 8) {ρ : Rho} (hl : ρ.length = 10) (h0 : lk ρ 0 = some (.scr ns)) (h1 : lk ρ 1 = some (.int i)) :
    ∃ ρ', m_k27_b2 ρ = some (.nx ρ') ∧ Ag [1, 2, 3, 4, 5, 6, 7, 8, 9] ρ ρ' := by
  obtain ⟨ds, hd, hb, hds⟩ := digits_m hns (i := i) (count := 40) (base := 27720) (by omega) (by decide) (by decide) (by decide)
  have hds : m_law_digits [.scr ns, .int i, .int 40, .int 27720] = some (eL ds) := hds
  have hbi : ∀ k, k < 40 → ds.getD k 0 < 27720 := fun k hk => by
    have := hb (ds.getD k 0) (by rw [List.getD_eq_getElem?_getD, List.getElem?_eq_getElem (by omega)]; exact List.getElem_mem (by omega))
    omega
  obtain ⟨ps, hp, lb⟩ := law_bells_g (ds := ds) (by omega) (most := 1000) (by decide) (by decide)
  have lb : m_law_bells [eL ds, .int 1000] = some (eI ps) := lb
  have tw := tower_m hp
  have d10 : opIx (eL ds) (.int 10) = some (.int (ds.getD 10 0)) := ix_eL (k := 10) (by omega)
  have d11 : opIx (eL ds) (.int 11) = some (.int (ds.getD 11 0)) := ix_eL (k := 11) (by omega)
  have d12 : opIx (eL ds) (.int 12) = some (.int (ds.getD 12 0)) := ix_eL (k := 12) (by omega)
  have d13 : opIx (eL ds) (.int 13) = some (.int (ds.getD 13 0)) := ix_eL (k := 13) (by omega)
  have b10 := hbi 10 (by decide)
  have b11 := hbi 11 (by decide)
  have b12 := hbi 12 (by decide)
  have b13 := hbi 13 (by decide)
  generalize ds.getD 10 0 = x10 at d10 b10
  generalize ds.getD 11 0 = x11 at d11 b11
  generalize ds.getD 12 0 = x12 at d12 b12
  generalize ds.getD 13 0 = x13 at d13 b13
  have r400 : opRng1 [.int 400] = some ((List.range 400).map fun i : Nat => D.int i) := rng1 (n := 400) (by decide)
  generalize hρ : st (st (st ρ 2 (eL ds)) 3 (eI ps)) 4 (eB ps) = ρ1
  have l1 : ρ1.length = 10 := by rw [← hρ]; simp only [len_st, hl]
  have a3 : lk ρ1 3 = some (eI ps) := by rw [← hρ]; simp only [lk_st_o, lk_st_i, len_st, Nat.reduceBEq, Nat.reduceLT, hl]
  have a4 : lk ρ1 4 = some (eB ps) := by rw [← hρ]; simp only [lk_st_o, lk_st_i, len_st, Nat.reduceBEq, Nat.reduceLT, hl]
  have a2 : lk ρ1 2 = some (eL ds) := by rw [← hρ]; simp only [lk_st_o, lk_st_i, len_st, Nat.reduceBEq, Nat.reduceLT, hl]
  have ag1 : Ag [1, 2, 3, 4, 5, 6, 7, 8, 9] ρ ρ1 := by
    rw [← hρ]
    exact (((Ag.refl _ ρ).st (by decide)).st (by decide)).st (by decide)
  have c1 : m_k27_c1 ρ1 = some (eL ((List.range 400).filter (anyR ps))) := by
    unfold m_k27_c1
    refine comp_if (fun x : Nat => D.int x) (anyR ps) (fun x => D.int x) (List.range 400) (by simp only [bnd_some, bnd_none, p_dc, p_dv, lk_z, lk_s, st_z, st_s, un_z, un_s, wipe_n, wipe_c, p_d2, p_d1, p_dnil, p_dcons, p_dL, p_asB, p_asI, p_asL, p_asSeqL, p_asSeqT, p_bV, p_dB, p_bAnd, p_bOr, p_bNot, p_dIf, p_dAnd, p_dOr, p_dNot, p_dCh, p_bYes, p_gN, p_gT, p_gsNil, p_gsCons, p_dNx, p_dRet, p_dSet, p_dIfS, p_dAsg, p_dPar, p_dAug, p_dApp, p_dSetIx, p_nLst, p_nRep, p_nOf, p_dSetN, p_dParN1, p_dParNN, p_iSeq, p_iRng1, p_iRng2, p_oNo, p_oIx, p_dSl, p_asIx, p_opTup, p_opLst, p_lenT, p_lenL, p_lenS, p_tupT, p_tupL, p_add, p_sub, p_mul, p_lt, p_le, p_gt, p_ge, p_eqI, p_neI, p_isN, p_isnN, p_isB, p_isnB, p_isNone_n, p_isNone_i, p_isNone_t, p_isNone_l, p_appL, p_appT, b_mc, b_mn, b_ac, b_an, b_rs, b_rz, b_lc, b_ln, b_it, b_if, b_itt, b_iff, p_dSeq, p_eqB, p_neB, len_eT, len_eR, len_eV, isNone_eO, seq_eT, seq_eR, seq_eV, seq_eL, eO_some, eO_none, len_eL, p_dOrT, ↓p_eqN, ↓p_neN, ↓p_ltN, ↓p_leN, ↓p_gtN, ↓p_geN, r400]) (by decide) ?_
    intro x hx
    have rg := ringing_e hp x
    have n1 := ned_eI (ringL ps x) []
    rw [ringL_nil, Bool.not_not] at n1
    have n1 : opNe (eI (ringL ps x)) (.tup []) = some (.bl (anyR ps x)) := n1
    refine ⟨_, rfl, ?_, fun _ => ?_⟩
    · simp only [bnd_some, bnd_none, p_dc, p_dv, lk_z, lk_s, st_z, st_s, un_z, un_s, wipe_n, wipe_c, p_d2, p_d1, p_dnil, p_dcons, p_dL, p_asB, p_asI, p_asL, p_asSeqL, p_asSeqT, p_bV, p_dB, p_bAnd, p_bOr, p_bNot, p_dIf, p_dAnd, p_dOr, p_dNot, p_dCh, p_bYes, p_gN, p_gT, p_gsNil, p_gsCons, p_dNx, p_dRet, p_dSet, p_dIfS, p_dAsg, p_dPar, p_dAug, p_dApp, p_dSetIx, p_nLst, p_nRep, p_nOf, p_dSetN, p_dParN1, p_dParNN, p_iSeq, p_iRng1, p_iRng2, p_oNo, p_oIx, p_dSl, p_asIx, p_opTup, p_opLst, p_lenT, p_lenL, p_lenS, p_tupT, p_tupL, p_add, p_sub, p_mul, p_lt, p_le, p_gt, p_ge, p_eqI, p_neI, p_isN, p_isnN, p_isB, p_isnB, p_isNone_n, p_isNone_i, p_isNone_t, p_isNone_l, p_appL, p_appT, b_mc, b_mn, b_ac, b_an, b_rs, b_rz, b_lc, b_ln, b_it, b_if, b_itt, b_iff, p_dSeq, p_eqB, p_neB, len_eT, len_eR, len_eV, isNone_eO, seq_eT, seq_eR, seq_eV, seq_eL, eO_some, eO_none, len_eL, p_dOrT, ↓p_eqN, ↓p_neN, ↓p_ltN, ↓p_leN, ↓p_gtN, ↓p_geN, lk_st_o, lk_st_i, lk_un_o, len_st, len_un, Nat.reduceBEq, Nat.reduceLT, l1, a3, rg, Nat.zero_le, ↓n1]
    · simp only [bnd_some, bnd_none, p_dc, p_dv, lk_z, lk_s, st_z, st_s, un_z, un_s, wipe_n, wipe_c, p_d2, p_d1, p_dnil, p_dcons, p_dL, p_asB, p_asI, p_asL, p_asSeqL, p_asSeqT, p_bV, p_dB, p_bAnd, p_bOr, p_bNot, p_dIf, p_dAnd, p_dOr, p_dNot, p_dCh, p_bYes, p_gN, p_gT, p_gsNil, p_gsCons, p_dNx, p_dRet, p_dSet, p_dIfS, p_dAsg, p_dPar, p_dAug, p_dApp, p_dSetIx, p_nLst, p_nRep, p_nOf, p_dSetN, p_dParN1, p_dParNN, p_iSeq, p_iRng1, p_iRng2, p_oNo, p_oIx, p_dSl, p_asIx, p_opTup, p_opLst, p_lenT, p_lenL, p_lenS, p_tupT, p_tupL, p_add, p_sub, p_mul, p_lt, p_le, p_gt, p_ge, p_eqI, p_neI, p_isN, p_isnN, p_isB, p_isnB, p_isNone_n, p_isNone_i, p_isNone_t, p_isNone_l, p_appL, p_appT, b_mc, b_mn, b_ac, b_an, b_rs, b_rz, b_lc, b_ln, b_it, b_if, b_itt, b_iff, p_dSeq, p_eqB, p_neB, len_eT, len_eR, len_eV, isNone_eO, seq_eT, seq_eR, seq_eV, seq_eL, eO_some, eO_none, len_eL, p_dOrT, ↓p_eqN, ↓p_neN, ↓p_ltN, ↓p_leN, ↓p_gtN, ↓p_geN, lk_st_i, len_un, Nat.reduceLT, l1]
  have nth := fun k hk => filter_nth (anyR ps) 400 k hk
  have tl : ((List.range 400).filter (anyR ps)).length ≤ 400 := by
    have := List.length_filter_le (anyR ps) (List.range 400)
    rwa [List.length_range] at this
  generalize (List.range 400).filter (anyR ps) = ts at c1 nth tl
  generalize hρ2 : st ρ1 5 (eL ts) = ρ2
  have l2 : ρ2.length = 10 := by rw [← hρ2]; simp only [len_st, l1]
  have ag2 : Ag [1, 2, 3, 4, 5, 6, 7, 8, 9] ρ1 ρ2 := by rw [← hρ2]; exact (Ag.refl _ ρ1).st (by decide)
  have e2 : lk ρ2 2 = some (eL ds) := by rw [← hρ2]; simp only [lk_st_o, Nat.reduceBEq, a2]
  have e3 : lk ρ2 3 = some (eI ps) := by rw [← hρ2]; simp only [lk_st_o, Nat.reduceBEq, a3]
  have e4 : lk ρ2 4 = some (eB ps) := by rw [← hρ2]; simp only [lk_st_o, Nat.reduceBEq, a4]
  have e5 : lk ρ2 5 = some (eL ts) := by rw [← hρ2]; rw [lk_st_i (by omega)]
  have mn : opMin [.int (ts.length : Int), .int 12] = some (.int ((min ts.length 12 : Nat) : Int)) := min_n ts.length 12
  have c2 : m_k27_c2 ρ2 = some (eL (ts.take 12)) := by
    unfold m_k27_c2
    rw [comp_all (fun x : Nat => D.int x) (fun x => D.int (ts.getD x 0 : Nat)) (List.range (min ts.length 12)) (by simp only [bnd_some, bnd_none, p_dc, p_dv, lk_z, lk_s, st_z, st_s, un_z, un_s, wipe_n, wipe_c, p_d2, p_d1, p_dnil, p_dcons, p_dL, p_asB, p_asI, p_asL, p_asSeqL, p_asSeqT, p_bV, p_dB, p_bAnd, p_bOr, p_bNot, p_dIf, p_dAnd, p_dOr, p_dNot, p_dCh, p_bYes, p_gN, p_gT, p_gsNil, p_gsCons, p_dNx, p_dRet, p_dSet, p_dIfS, p_dAsg, p_dPar, p_dAug, p_dApp, p_dSetIx, p_nLst, p_nRep, p_nOf, p_dSetN, p_dParN1, p_dParNN, p_iSeq, p_iRng1, p_iRng2, p_oNo, p_oIx, p_dSl, p_asIx, p_opTup, p_opLst, p_lenT, p_lenL, p_lenS, p_tupT, p_tupL, p_add, p_sub, p_mul, p_lt, p_le, p_gt, p_ge, p_eqI, p_neI, p_isN, p_isnN, p_isB, p_isnB, p_isNone_n, p_isNone_i, p_isNone_t, p_isNone_l, p_appL, p_appT, b_mc, b_mn, b_ac, b_an, b_rs, b_rz, b_lc, b_ln, b_it, b_if, b_itt, b_iff, p_dSeq, p_eqB, p_neB, len_eT, len_eR, len_eV, isNone_eO, seq_eT, seq_eR, seq_eV, seq_eL, eO_some, eO_none, len_eL, p_dOrT, ↓p_eqN, ↓p_neN, ↓p_ltN, ↓p_leN, ↓p_gtN, ↓p_geN, e5, len_eL, mn, rng1 (n := min ts.length 12) (by omega)]) (by rw [List.length_range]; omega) (by
      intro x hx
      have hx := List.mem_range.mp hx
      obtain ⟨q1, q2, q3⟩ := nth x (by omega)
      obtain ⟨t, rt, _, ra⟩ := ring_at_m hp (idx := x) (by omega)
      have et : t = ts.getD x 0 := rt.uniq (RingAt.of_any q2 q1)
      rw [et] at ra
      refine ⟨_, rfl, ?_⟩
      simp only [bnd_some, bnd_none, p_dc, p_dv, lk_z, lk_s, st_z, st_s, un_z, un_s, wipe_n, wipe_c, p_d2, p_d1, p_dnil, p_dcons, p_dL, p_asB, p_asI, p_asL, p_asSeqL, p_asSeqT, p_bV, p_dB, p_bAnd, p_bOr, p_bNot, p_dIf, p_dAnd, p_dOr, p_dNot, p_dCh, p_bYes, p_gN, p_gT, p_gsNil, p_gsCons, p_dNx, p_dRet, p_dSet, p_dIfS, p_dAsg, p_dPar, p_dAug, p_dApp, p_dSetIx, p_nLst, p_nRep, p_nOf, p_dSetN, p_dParN1, p_dParNN, p_iSeq, p_iRng1, p_iRng2, p_oNo, p_oIx, p_dSl, p_asIx, p_opTup, p_opLst, p_lenT, p_lenL, p_lenS, p_tupT, p_tupL, p_add, p_sub, p_mul, p_lt, p_le, p_gt, p_ge, p_eqI, p_neI, p_isN, p_isnN, p_isB, p_isnB, p_isNone_n, p_isNone_i, p_isNone_t, p_isNone_l, p_appL, p_appT, b_mc, b_mn, b_ac, b_an, b_rs, b_rz, b_lc, b_ln, b_it, b_if, b_itt, b_iff, p_dSeq, p_eqB, p_neB, len_eT, len_eR, len_eV, isNone_eO, seq_eT, seq_eR, seq_eV, seq_eL, eO_some, eO_none, len_eL, p_dOrT, ↓p_eqN, ↓p_neN, ↓p_ltN, ↓p_leN, ↓p_gtN, ↓p_geN, lk_st_o, lk_st_i, lk_un_o, len_st, len_un, Nat.reduceBEq, Nat.reduceLT, l2, e4, ra])]
    have : ts.take 12 = (List.range (min ts.length 12)).map fun x => ts.getD x 0 := by
      refine ext_getD (n := min ts.length 12) (by rw [List.length_take]; omega) (by simp) fun i hi => ?_
      rw [getD_rmap _ hi, List.getD_eq_getElem?_getD, List.getElem?_take, if_pos (by omega), ← List.getD_eq_getElem?_getD]
    rw [this]
    unfold eL
    rw [List.map_map]
    rfl
  have s12 : opSl none (some 12) (eL ts) = some (eL (ts.take 12)) := sl_eLt' (u := ts) (k := 12)
  have n2 := ne_eL (ts.take 12) (ts.take 12)
  rw [decide_eq_true rfl] at n2
  -- indices
  have m1 : opMul (.int (x11 : Nat)) (.int 27720) = some (.int ((x11 * 27720 : Nat) : Int)) := mul_n (b := 27720) (by decide)
  have m2 : opMul (.int ((x11 * 27720 : Nat) : Int)) (.int 1300) = some (.int ((x11 * 27720 * 1300 : Nat) : Int)) := mul_n (b := 1300) (by decide)
  have m3 : opSub (.int 1000000000000) (.int (x12 : Nat)) = some (.int ((1000000000000 - x12 : Nat) : Int)) := sub_nn (a := 1000000000000) (by omega)
  obtain ⟨ρ3, q3, ag3⟩ := for_agL (b := m_k27_b1) (i := 6) (ws := [6, 7]) (ρ := ρ2) (fun a : Nat => D.int a) [x10, x11 * 27720 * 1300, 1000000000000 - x12] (by decide) (by omega) (by
    intro a ha ρ' ag e
    have ha2 : a ≤ 1000000000000 := by
      simp only [List.mem_cons, List.not_mem_nil, or_false] at ha
      rcases ha with e | e | e <;> omega
    obtain ⟨ρ'', q, ag'⟩ := k27_b1 hp ha2 (by rw [ag.1, l2]) (ag.lk 3 (by decide) e3) (ag.lk 4 (by decide) e4) e
    exact ⟨ρ'', q, ag.trans (ag'.mono (by decide))⟩)
  have q3 : forL (gN 6) m_k27_b1 [.int (x10 : Nat), .int ((x11 * 27720 * 1300 : Nat) : Int), .int ((1000000000000 - x12 : Nat) : Int)] ρ2 = some (.nx ρ3) := q3
  have f3 := (for_eq (it := iSeq (dL opTup (dcons (d2 opIx (dv 2) (dc (.int 10))) (dcons (d2 opMul (d2 opMul (d2 opIx (dv 2) (dc (.int 11))) (dc (.int 27720))) (dc (.int 1300))) (dcons (d2 opSub (d2 opPow (dc (.int 10)) (dc (.int 12))) (d2 opIx (dv 2) (dc (.int 12)))) dnil))))) (ρ := ρ2) (by simp only [bnd_some, bnd_none, p_dc, p_dv, lk_z, lk_s, st_z, st_s, un_z, un_s, wipe_n, wipe_c, p_d2, p_d1, p_dnil, p_dcons, p_dL, p_asB, p_asI, p_asL, p_asSeqL, p_asSeqT, p_bV, p_dB, p_bAnd, p_bOr, p_bNot, p_dIf, p_dAnd, p_dOr, p_dNot, p_dCh, p_bYes, p_gN, p_gT, p_gsNil, p_gsCons, p_dNx, p_dRet, p_dSet, p_dIfS, p_dAsg, p_dPar, p_dAug, p_dApp, p_dSetIx, p_nLst, p_nRep, p_nOf, p_dSetN, p_dParN1, p_dParNN, p_iSeq, p_iRng1, p_iRng2, p_oNo, p_oIx, p_dSl, p_asIx, p_opTup, p_opLst, p_lenT, p_lenL, p_lenS, p_tupT, p_tupL, p_add, p_sub, p_mul, p_lt, p_le, p_gt, p_ge, p_eqI, p_neI, p_isN, p_isnN, p_isB, p_isnB, p_isNone_n, p_isNone_i, p_isNone_t, p_isNone_l, p_appL, p_appT, b_mc, b_mn, b_ac, b_an, b_rs, b_rz, b_lc, b_ln, b_it, b_if, b_itt, b_iff, p_dSeq, p_eqB, p_neB, len_eT, len_eR, len_eV, isNone_eO, seq_eT, seq_eR, seq_eV, seq_eL, eO_some, eO_none, len_eL, p_dOrT, ↓p_eqN, ↓p_neN, ↓p_ltN, ↓p_leN, ↓p_gtN, ↓p_geN, e2, d10, d11, d12, ↓m1, ↓m2, p27_12, ↓m3, Nat.reduceAdd, Nat.reduceLeDiff])).trans q3
  have l3 : ρ3.length = 10 := by rw [ag3.1, l2]
  have f4 := ag3.lk 4 (by decide) e4
  have f2 := ag3.lk 2 (by decide) e2
  have f3' := ag3.lk 3 (by decide) e3
  -- whole rounds
  have tg := together_m hp
  obtain ⟨z0, _, zd⟩ := lcmL_spec ps.reverse ps (by simp) hp.bd
  have per : ∀ x, anyR ps (x + lcmL ps) = anyR ps x := fun x => by unfold anyR; rw [ring_period zd]
  generalize lcmL ps = z at tg z0 zd per
  have lez : opLe (.int (z : Nat)) (.int 10000000000) = some (.bl (decide (z ≤ 10000000000))) := p_leN z 10000000000
  have zs : opSub (.int (z : Nat)) (.int 1) = some (.int ((z - 1 : Nat) : Int)) := sub_nn (b := 1) (by omega)
  have cr := count_rings_m hp 0 (z - 1)
  rw [if_pos (Nat.zero_le _), show z - 1 + 1 = z by omega] at cr
  have cr : m_count_rings [eB ps, .int 0, .int ((z - 1 : Nat) : Int)] = some (.int ((upTo (anyR ps) z : Nat) : Int)) := cr
  have ad := add_nn (upTo (anyR ps) z) x13
  have le12 : opLe (.int ((upTo (anyR ps) z + x13 : Nat) : Int)) (.int 1000000000000) = some (.bl (decide (upTo (anyR ps) z + x13 ≤ 1000000000000))) := p_leN _ 1000000000000
  obtain ⟨t, rt, _, ra⟩ := ring_at_m hp (idx := x13) (by omega)
  have rt2 : RingAt ps (upTo (anyR ps) z + x13) (z + t) := by
    obtain ⟨r1, r2⟩ := rt
    have w1 := upTo_win per t
    have w2 := upTo_win per (t + 1)
    rw [Nat.add_comm] at w1
    rw [show t + 1 + z = z + t + 1 by omega] at w2
    exact ⟨by omega, by omega⟩
  have adz := add_nn z t
  have nz := neN_refl (z + t)
  by_cases y1 : z ≤ 10000000000
  · rw [decide_eq_true y1] at lez
    by_cases y2 : upTo (anyR ps) z + x13 ≤ 1000000000000
    · rw [decide_eq_true y2] at le12
      obtain ⟨t2, rtt, _, ra2⟩ := ring_at_m hp (idx := upTo (anyR ps) z + x13) (by omega)
      have et := rtt.uniq rt2
      subst et
      refine ⟨st (st ρ3 8 (.int (z : Nat))) 9 (.int ((upTo (anyR ps) z : Nat) : Int)), ?_, ((((ag1.trans ag2).trans (ag3.mono (by decide))).st (by decide)).st (by decide))⟩
      simp only [m_k27_b2, bnd_some, bnd_none, p_dc, p_dv, lk_z, lk_s, st_z, st_s, un_z, un_s, wipe_n, wipe_c, p_d2, p_d1, p_dnil, p_dcons, p_dL, p_asB, p_asI, p_asL, p_asSeqL, p_asSeqT, p_bV, p_dB, p_bAnd, p_bOr, p_bNot, p_dIf, p_dAnd, p_dOr, p_dNot, p_dCh, p_bYes, p_gN, p_gT, p_gsNil, p_gsCons, p_dNx, p_dRet, p_dSet, p_dIfS, p_dAsg, p_dPar, p_dAug, p_dApp, p_dSetIx, p_nLst, p_nRep, p_nOf, p_dSetN, p_dParN1, p_dParNN, p_iSeq, p_iRng1, p_iRng2, p_oNo, p_oIx, p_dSl, p_asIx, p_opTup, p_opLst, p_lenT, p_lenL, p_lenS, p_tupT, p_tupL, p_add, p_sub, p_mul, p_lt, p_le, p_gt, p_ge, p_eqI, p_neI, p_isN, p_isnN, p_isB, p_isnB, p_isNone_n, p_isNone_i, p_isNone_t, p_isNone_l, p_appL, p_appT, b_mc, b_mn, b_ac, b_an, b_rs, b_rz, b_lc, b_ln, b_it, b_if, b_itt, b_iff, p_dSeq, p_eqB, p_neB, len_eT, len_eR, len_eV, isNone_eO, seq_eT, seq_eR, seq_eV, seq_eL, eO_some, eO_none, len_eL, p_dOrT, ↓p_eqN, ↓p_neN, ↓p_ltN, ↓p_leN, ↓p_gtN, ↓p_geN, lk_st_o, lk_st_i, lk_un_o, len_st, len_un, Nat.reduceBEq, Nat.reduceLT, hl, h0, h1, hds, lb, tw, hρ, c1, hρ2, c2, e5, s12, ↓n2, Bool.not_true, f3, f4, f2, l3, tg, p27_10, ↓lez, ↓zs, cr, d13, ↓ad, p27_12, ↓le12, ra2, ra, ↓adz, ↓nz, if_true, Bool.false_eq_true, if_false]
    · rw [decide_eq_false y2] at le12
      refine ⟨st (st ρ3 8 (.int (z : Nat))) 9 (.int ((upTo (anyR ps) z : Nat) : Int)), ?_, ((((ag1.trans ag2).trans (ag3.mono (by decide))).st (by decide)).st (by decide))⟩
      simp only [m_k27_b2, bnd_some, bnd_none, p_dc, p_dv, lk_z, lk_s, st_z, st_s, un_z, un_s, wipe_n, wipe_c, p_d2, p_d1, p_dnil, p_dcons, p_dL, p_asB, p_asI, p_asL, p_asSeqL, p_asSeqT, p_bV, p_dB, p_bAnd, p_bOr, p_bNot, p_dIf, p_dAnd, p_dOr, p_dNot, p_dCh, p_bYes, p_gN, p_gT, p_gsNil, p_gsCons, p_dNx, p_dRet, p_dSet, p_dIfS, p_dAsg, p_dPar, p_dAug, p_dApp, p_dSetIx, p_nLst, p_nRep, p_nOf, p_dSetN, p_dParN1, p_dParNN, p_iSeq, p_iRng1, p_iRng2, p_oNo, p_oIx, p_dSl, p_asIx, p_opTup, p_opLst, p_lenT, p_lenL, p_lenS, p_tupT, p_tupL, p_add, p_sub, p_mul, p_lt, p_le, p_gt, p_ge, p_eqI, p_neI, p_isN, p_isnN, p_isB, p_isnB, p_isNone_n, p_isNone_i, p_isNone_t, p_isNone_l, p_appL, p_appT, b_mc, b_mn, b_ac, b_an, b_rs, b_rz, b_lc, b_ln, b_it, b_if, b_itt, b_iff, p_dSeq, p_eqB, p_neB, len_eT, len_eR, len_eV, isNone_eO, seq_eT, seq_eR, seq_eV, seq_eL, eO_some, eO_none, len_eL, p_dOrT, ↓p_eqN, ↓p_neN, ↓p_ltN, ↓p_leN, ↓p_gtN, ↓p_geN, lk_st_o, lk_st_i, lk_un_o, len_st, len_un, Nat.reduceBEq, Nat.reduceLT, hl, h0, h1, hds, lb, tw, hρ, c1, hρ2, c2, e5, s12, ↓n2, Bool.not_true, f3, f4, f2, l3, tg, p27_10, ↓lez, ↓zs, cr, d13, ↓ad, p27_12, ↓le12, if_true, Bool.false_eq_true, if_false]
  · rw [decide_eq_false y1] at lez
    refine ⟨st ρ3 8 (.int (z : Nat)), ?_, (((ag1.trans ag2).trans (ag3.mono (by decide))).st (by decide))⟩
    simp only [m_k27_b2, bnd_some, bnd_none, p_dc, p_dv, lk_z, lk_s, st_z, st_s, un_z, un_s, wipe_n, wipe_c, p_d2, p_d1, p_dnil, p_dcons, p_dL, p_asB, p_asI, p_asL, p_asSeqL, p_asSeqT, p_bV, p_dB, p_bAnd, p_bOr, p_bNot, p_dIf, p_dAnd, p_dOr, p_dNot, p_dCh, p_bYes, p_gN, p_gT, p_gsNil, p_gsCons, p_dNx, p_dRet, p_dSet, p_dIfS, p_dAsg, p_dPar, p_dAug, p_dApp, p_dSetIx, p_nLst, p_nRep, p_nOf, p_dSetN, p_dParN1, p_dParNN, p_iSeq, p_iRng1, p_iRng2, p_oNo, p_oIx, p_dSl, p_asIx, p_opTup, p_opLst, p_lenT, p_lenL, p_lenS, p_tupT, p_tupL, p_add, p_sub, p_mul, p_lt, p_le, p_gt, p_ge, p_eqI, p_neI, p_isN, p_isnN, p_isB, p_isnB, p_isNone_n, p_isNone_i, p_isNone_t, p_isNone_l, p_appL, p_appT, b_mc, b_mn, b_ac, b_an, b_rs, b_rz, b_lc, b_ln, b_it, b_if, b_itt, b_iff, p_dSeq, p_eqB, p_neB, len_eT, len_eR, len_eV, isNone_eO, seq_eT, seq_eR, seq_eV, seq_eL, eO_some, eO_none, len_eL, p_dOrT, ↓p_eqN, ↓p_neN, ↓p_ltN, ↓p_leN, ↓p_gtN, ↓p_geN, lk_st_o, lk_st_i, lk_un_o, len_st, len_un, Nat.reduceBEq, Nat.reduceLT, hl, h0, h1, hds, lb, tw, hρ, c1, hρ2, c2, e5, s12, ↓n2, Bool.not_true, f3, f4, f2, l3, tg, p27_10, ↓lez, if_true, Bool.false_eq_true, if_false]
theorem k27_g : ∀ k, k < 6 → sameO (m_ring_at [.bell [4, 6], .int (k : Nat)]) (.int (([0, 4, 6, 8, 12, 16] : List Nat).getD k 0 : Nat)) = true := by decide +kernel
theorem k27_g2 : m_ring_at [.bell [7], .int 1000000000000] = some (.int 7000000000000) := sameO_eq (by decide +kernel)
theorem plain_k27 (ns : List Int) (h : ns.length ≤ 63) : m_k27 [.scr ns] = some (.bl true) := by
  obtain ⟨ρ', q1, ag⟩ := for_ag (b := m_k27_b2) (i := 1) (n := 8) (ws := [1, 2, 3, 4, 5, 6, 7, 8, 9]) (ρ := some (.scr ns) :: List.replicate 9 none) (fun i : Nat => D.int i) (by decide) (by simp) (by
    intro k hk ρ' ag e
    obtain ⟨ρ'', q, ag'⟩ := k27_b2 h hk (by rw [ag.1]; rfl) (ag.lk 0 (by decide) rfl) e
    exact ⟨ρ'', q, ag.trans ag'⟩)
  have r8 : opRng1 [.int 8] = some ((List.range 8).map fun i : Nat => D.int i) := rng1 (n := 8) (by decide)
  have r6 : opRng1 [.int 6] = some ((List.range 6).map fun i : Nat => D.int i) := rng1 (n := 6) (by decide)
  have f := (for_eq (it := iRng1 (dcons (dc (.int 8)) dnil)) (ρ := some (.scr ns) :: List.replicate 9 none) (by simp only [bnd_some, bnd_none, p_dc, p_dv, lk_z, lk_s, st_z, st_s, un_z, un_s, wipe_n, wipe_c, p_d2, p_d1, p_dnil, p_dcons, p_dL, p_asB, p_asI, p_asL, p_asSeqL, p_asSeqT, p_bV, p_dB, p_bAnd, p_bOr, p_bNot, p_dIf, p_dAnd, p_dOr, p_dNot, p_dCh, p_bYes, p_gN, p_gT, p_gsNil, p_gsCons, p_dNx, p_dRet, p_dSet, p_dIfS, p_dAsg, p_dPar, p_dAug, p_dApp, p_dSetIx, p_nLst, p_nRep, p_nOf, p_dSetN, p_dParN1, p_dParNN, p_iSeq, p_iRng1, p_iRng2, p_oNo, p_oIx, p_dSl, p_asIx, p_opTup, p_opLst, p_lenT, p_lenL, p_lenS, p_tupT, p_tupL, p_add, p_sub, p_mul, p_lt, p_le, p_gt, p_ge, p_eqI, p_neI, p_isN, p_isnN, p_isB, p_isnB, p_isNone_n, p_isNone_i, p_isNone_t, p_isNone_l, p_appL, p_appT, b_mc, b_mn, b_ac, b_an, b_rs, b_rz, b_lc, b_ln, b_it, b_if, b_itt, b_iff, p_dSeq, p_eqB, p_neB, len_eT, len_eR, len_eV, isNone_eO, seq_eT, seq_eR, seq_eV, seq_eL, eO_some, eO_none, len_eL, p_dOrT, ↓p_eqN, ↓p_neN, ↓p_ltN, ↓p_leN, ↓p_gtN, ↓p_geN, r8])).trans q1
  have hl : ρ'.length = 10 := by rw [ag.1]; rfl
  refine run_rt rfl ?_
  have f : dFor (iRng1 (dcons (dc (.int 8)) dnil)) (gN 1) m_k27_b2 ([D.scr ns].map some ++ List.replicate (10 - 1) none) = some (.nx ρ') := f
  have b : opBells [.int 4, .int 6] = some (.bell [4, 6]) := rfl
  have b7 : opBells [.int 7] = some (.bell [7]) := rfl
  have c3 : m_k27_c3 ρ' = some (.lst [.int 0, .int 4, .int 6, .int 8, .int 12, .int 16]) := by
    unfold m_k27_c3
    rw [comp_all (fun x : Nat => D.int x) (fun x => D.int (([0, 4, 6, 8, 12, 16] : List Nat).getD x 0 : Nat)) (List.range 6) (by simp only [bnd_some, bnd_none, p_dc, p_dv, lk_z, lk_s, st_z, st_s, un_z, un_s, wipe_n, wipe_c, p_d2, p_d1, p_dnil, p_dcons, p_dL, p_asB, p_asI, p_asL, p_asSeqL, p_asSeqT, p_bV, p_dB, p_bAnd, p_bOr, p_bNot, p_dIf, p_dAnd, p_dOr, p_dNot, p_dCh, p_bYes, p_gN, p_gT, p_gsNil, p_gsCons, p_dNx, p_dRet, p_dSet, p_dIfS, p_dAsg, p_dPar, p_dAug, p_dApp, p_dSetIx, p_nLst, p_nRep, p_nOf, p_dSetN, p_dParN1, p_dParNN, p_iSeq, p_iRng1, p_iRng2, p_oNo, p_oIx, p_dSl, p_asIx, p_opTup, p_opLst, p_lenT, p_lenL, p_lenS, p_tupT, p_tupL, p_add, p_sub, p_mul, p_lt, p_le, p_gt, p_ge, p_eqI, p_neI, p_isN, p_isnN, p_isB, p_isnB, p_isNone_n, p_isNone_i, p_isNone_t, p_isNone_l, p_appL, p_appT, b_mc, b_mn, b_ac, b_an, b_rs, b_rz, b_lc, b_ln, b_it, b_if, b_itt, b_iff, p_dSeq, p_eqB, p_neB, len_eT, len_eR, len_eV, isNone_eO, seq_eT, seq_eR, seq_eV, seq_eL, eO_some, eO_none, len_eL, p_dOrT, ↓p_eqN, ↓p_neN, ↓p_ltN, ↓p_leN, ↓p_gtN, ↓p_geN, r6]) (by decide) (by
      intro x hx
      have g := sameO_eq (k27_g x (List.mem_range.mp hx))
      refine ⟨_, rfl, ?_⟩
      simp only [bnd_some, bnd_none, p_dc, p_dv, lk_z, lk_s, st_z, st_s, un_z, un_s, wipe_n, wipe_c, p_d2, p_d1, p_dnil, p_dcons, p_dL, p_asB, p_asI, p_asL, p_asSeqL, p_asSeqT, p_bV, p_dB, p_bAnd, p_bOr, p_bNot, p_dIf, p_dAnd, p_dOr, p_dNot, p_dCh, p_bYes, p_gN, p_gT, p_gsNil, p_gsCons, p_dNx, p_dRet, p_dSet, p_dIfS, p_dAsg, p_dPar, p_dAug, p_dApp, p_dSetIx, p_nLst, p_nRep, p_nOf, p_dSetN, p_dParN1, p_dParNN, p_iSeq, p_iRng1, p_iRng2, p_oNo, p_oIx, p_dSl, p_asIx, p_opTup, p_opLst, p_lenT, p_lenL, p_lenS, p_tupT, p_tupL, p_add, p_sub, p_mul, p_lt, p_le, p_gt, p_ge, p_eqI, p_neI, p_isN, p_isnN, p_isB, p_isnB, p_isNone_n, p_isNone_i, p_isNone_t, p_isNone_l, p_appL, p_appT, b_mc, b_mn, b_ac, b_an, b_rs, b_rz, b_lc, b_ln, b_it, b_if, b_itt, b_iff, p_dSeq, p_eqB, p_neB, len_eT, len_eR, len_eV, isNone_eO, seq_eT, seq_eR, seq_eV, seq_eL, eO_some, eO_none, len_eL, p_dOrT, ↓p_eqN, ↓p_neN, ↓p_ltN, ↓p_leN, ↓p_gtN, ↓p_geN, lk_st_o, lk_st_i, lk_un_o, len_st, len_un, Nat.reduceBEq, Nat.reduceLT, hl, b, g])]
    rfl
  have e1 : opNe (.lst [.int 0, .int 4, .int 6, .int 8, .int 12, .int 16]) (.lst [.int 0, .int 4, .int 6, .int 8, .int 12, .int 16]) = some (.bl false) := sameO_eq (by decide +kernel)
  have m7 : opMul (.int 7) (.int 1000000000000) = some (.int 7000000000000) := sameO_eq (by decide +kernel)
  have e2 : opEq (.int 7000000000000) (.int 7000000000000) = some (.bl true) := sameO_eq (by decide +kernel)
  rw [p_dSeq, f]
  simp only [bnd_some, bnd_none, p_dc, p_dv, lk_z, lk_s, st_z, st_s, un_z, un_s, wipe_n, wipe_c, p_d2, p_d1, p_dnil, p_dcons, p_dL, p_asB, p_asI, p_asL, p_asSeqL, p_asSeqT, p_bV, p_dB, p_bAnd, p_bOr, p_bNot, p_dIf, p_dAnd, p_dOr, p_dNot, p_dCh, p_bYes, p_gN, p_gT, p_gsNil, p_gsCons, p_dNx, p_dRet, p_dSet, p_dIfS, p_dAsg, p_dPar, p_dAug, p_dApp, p_dSetIx, p_nLst, p_nRep, p_nOf, p_dSetN, p_dParN1, p_dParNN, p_iSeq, p_iRng1, p_iRng2, p_oNo, p_oIx, p_dSl, p_asIx, p_opTup, p_opLst, p_lenT, p_lenL, p_lenS, p_tupT, p_tupL, p_add, p_sub, p_mul, p_lt, p_le, p_gt, p_ge, p_eqI, p_neI, p_isN, p_isnN, p_isB, p_isnB, p_isNone_n, p_isNone_i, p_isNone_t, p_isNone_l, p_appL, p_appT, b_mc, b_mn, b_ac, b_an, b_rs, b_rz, b_lc, b_ln, b_it, b_if, b_itt, b_iff, p_dSeq, p_eqB, p_neB, len_eT, len_eR, len_eV, isNone_eO, seq_eT, seq_eR, seq_eV, seq_eL, eO_some, eO_none, len_eL, p_dOrT, ↓p_eqN, ↓p_neN, ↓p_ltN, ↓p_leN, ↓p_gtN, ↓p_geN, Nat.reduceAdd, Nat.reduceLeDiff, c3, e1, b7, p27_12, k27_g2, m7, e2]
end Mi
namespace My
open PySem PySem.Spec PyProof.Rows L2 DL Mi
def topS (i : Nat) : Stmt := PySem.Challenge.pw_meetperiods_k27_whole_rings_by_their_ind.main.body.getD i (.Pass ⟨0, 0, 0, 0⟩)
abbrev s_is_integer : Stmt := topS 1
abbrev N_is_integer : List Str := ["value", "low", "high"]
theorem sc_is_integer : FnScope N_is_integer ["value", "low", "high"] (defScope s_is_integer) := ⟨rfl, rfl, rfl, by decide +kernel, rfl, by decide +kernel, by decide +kernel⟩
abbrev s_gcd : Stmt := topS 2
abbrev N_gcd : List Str := ["one", "other"]
theorem sc_gcd : FnScope N_gcd ["one", "other"] (defScope s_gcd) := ⟨rfl, rfl, rfl, by decide +kernel, rfl, by decide +kernel, by decide +kernel⟩
abbrev s_lcm : Stmt := topS 3
abbrev N_lcm : List Str := ["one", "other"]
theorem sc_lcm : FnScope N_lcm ["one", "other"] (defScope s_lcm) := ⟨rfl, rfl, rfl, by decide +kernel, rfl, by decide +kernel, by decide +kernel⟩
abbrev s_meetings : Stmt := topS 5
abbrev N_meetings : List Str := ["bells", "found", "period", "many", "length"]
theorem sc_meetings : FnScope N_meetings ["bells"] (defScope s_meetings) := ⟨rfl, rfl, rfl, by decide +kernel, rfl, by decide +kernel, by decide +kernel⟩
abbrev s_rung_to : Stmt := topS 6
abbrev N_rung_to : List Str := ["sets", "time", "found", "many", "length"]
theorem sc_rung_to : FnScope N_rung_to ["sets", "time"] (defScope s_rung_to) := ⟨rfl, rfl, rfl, by decide +kernel, rfl, by decide +kernel, by decide +kernel⟩
abbrev s_count_rings : Stmt := topS 7
abbrev N_count_rings : List Str := ["bells", "low", "high", "sets"]
theorem sc_count_rings : FnScope N_count_rings ["bells", "low", "high"] (defScope s_count_rings) := ⟨rfl, rfl, rfl, by decide +kernel, rfl, by decide +kernel, by decide +kernel⟩
abbrev s_ring_at : Stmt := topS 8
abbrev N_ring_at : List Str := ["bells", "index", "sets", "low", "high", "middle"]
theorem sc_ring_at : FnScope N_ring_at ["bells", "index"] (defScope s_ring_at) := ⟨rfl, rfl, rfl, by decide +kernel, rfl, by decide +kernel, by decide +kernel⟩
abbrev s__law_cell : Stmt := topS 17
abbrev N__law_cell : List Str := ["script", "index"]
theorem sc__law_cell : FnScope N__law_cell ["script", "index"] (defScope s__law_cell) := ⟨rfl, rfl, rfl, by decide +kernel, rfl, by decide +kernel, by decide +kernel⟩
abbrev s__law_digits : Stmt := topS 18
abbrev N__law_digits : List Str := ["script", "index", "count", "base", "primes", "cell", "rest", "digits", "k", "mixed"]
theorem sc__law_digits : FnScope N__law_digits ["script", "index", "count", "base"] (defScope s__law_digits) := ⟨rfl, rfl, rfl, by decide +kernel, rfl, by decide +kernel, by decide +kernel⟩
abbrev s__law_bells : Stmt := topS 19
abbrev N__law_bells : List Str := ["digits", "most", "found", "k"]
theorem sc__law_bells : FnScope N__law_bells ["digits", "most"] (defScope s__law_bells) := ⟨rfl, rfl, rfl, by decide +kernel, rfl, by decide +kernel, by decide +kernel⟩
abbrev s__law_tower : Stmt := topS 20
abbrev N__law_tower : List Str := ["periods"]
theorem sc__law_tower : FnScope N__law_tower ["periods"] (defScope s__law_tower) := ⟨rfl, rfl, rfl, by decide +kernel, rfl, by decide +kernel, by decide +kernel⟩
abbrev s__law_ringing : Stmt := topS 21
abbrev N__law_ringing : List Str := ["periods", "time", "at", "period"]
theorem sc__law_ringing : FnScope N__law_ringing ["periods", "time"] (defScope s__law_ringing) := ⟨rfl, rfl, rfl, by decide +kernel, rfl, by decide +kernel, by decide +kernel⟩
abbrev s_law : Stmt := topS 22
abbrev N_law : List Str := ["script", "index", "digits", "periods", "bells", "times", "at", "time", "size", "many"]
theorem sc_law : FnScope N_law ["script"] (defScope s_law) := ⟨rfl, rfl, rfl, by decide +kernel, rfl, by decide +kernel, by decide +kernel⟩
def clsS (st : Stmt) (j : Nat) : Stmt := match st with
  | .ClassDef _ _ _ body .. => body.getD j (.Pass ⟨0, 0, 0, 0⟩)
  | s => s
abbrev sB___init__ : Stmt := clsS (topS 15) 1
abbrev NB___init__ : List Str := ["self", "periods", "period"]
theorem scB___init__ : FnScope NB___init__ ["self", "periods"] (defScope sB___init__) := ⟨rfl, rfl, rfl, by decide +kernel, rfl, by decide +kernel, by decide +kernel⟩
abbrev sB_periods : Stmt := clsS (topS 15) 2
abbrev NB_periods : List Str := ["self"]
theorem scB_periods : FnScope NB_periods ["self"] (defScope sB_periods) := ⟨rfl, rfl, rfl, by decide +kernel, rfl, by decide +kernel, by decide +kernel⟩
abbrev sBrings : Stmt := clsS (topS 15) 5
abbrev s_Brings : Stmt := sBrings
abbrev N_Brings : List Str := ["self", "start", "count", "time", "turn", "period"]
theorem sc_Brings : GScope N_Brings ["self", "start", "count"] (defScope sBrings) := ⟨rfl, rfl, rfl, by decide +kernel, rfl, by decide +kernel, by decide +kernel⟩
abbrev sBtogether : Stmt := clsS (topS 15) 3
abbrev N_Btogether : List Str := ["self", "found", "period"]
theorem sc_Btogether : FnScope N_Btogether ["self"] (defScope sBtogether) := ⟨rfl, rfl, rfl, by decide +kernel, rfl, by decide +kernel, by decide +kernel⟩
structure Bi (mg : Str → Option Value) : Prop where
  all_ : mg "all" = none
  bool_ : mg "bool" = none
  enumerate_ : mg "enumerate" = none
  int_ : mg "int" = none
  isinstance_ : mg "isinstance" = none
  len_ : mg "len" = none
  list_ : mg "list" = none
  max_ : mg "max" = none
  min_ : mg "min" = none
  range_ : mg "range" = none
  tuple_ : mg "tuple" = none
section
variable {P : Program} {w : World} {K : PySem.W.Frag} {mg : Str → Option Value} {base : Heap} {C : Addr}
theorem ok_is_integer {f : Addr} {fd : FuncData} (F : Fun K "is_integer" "is_integer" s_is_integer f fd) (B : Bi mg) : FnOk P w K mg base CX0 1 f fd ["value", "low", "high"] (spD K C m_is_integer) :=
  have nd := sc_is_integer.nd
  fnD (k := 0) F sc_is_integer (by decide) fun cdv A outer s H E hr =>
    (dss_one (ds_ret (de_and (de_isi (T := "int") (by simp) (de_var 0) (by rfl) B.isinstance_ (by rfl) B.int_ bt_int) (de_and (de_not (de_isi (T := "bool") (by simp) (de_var 0) (by rfl) B.isinstance_ (by rfl) B.bool_ bt_bool)) (de_one (de_chain od_le od_le (de_var 1) (de_var 0) (de_var 2)))))))
theorem ok_gcd {f : Addr} {fd : FuncData} (F : Fun K "gcd" "gcd" s_gcd f fd) (B : Bi mg) : FnOk P w K mg base CX0 1 f fd ["one", "other"] (spD K C m_gcd) :=
  have nd := sc_gcd.nd
  fnD (k := 0) F sc_gcd (by decide) fun cdv A outer s H E hr =>
    (dss_cons (ds_while PassesOwn.never (dt_cmp (od_gt hr.units0) (de_var 1) de_int) (dss_one (ds_par 0 1 rfl nd (de_var 1) (de_op od_mod (de_var 0) (de_var 1)))))
      (dss_one (ds_ret (de_var 0))))
theorem ok_lcm {f : Addr} {fd : FuncData} (F : Fun K "lcm" "lcm" s_lcm f fd) (B : Bi mg) (c_gcd : Cal P w K mg base C 1 "gcd" ["one", "other"] m_gcd) : FnOk P w K mg base CX0 2 f fd ["one", "other"] (spD K C m_lcm) :=
  have nd := sc_lcm.nd
  fnD (k := 1) F sc_lcm (by decide) fun cdv A outer s H E hr =>
    (dss_one (ds_ret (de_op od_mul (de_op od_fdiv (de_var 0) (de_call c_gcd hr (by rfl) (da_cons (de_var 0) (da_cons (de_var 1) da_nil)))) (de_var 1))))
theorem ok_meetings {f : Addr} {fd : FuncData} (F : Fun K "meetings" "meetings" s_meetings f fd) (B : Bi mg) (BC : BeC P w K mg base C) (c_lcm : Cal P w K mg base C 2 "lcm" ["one", "other"] m_lcm) : FnOk P w K mg base CX0 3 f fd ["bells"] (spD K C m_meetings) :=
  have nd := sc_meetings.nd
  fnD (k := 2) F sc_meetings (by decide) fun cdv A outer s H E hr =>
    (dss_cons (ds_set 1 nd (de_lst (da_cons (de_tup (da_cons de_int (da_cons de_int da_nil))) da_nil)))
      (dss_cons (ds_for PassesOwn.never rfl (di_seq (de_periods BC hr (de_var 0))) (dg_name 2 nd) (dss_one (ds_set 1 nd (de_op od_add (de_var 1) (de_comp (own := [("many", 3), ("length", 4)]) rfl nd (di_seq (de_var 1)) (blkOk_by (N := N_meetings) (sc := defScope s_meetings) (by decide +kernel)) (fun _ _ _ _ _ => (dg_tup rfl (dg_cons (dg_name 3 nd) (dg_cons (dg_name 4 nd) dg_nil)) (gl1 (gl1 gl0)))) (fun _ _ _ _ _ => dts_nil) (fun _ _ _ _ _ => (de_tup (da_cons (de_op od_add (de_var 3) de_int) (da_cons (de_call c_lcm hr (by rfl) (da_cons (de_var 4) (da_cons (de_var 2) da_nil))) da_nil)))))))))
      (dss_one (ds_ret (de_var 1)))))
theorem ok_rung_to {f : Addr} {fd : FuncData} (F : Fun K "rung_to" "rung_to" s_rung_to f fd) (B : Bi mg) : FnOk P w K mg base CX0 1 f fd ["sets", "time"] (spD K C m_rung_to) :=
  have nd := sc_rung_to.nd
  fnD (k := 0) F sc_rung_to (by decide) fun cdv A outer s H E hr =>
    (dss_cons (ds_set 2 nd de_int)
      (dss_cons (ds_for PassesOwn.never rfl (di_seq (de_var 0)) (dg_tup rfl (dg_cons (dg_name 3 nd) (dg_cons (dg_name 4 nd) dg_nil)) (gl1 (gl1 gl0))) (dss_one (ds_if (dt_cmp (od_gt hr.units0) (de_var 3) de_int) (dss_one (ds_set 2 nd (de_op od_add (de_var 2) (de_op od_mul (de_op od_add (de_op od_fdiv (de_var 1) (de_var 4)) de_int) (de_if (dt_cmp (od_eq hr.units) (de_op od_mod (de_var 3) de_int) de_int) de_int (de_neg de_int)))))) dss_nil)))
      (dss_one (ds_ret (de_var 2)))))
theorem ok_count_rings {f : Addr} {fd : FuncData} (F : Fun K "count_rings" "count_rings" s_count_rings f fd) (B : Bi mg) (c_meetings : Cal P w K mg base C 3 "meetings" ["bells"] m_meetings) (c_rung_to : Cal P w K mg base C 1 "rung_to" ["sets", "time"] m_rung_to) : FnOk P w K mg base CX0 4 f fd ["bells", "low", "high"] (spD K C m_count_rings) :=
  have nd := sc_count_rings.nd
  fnD (k := 3) F sc_count_rings (by decide) fun cdv A outer s H E hr =>
    (dss_cons (ds_set 3 nd (de_call c_meetings hr (by rfl) (da_cons (de_var 0) da_nil)))
      (dss_one (ds_ret (de_if (dt_cmp od_le (de_var 1) (de_var 2)) (de_callB (cd_max rfl) (by rfl) B.max_ bt_max (da_cons de_int (da_cons (de_op od_sub (de_call c_rung_to hr (by rfl) (da_cons (de_var 3) (da_cons (de_var 2) da_nil))) (de_call c_rung_to hr (by rfl) (da_cons (de_var 3) (da_cons (de_op od_sub (de_var 1) de_int) da_nil)))) da_nil))) de_int))))
theorem ok_ring_at {f : Addr} {fd : FuncData} (F : Fun K "ring_at" "ring_at" s_ring_at f fd) (B : Bi mg) (BC : BeC P w K mg base C) (c_meetings : Cal P w K mg base C 3 "meetings" ["bells"] m_meetings) (c_rung_to : Cal P w K mg base C 1 "rung_to" ["sets", "time"] m_rung_to) : FnOk P w K mg base CX0 4 f fd ["bells", "index"] (spD K C m_ring_at) :=
  have nd := sc_ring_at.nd
  fnD (k := 3) F sc_ring_at (by decide) fun cdv A outer s H E hr =>
    (dss_cons (ds_set 2 nd (de_call c_meetings hr (by rfl) (da_cons (de_var 0) da_nil)))
      (dss_cons (ds_par 3 4 rfl nd de_int (de_op od_mul (de_var 1) (de_callB (cd_minT rfl (hu65 hr)) (by rfl) B.min_ bt_min (da_cons (de_periods BC hr (de_var 0)) da_nil))))
      (dss_cons (ds_while PassesOwn.never (dt_cmp (od_lt hr.units0) (de_var 3) (de_var 4)) (dss_cons (ds_set 5 nd (de_op od_fdiv (de_op od_add (de_var 3) (de_var 4)) de_int))
      (dss_one (ds_if (dt_cmp (od_gt hr.units0) (de_call c_rung_to hr (by rfl) (da_cons (de_var 2) (da_cons (de_var 5) da_nil))) (de_var 1)) (dss_one (ds_set 4 nd (de_var 5))) (dss_one (ds_set 3 nd (de_op od_add (de_var 5) de_int)))))))
      (dss_one (ds_ret (de_var 3))))))
theorem ok__law_cell {f : Addr} {fd : FuncData} (F : Fun K "_law_cell" "_law_cell" s__law_cell f fd) (B : Bi mg) : FnOk P w K mg base CX0 1 f fd ["script", "index"] (spD K C m_law_cell) :=
  have nd := sc__law_cell.nd
  fnD (k := 0) F sc__law_cell (by decide) fun cdv A outer s H E hr =>
    (dss_cons (ds_if (dt_cmp (od_lt hr.units0) (de_var 1) (de_callB cd_len (by rfl) B.len_ bt_len (da_cons (de_var 0) da_nil))) (dss_one (ds_ret (de_ix ix_d (de_var 0) (de_var 1)))) dss_nil)
      (dss_cons (ds_if (dt_cmp (od_eq hr.units) (de_callB cd_len (by rfl) B.len_ bt_len (da_cons (de_var 0) da_nil)) de_int) (dss_one (ds_ret (de_op od_add (de_op od_mul de_int (de_var 1)) de_int))) dss_nil)
      (dss_one (ds_ret (de_op od_add (de_op od_mod (de_ix ix_d (de_var 0) (de_op od_mod (de_var 1) (de_callB cd_len (by rfl) B.len_ bt_len (da_cons (de_var 0) da_nil)))) de_int) (de_op od_mul de_int (de_var 1)))))))
theorem ok__law_digits {f : Addr} {fd : FuncData} (F : Fun K "_law_digits" "_law_digits" s__law_digits f fd) (B : Bi mg) (c__law_cell : Cal P w K mg base C 1 "_law_cell" ["script", "index"] m_law_cell) : FnOk P w K mg base CX0 2 f fd ["script", "index", "count", "base"] (spD K C m_law_digits) :=
  have nd := sc__law_digits.nd
  fnD (k := 1) F sc__law_digits (by decide) fun cdv A outer s H E hr =>
    (dss_cons (ds_set 4 nd (de_tup (da_cons de_int (da_cons de_int (da_cons de_int (da_cons de_int (da_cons de_int (da_cons de_int (da_cons de_int (da_cons de_int da_nil))))))))))
      (dss_cons (ds_set 5 nd (de_call c__law_cell hr (by rfl) (da_cons (de_var 0) (da_cons (de_var 1) da_nil))))
      (dss_cons (ds_set 6 nd (de_if (dt_cmp od_ge (de_var 5) (de_op od_pow de_int de_int)) (de_var 5) de_int))
      (dss_cons (ds_setN 7 nd (dn_lst da_nil))
      (dss_cons (ds_for PassesOwn.never rfl (di_rng1 (by rfl) B.range_ (da_cons (de_var 2) da_nil)) (dg_name 8 nd) (dss_cons (ds_set 9 nd (de_op od_mul (de_op od_mod (de_var 5) (de_ix ix_d (de_var 4) (de_op od_mod (de_var 8) de_int))) (de_op od_add de_int (de_op od_mul (de_op od_mul de_int (de_var 8)) (de_var 8)))))
      (dss_cons (ds_set 9 nd (de_op od_add (de_op od_add (de_var 9) (de_op od_mul (de_op od_mul de_int (de_op od_add (de_var 8) de_int)) (de_op od_add (de_var 8) de_int))) (de_op od_mul de_int (de_var 1))))
      (dss_cons (ds_set 9 nd (de_op od_mod (de_var 9) (de_ix ix_d (de_var 4) (de_op od_mod (de_op od_add (de_op od_mul de_int (de_var 8)) (de_var 1)) de_int))))
      (dss_cons (ds_set 9 nd (de_op od_mod (de_op od_mul (de_op od_mul (de_var 9) (de_var 9)) (de_var 9)) (de_ix ix_d (de_var 4) (de_op od_mod (de_op od_add (de_var 8) de_int) de_int))))
      (dss_cons (ds_if (dt_cmp (od_gt hr.units0) (de_var 6) de_int) (dss_one (ds_set 9 nd (de_var 6))) dss_nil)
      (dss_cons (ds_app 7 (de_op od_mod (de_var 9) (de_var 3)))
      (dss_one (ds_set 6 nd (de_op od_fdiv (de_var 6) (de_var 3)))))))))))
      (dss_one (ds_frz (O1 := []) 7 (ds_ret (de_var 7)))))))))
theorem ok__law_bells {f : Addr} {fd : FuncData} (F : Fun K "_law_bells" "_law_bells" s__law_bells f fd) (B : Bi mg) : FnOk P w K mg base CX0 1 f fd ["digits", "most"] (spD K C m_law_bells) :=
  have nd := sc__law_bells.nd
  fnD (k := 0) F sc__law_bells (by decide) fun cdv A outer s H E hr =>
    (dss_cons (ds_set 2 nd (de_tup da_nil))
      (dss_cons (ds_for PassesOwn.never rfl (di_rng1 (by rfl) B.range_ (da_cons (de_op od_add de_int (de_op od_mod (de_ix ix_d (de_var 0) de_int) de_int)) da_nil)) (dg_name 3 nd) (dss_one (ds_set 2 nd (de_op od_add (de_var 2) (de_tup (da_cons (de_op od_add de_int (de_op od_mod (de_ix ix_d (de_var 0) (de_op od_add de_int (de_var 3))) (de_ix ix_d (de_lst (da_cons de_int (da_cons de_int (da_cons (de_var 1) da_nil)))) (de_op od_mod (de_ix ix_d (de_var 0) de_int) de_int)))) da_nil))))))
      (dss_one (ds_ret (de_var 2)))))
theorem ok__law_tower {f : Addr} {fd : FuncData} (F : Fun K "_law_tower" "_law_tower" s__law_tower f fd) (B : Bi mg) (BC : BeC P w K mg base C) : FnOk P w K mg base CX0 6 f fd ["periods"] (spD K C m_law_tower) :=
  have nd := sc__law_tower.nd
  fnD (k := 5) F sc__law_tower (by decide) fun cdv A outer s H E hr =>
    (dss_cons (ds_if (dt_cmp (od_eq hr.units) (de_callB cd_len (by rfl) B.len_ bt_len (da_cons (de_var 0) da_nil)) de_int) (dss_one (ds_ret (de_bells BC hr (by rfl) (da_cons (de_ix ix_d (de_var 0) de_int) da_nil)))) dss_nil)
      (dss_cons (ds_if (dt_cmp (od_eq hr.units) (de_callB cd_len (by rfl) B.len_ bt_len (da_cons (de_var 0) da_nil)) de_int) (dss_one (ds_ret (de_bells BC hr (by rfl) (da_cons (de_ix ix_d (de_var 0) de_int) (da_cons (de_ix ix_d (de_var 0) de_int) da_nil))))) dss_nil)
      (dss_cons (ds_if (dt_cmp (od_eq hr.units) (de_callB cd_len (by rfl) B.len_ bt_len (da_cons (de_var 0) da_nil)) de_int) (dss_one (ds_ret (de_bells BC hr (by rfl) (da_cons (de_ix ix_d (de_var 0) de_int) (da_cons (de_ix ix_d (de_var 0) de_int) (da_cons (de_ix ix_d (de_var 0) de_int) da_nil)))))) dss_nil)
      (dss_cons (ds_if (dt_cmp (od_eq hr.units) (de_callB cd_len (by rfl) B.len_ bt_len (da_cons (de_var 0) da_nil)) de_int) (dss_one (ds_ret (de_bells BC hr (by rfl) (da_cons (de_ix ix_d (de_var 0) de_int) (da_cons (de_ix ix_d (de_var 0) de_int) (da_cons (de_ix ix_d (de_var 0) de_int) (da_cons (de_ix ix_d (de_var 0) de_int) da_nil))))))) dss_nil)
      (dss_one (ds_ret (de_bells BC hr (by rfl) (da_cons (de_ix ix_d (de_var 0) de_int) (da_cons (de_ix ix_d (de_var 0) de_int) (da_cons (de_ix ix_d (de_var 0) de_int) (da_cons (de_ix ix_d (de_var 0) de_int) (da_cons (de_ix ix_d (de_var 0) de_int) da_nil))))))))))))
theorem ok__law_ringing {f : Addr} {fd : FuncData} (F : Fun K "_law_ringing" "_law_ringing" s__law_ringing f fd) (B : Bi mg) : FnOk P w K mg base CX0 1 f fd ["periods", "time"] (spD K C m_law_ringing) :=
  have nd := sc__law_ringing.nd
  fnD (k := 0) F sc__law_ringing (by decide) fun cdv A outer s H E hr =>
    (dss_one (ds_ret (de_callTy cd_tuple (by rfl) B.tuple_ bt_tuple (da_cons (de_comp (own := [("at", 2), ("period", 3)]) rfl nd (di_enum (by rfl) B.enumerate_ (da_cons (de_var 0) da_nil)) (blkOk_by (N := N__law_ringing) (sc := defScope s__law_ringing) (by decide +kernel)) (fun _ _ _ _ _ => (dg_tup rfl (dg_cons (dg_name 2 nd) (dg_cons (dg_name 3 nd) dg_nil)) (gl1 (gl1 gl0)))) (fun _ _ _ _ _ => (dts_one (dt_cmp (od_eq hr.units) (de_op od_mod (de_callTy cd_int (by rfl) B.int_ bt_int (da_cons (de_var 1) da_nil)) (de_var 3)) de_int))) (fun _ _ _ _ _ => (de_var 2))) da_nil))))
theorem ok_law {f : Addr} {fd : FuncData} (F : Fun K "law" "law" s_law f fd) (B : Bi mg) (BC : BeC P w K mg base C) (M_rings : MethG P w K mg base C 2 "rings" ["self", "start", "count"] m_B_rings) (M_together : MethD P w K mg base C 3 "together" ["self"] m_B_together) (c__law_bells : Cal P w K mg base C 1 "_law_bells" ["digits", "most"] m_law_bells) (c__law_digits : Cal P w K mg base C 2 "_law_digits" ["script", "index", "count", "base"] m_law_digits) (c__law_ringing : Cal P w K mg base C 1 "_law_ringing" ["periods", "time"] m_law_ringing) (c__law_tower : Cal P w K mg base C 6 "_law_tower" ["periods"] m_law_tower) (c_count_rings : Cal P w K mg base C 4 "count_rings" ["bells", "low", "high"] m_count_rings) (c_ring_at : Cal P w K mg base C 4 "ring_at" ["bells", "index"] m_ring_at) : FnOk P w K mg base CX0 7 f fd ["script"] (spD K C m_k27) :=
  have nd := sc_law.nd
  fnD (k := 6) F sc_law (by decide) fun cdv A outer s H E hr =>
    (dss_cons (ds_for PassesOwn.never rfl (di_rng1 (by rfl) B.range_ (da_cons de_int da_nil)) (dg_name 1 nd) (dss_cons (ds_set 2 nd (de_call c__law_digits hr (by rfl) (da_cons (de_var 0) (da_cons (de_var 1) (da_cons de_int (da_cons de_int da_nil))))))
      (dss_cons (ds_set 3 nd (de_call c__law_bells hr (by rfl) (da_cons (de_var 2) (da_cons de_int da_nil))))
      (dss_cons (ds_set 4 nd (de_call c__law_tower hr (by rfl) (da_cons (de_var 3) da_nil)))
      (dss_cons (ds_setLc 5 (own := [("time", 7)]) rfl nd (di_rng1 (by rfl) B.range_ (da_cons de_int da_nil)) (blkOk_by (N := N_law) (sc := defScope s_law) (by decide +kernel)) (fun _ _ _ _ _ => (dg_name 7 nd)) (fun _ _ _ _ _ => (dts_one (dt_cmp (od_ne hr.units) (de_call c__law_ringing hr (by rfl) (da_cons (de_var 3) (da_cons (de_var 7) da_nil))) (de_tup da_nil)))) (fun _ _ _ _ _ => (de_var 7)))
      (dss_cons (ds_if (dt_cmp (od_ne hr.units) (de_comp (own := [("at", 6)]) rfl nd (di_rng1 (by rfl) B.range_ (da_cons (de_callB (cd_min rfl) (by rfl) B.min_ bt_min (da_cons (de_callB cd_len (by rfl) B.len_ bt_len (da_cons (de_var 5) da_nil)) (da_cons de_int da_nil))) da_nil)) (blkOk_by (N := N_law) (sc := defScope s_law) (by decide +kernel)) (fun _ _ _ _ _ => (dg_name 6 nd)) (fun _ _ _ _ _ => dts_nil) (fun _ _ _ _ _ => (de_call c_ring_at hr (by rfl) (da_cons (de_var 4) (da_cons (de_var 6) da_nil))))) (de_slice (de_var 5) do_no (do_ix de_int))) (dss_one (ds_ret de_bl)) dss_nil)
      (dss_cons (ds_for PassesOwn.never rfl (di_seq (de_tup (da_cons (de_ix ix_d (de_var 2) de_int) (da_cons (de_op od_mul (de_op od_mul (de_ix ix_d (de_var 2) de_int) de_int) de_int) (da_cons (de_op od_sub (de_op od_pow de_int de_int) (de_ix ix_d (de_var 2) de_int)) da_nil))))) (dg_name 6 nd) (dss_cons (ds_set 7 nd (de_call c_ring_at hr (by rfl) (da_cons (de_var 4) (da_cons (de_var 6) da_nil))))
      (dss_cons (ds_if (dt_w (dw_or (dt_cmp (od_eq hr.units) (de_call c__law_ringing hr (by rfl) (da_cons (de_var 3) (da_cons (de_var 7) da_nil))) (de_tup da_nil)) (dw_or1 (dt_cmp (od_gt hr.units0) (de_var 7) (de_op od_mul (de_var 6) (de_callB (cd_minT rfl (hu65 hr)) (by rfl) B.min_ bt_min (da_cons (de_var 3) da_nil))))))) (dss_one (ds_ret de_bl)) dss_nil)
      (dss_cons (ds_if (dt_w (dw_and (dt_cmp od_le (de_var 7) (de_op od_pow de_int de_int)) (dw_and1 (dt_cmp (od_ne hr.units) (de_call c_count_rings hr (by rfl) (da_cons (de_var 4) (da_cons de_int (da_cons (de_var 7) da_nil)))) (de_op od_add (de_var 6) de_int))))) (dss_one (ds_ret de_bl)) dss_nil)
      (dss_one (ds_if (dt_w (dw_and (dt_cmp (od_lt hr.units0) (de_var 7) (de_op od_pow de_int de_int)) (dw_and1 (dt_cmp (od_lt hr.units0) (de_var 6) (de_op od_pow de_int de_int))))) (dss_one (ds_if (dt_cmp (od_ne hr.units) (de_listG BC.cls M_rings hr (by rfl) B.list_ (de_var 4) (da_cons (de_var 7) (da_cons de_int da_nil))) (de_lst (da_cons (de_call c_ring_at hr (by rfl) (da_cons (de_var 4) (da_cons (de_op od_add (de_var 6) de_int) da_nil))) da_nil))) (dss_one (ds_ret de_bl)) dss_nil)) dss_nil))))))
      (dss_cons (ds_set 8 nd (de_meth0 BC.cls M_together hr (de_var 4)))
      (dss_one (ds_if (dt_cmp od_le (de_var 8) (de_op od_pow de_int de_int)) (dss_cons (ds_set 9 nd (de_call c_count_rings hr (by rfl) (da_cons (de_var 4) (da_cons de_int (da_cons (de_op od_sub (de_var 8) de_int) da_nil)))))
      (dss_one (ds_if (dt_cmp od_le (de_op od_add (de_var 9) (de_ix ix_d (de_var 2) de_int)) (de_op od_pow de_int de_int)) (dss_one (ds_if (dt_cmp (od_ne hr.units) (de_call c_ring_at hr (by rfl) (da_cons (de_var 4) (da_cons (de_op od_add (de_var 9) (de_ix ix_d (de_var 2) de_int)) da_nil))) (de_op od_add (de_var 8) (de_call c_ring_at hr (by rfl) (da_cons (de_var 4) (da_cons (de_ix ix_d (de_var 2) de_int) da_nil))))) (dss_one (ds_ret de_bl)) dss_nil)) dss_nil))) dss_nil))))))))))
      (dss_cons (ds_if (dt_cmp (od_ne hr.units) (de_comp (own := [("at", 6)]) rfl nd (di_rng1 (by rfl) B.range_ (da_cons de_int da_nil)) (blkOk_by (N := N_law) (sc := defScope s_law) (by decide +kernel)) (fun _ _ _ _ _ => (dg_name 6 nd)) (fun _ _ _ _ _ => dts_nil) (fun _ _ _ _ _ => (de_call c_ring_at hr (by rfl) (da_cons (de_bells BC hr (by rfl) (da_cons de_int (da_cons de_int da_nil))) (da_cons (de_var 6) da_nil))))) (de_lst (da_cons de_int (da_cons de_int (da_cons de_int (da_cons de_int (da_cons de_int (da_cons de_int da_nil)))))))) (dss_one (ds_ret de_bl)) dss_nil)
      (dss_one (ds_ret (de_cmp (od_eq hr.units) (de_call c_ring_at hr (by rfl) (da_cons (de_bells BC hr (by rfl) (da_cons de_int da_nil)) (da_cons (de_op od_pow de_int de_int) da_nil))) (de_op od_mul de_int (de_op od_pow de_int de_int)))))))
theorem ok_Brings {f : Addr} {fd : FuncData} (F : Fun K "rings" "Bells.rings" sBrings f fd) (B : Bi mg) (BC : BeC P w K mg base C) (c_is_integer : Cal P w K mg base C 1 "is_integer" ["value", "low", "high"] m_is_integer) : GFn P w K mg base 2 f fd ["self", "start", "count"] (spG K C m_B_rings) :=
  have nd := sc_Brings.nd
  gfnD (k := 1) F sc_Brings (by decide) fun cdv A outer s H E pn hr =>
    (dys_cons (dy_pl (ds_if (dt_w (dw_or (dt_not (dt_val (de_call c_is_integer hr (by rfl) (da_cons (de_var 1) (da_cons de_int (da_cons (de_op od_pow de_int de_int) da_nil)))))) (dw_or1 (dt_not (dt_val (de_call c_is_integer hr (by rfl) (da_cons (de_var 2) (da_cons de_int (da_cons de_int da_nil))))))))) (dss_one ds_fail) dss_nil))
      (dys_cons (dy_pl (ds_set 3 nd (de_var 1)))
      (dys_cons (dy_for owns_gcx rfl (di_rng1 (by rfl) B.range_ (da_cons (de_var 2) da_nil)) (dg_name 4 nd) (dys_cons (dy_pl (ds_set 3 nd (de_callB (cd_min rfl) (by rfl) B.min_ bt_min (da_cons (de_comp (own := [("period", 5)]) rfl nd (di_seq (de_row BC (de_var 0))) (blkOk_by (N := N_Brings) (sc := defScope s_Brings) (by decide +kernel)) (fun _ _ _ _ _ => (dg_name 5 nd)) (fun _ _ _ _ _ => dts_nil) (fun _ _ _ _ _ => (de_op od_mul (de_op od_add (de_op od_fdiv (de_var 3) (de_var 5)) de_int) (de_var 5)))) da_nil))))
      (dys_cons (dy_out (de_var 3))
      dys_nil)))
      dys_nil)))
theorem ok_Btogether {f : Addr} {fd : FuncData} (F : Fun K "together" "Bells.together" sBtogether f fd) (B : Bi mg) (BC : BeC P w K mg base C) (c_lcm : Cal P w K mg base C 2 "lcm" ["one", "other"] m_lcm) : FnOk P w K mg base CX0 3 f fd ["self"] (spD K C m_B_together) :=
  have nd := sc_Btogether.nd
  fnD (k := 2) F sc_Btogether (by decide) fun cdv A outer s H E hr =>
    (dss_cons (ds_set 1 nd de_int)
      (dss_cons (ds_for PassesOwn.never rfl (di_seq (de_row BC (de_var 0))) (dg_name 2 nd) (dss_one (ds_set 1 nd (de_call c_lcm hr (by rfl) (da_cons (de_var 1) (da_cons (de_var 2) da_nil))))))
      (dss_one (ds_ret (de_var 1)))))
theorem ok_init {f : Addr} {fd : FuncData} (F : Fun K "__init__" "Bells.__init__" sB___init__ f fd) (B : Bi mg) (cl : Cls K C) (nr : NoAttr K C "row") (MO : Most K C) (hmB : mg "Bells" = some (.ref C)) (c_is_integer : Cal P w K mg base C 1 "is_integer" ["value", "low", "high"] m_is_integer)
    (hv : ∀ ns, bellOk ns = true → m_init_t (none :: some (.tup (ns.map .int)) :: List.replicate (NB___init__.length - 2) none) = some false) : FnR P w K mg base CX0 4 f (spStar (spInit C)) :=
  have nd := scB___init__.nd
  init_ok (k := 3) F scB___init__ cl nr rfl (fun _ _ _ _ _ _ us rest hl => match us, hl, rest with | [_], _, [] => rfl | [_], _, _ :: _ => rfl) (fun cdv A outer s H E hr =>
    (dt_w (dw_or (dt_not (dt_chain od_le od_le de_int (de_callB cd_len (by rfl) B.len_ bt_len (da_cons (de_var 1) da_nil)) (de_most MO (by rfl) hmB))) (dw_or1 (dt_not (dt_val (de_callB (cd_all rfl) (by rfl) B.all_ bt_all (da_cons (de_comp (own := [("period", 2)]) rfl nd (di_seq (de_var 1)) (blkOk_by (N := NB___init__) (sc := defScope sB___init__) (by decide +kernel)) (fun _ _ _ _ _ => (dg_name 2 nd)) (fun _ _ _ _ _ => dts_nil) (fun _ _ _ _ _ => (de_call c_is_integer hr (by rfl) (da_cons (de_var 2) (da_cons de_int (da_cons de_int da_nil)))))) da_nil)))))))) hv rfl rfl (by decide) (by first | exact Or.inl rfl | exact Or.inr (Or.inl rfl)) (by first | exact Or.inl rfl | exact Or.inr (Or.inl rfl)) (fun _ => rfl)
end
end My
namespace My
open PySem PySem.Spec PyProof.Rows L2 DL Mi
theorem all_mk {l : PySem.W.OpenLaw} {w : World} {K : PySem.W.Frag} {h : Heap} {mg : Str → Option Value} {fa f0 f1 f2 f3 f4 f5 f6 f7 f8 f9 f10 f11 f12 : Addr} (X : K.In h) (G : h.Ns mainGlobals mg) (hfa : mg "law" = some (.ref fa))
    {od0 an0 : Option Addr} {sl0 : Array (Option Value)} {oc0 kV0 dc0 pm0 cd0 ct0 : Value} (a0 : PySem.W.nsIn K mainGlobals "is_integer" = some (some (.ref f0))) (l0 : K.lookup f0 = some ⟨oc0, od0, .func (PySem.W.fnOf "is_integer" "is_integer" (defArgs s_is_integer) (defBody s_is_integer) (defScope s_is_integer) .none kV0 dc0 pm0 an0 cd0 ct0), sl0⟩) (c0 : PySem.W.codeIn K cd0 "is_integer" = true) (k0 : PySem.W.keepIn K (.ref f0) = true)
    {od1 an1 : Option Addr} {sl1 : Array (Option Value)} {oc1 kV1 dc1 pm1 cd1 ct1 : Value} (a1 : PySem.W.nsIn K mainGlobals "gcd" = some (some (.ref f1))) (l1 : K.lookup f1 = some ⟨oc1, od1, .func (PySem.W.fnOf "gcd" "gcd" (defArgs s_gcd) (defBody s_gcd) (defScope s_gcd) .none kV1 dc1 pm1 an1 cd1 ct1), sl1⟩) (c1 : PySem.W.codeIn K cd1 "gcd" = true) (k1 : PySem.W.keepIn K (.ref f1) = true)
    {od2 an2 : Option Addr} {sl2 : Array (Option Value)} {oc2 kV2 dc2 pm2 cd2 ct2 : Value} (a2 : PySem.W.nsIn K mainGlobals "lcm" = some (some (.ref f2))) (l2 : K.lookup f2 = some ⟨oc2, od2, .func (PySem.W.fnOf "lcm" "lcm" (defArgs s_lcm) (defBody s_lcm) (defScope s_lcm) .none kV2 dc2 pm2 an2 cd2 ct2), sl2⟩) (c2 : PySem.W.codeIn K cd2 "lcm" = true) (k2 : PySem.W.keepIn K (.ref f2) = true)
    {od3 an3 : Option Addr} {sl3 : Array (Option Value)} {oc3 kV3 dc3 pm3 cd3 ct3 : Value} (a3 : PySem.W.nsIn K mainGlobals "meetings" = some (some (.ref f3))) (l3 : K.lookup f3 = some ⟨oc3, od3, .func (PySem.W.fnOf "meetings" "meetings" (defArgs s_meetings) (defBody s_meetings) (defScope s_meetings) .none kV3 dc3 pm3 an3 cd3 ct3), sl3⟩) (c3 : PySem.W.codeIn K cd3 "meetings" = true) (k3 : PySem.W.keepIn K (.ref f3) = true)
    {od4 an4 : Option Addr} {sl4 : Array (Option Value)} {oc4 kV4 dc4 pm4 cd4 ct4 : Value} (a4 : PySem.W.nsIn K mainGlobals "rung_to" = some (some (.ref f4))) (l4 : K.lookup f4 = some ⟨oc4, od4, .func (PySem.W.fnOf "rung_to" "rung_to" (defArgs s_rung_to) (defBody s_rung_to) (defScope s_rung_to) .none kV4 dc4 pm4 an4 cd4 ct4), sl4⟩) (c4 : PySem.W.codeIn K cd4 "rung_to" = true) (k4 : PySem.W.keepIn K (.ref f4) = true)
    {od5 an5 : Option Addr} {sl5 : Array (Option Value)} {oc5 kV5 dc5 pm5 cd5 ct5 : Value} (a5 : PySem.W.nsIn K mainGlobals "count_rings" = some (some (.ref f5))) (l5 : K.lookup f5 = some ⟨oc5, od5, .func (PySem.W.fnOf "count_rings" "count_rings" (defArgs s_count_rings) (defBody s_count_rings) (defScope s_count_rings) .none kV5 dc5 pm5 an5 cd5 ct5), sl5⟩) (c5 : PySem.W.codeIn K cd5 "count_rings" = true) (k5 : PySem.W.keepIn K (.ref f5) = true)
    {od6 an6 : Option Addr} {sl6 : Array (Option Value)} {oc6 kV6 dc6 pm6 cd6 ct6 : Value} (a6 : PySem.W.nsIn K mainGlobals "ring_at" = some (some (.ref f6))) (l6 : K.lookup f6 = some ⟨oc6, od6, .func (PySem.W.fnOf "ring_at" "ring_at" (defArgs s_ring_at) (defBody s_ring_at) (defScope s_ring_at) .none kV6 dc6 pm6 an6 cd6 ct6), sl6⟩) (c6 : PySem.W.codeIn K cd6 "ring_at" = true) (k6 : PySem.W.keepIn K (.ref f6) = true)
    {od7 an7 : Option Addr} {sl7 : Array (Option Value)} {oc7 kV7 dc7 pm7 cd7 ct7 : Value} (a7 : PySem.W.nsIn K mainGlobals "_law_cell" = some (some (.ref f7))) (l7 : K.lookup f7 = some ⟨oc7, od7, .func (PySem.W.fnOf "_law_cell" "_law_cell" (defArgs s__law_cell) (defBody s__law_cell) (defScope s__law_cell) .none kV7 dc7 pm7 an7 cd7 ct7), sl7⟩) (c7 : PySem.W.codeIn K cd7 "_law_cell" = true) (k7 : PySem.W.keepIn K (.ref f7) = true)
    {od8 an8 : Option Addr} {sl8 : Array (Option Value)} {oc8 kV8 dc8 pm8 cd8 ct8 : Value} (a8 : PySem.W.nsIn K mainGlobals "_law_digits" = some (some (.ref f8))) (l8 : K.lookup f8 = some ⟨oc8, od8, .func (PySem.W.fnOf "_law_digits" "_law_digits" (defArgs s__law_digits) (defBody s__law_digits) (defScope s__law_digits) .none kV8 dc8 pm8 an8 cd8 ct8), sl8⟩) (c8 : PySem.W.codeIn K cd8 "_law_digits" = true) (k8 : PySem.W.keepIn K (.ref f8) = true)
    {od9 an9 : Option Addr} {sl9 : Array (Option Value)} {oc9 kV9 dc9 pm9 cd9 ct9 : Value} (a9 : PySem.W.nsIn K mainGlobals "_law_bells" = some (some (.ref f9))) (l9 : K.lookup f9 = some ⟨oc9, od9, .func (PySem.W.fnOf "_law_bells" "_law_bells" (defArgs s__law_bells) (defBody s__law_bells) (defScope s__law_bells) .none kV9 dc9 pm9 an9 cd9 ct9), sl9⟩) (c9 : PySem.W.codeIn K cd9 "_law_bells" = true) (k9 : PySem.W.keepIn K (.ref f9) = true)
    {od10 an10 : Option Addr} {sl10 : Array (Option Value)} {oc10 kV10 dc10 pm10 cd10 ct10 : Value} (a10 : PySem.W.nsIn K mainGlobals "_law_tower" = some (some (.ref f10))) (l10 : K.lookup f10 = some ⟨oc10, od10, .func (PySem.W.fnOf "_law_tower" "_law_tower" (defArgs s__law_tower) (defBody s__law_tower) (defScope s__law_tower) .none kV10 dc10 pm10 an10 cd10 ct10), sl10⟩) (c10 : PySem.W.codeIn K cd10 "_law_tower" = true) (k10 : PySem.W.keepIn K (.ref f10) = true)
    {od11 an11 : Option Addr} {sl11 : Array (Option Value)} {oc11 kV11 dc11 pm11 cd11 ct11 : Value} (a11 : PySem.W.nsIn K mainGlobals "_law_ringing" = some (some (.ref f11))) (l11 : K.lookup f11 = some ⟨oc11, od11, .func (PySem.W.fnOf "_law_ringing" "_law_ringing" (defArgs s__law_ringing) (defBody s__law_ringing) (defScope s__law_ringing) .none kV11 dc11 pm11 an11 cd11 ct11), sl11⟩) (c11 : PySem.W.codeIn K cd11 "_law_ringing" = true) (k11 : PySem.W.keepIn K (.ref f11) = true)
    {od12 an12 : Option Addr} {sl12 : Array (Option Value)} {oc12 kV12 dc12 pm12 cd12 ct12 : Value} (a12 : PySem.W.nsIn K mainGlobals "law" = some (some (.ref f12))) (l12 : K.lookup f12 = some ⟨oc12, od12, .func (PySem.W.fnOf "law" "law" (defArgs s_law) (defBody s_law) (defScope s_law) .none kV12 dc12 pm12 an12 cd12 ct12), sl12⟩) (c12 : PySem.W.codeIn K cd12 "law" = true) (k12 : PySem.W.keepIn K (.ref f12) = true)
    (z_all : PySem.W.nsIn K mainGlobals "all" = some none)
    (z_bool : PySem.W.nsIn K mainGlobals "bool" = some none)
    (z_enumerate : PySem.W.nsIn K mainGlobals "enumerate" = some none)
    (z_int : PySem.W.nsIn K mainGlobals "int" = some none)
    (z_isinstance : PySem.W.nsIn K mainGlobals "isinstance" = some none)
    (z_len : PySem.W.nsIn K mainGlobals "len" = some none)
    (z_list : PySem.W.nsIn K mainGlobals "list" = some none)
    (z_max : PySem.W.nsIn K mainGlobals "max" = some none)
    (z_min : PySem.W.nsIn K mainGlobals "min" = some none)
    (z_range : PySem.W.nsIn K mainGlobals "range" = some none)
    (z_tuple : PySem.W.nsIn K mainGlobals "tuple" = some none)
    {C fI fP pP : Addr} (e1 : PySem.W.nsIn K mainGlobals "Bells" = some (some (.ref C))) (e2 : PySem.W.plainGet K C Str.empty = true) (e3 : PySem.W.hasDictIn K C = true) (e4 : PySem.W.plainOver K C = true) (e5 : PySem.W.findIn K (.ref C) "__setattr__" = some (some (.builtin "object.__setattr__"))) (e6 : PySem.W.findIn K (.ref C) "row" = some none)
    (e7 : PySem.W.makesIn K C = true) (e8 : PySem.W.findIn K (.ref C) "__init__" = some (some (.ref fI))) (e9 : PySem.W.isFn K (.ref fI) = true) (e10 : PySem.W.keepIn K (.ref C) = true)
    {odI anI : Option Addr} {slI : Array (Option Value)} {ocI kVI dcI pmI cdI ctI : Value} (lI : K.lookup fI = some ⟨ocI, odI, .func (PySem.W.fnOf "__init__" "Bells.__init__" (defArgs sB___init__) (defBody sB___init__) (defScope sB___init__) .none kVI dcI pmI anI cdI ctI), slI⟩) (cI : PySem.W.codeIn K cdI "Bells.__init__" = true) (kI : PySem.W.keepIn K (.ref fI) = true)
    {odP anP : Option Addr} {slP : Array (Option Value)} {ocP kVP dcP pmP cdP ctP : Value} (lP : K.lookup fP = some ⟨ocP, odP, .func (PySem.W.fnOf "periods" "Bells.periods" (defArgs sB_periods) (defBody sB_periods) (defScope sB_periods) .none kVP dcP pmP anP cdP ctP), slP⟩) (cP : PySem.W.codeIn K cdP "Bells.periods" = true) (kP : PySem.W.keepIn K (.ref fP) = true)
    {tM : Tok} {rest : List Value} (e11 : PySem.W.readsIn K C (.type "type") = true) (e12 : PySem.W.specialIn K (.ref C) "__getattribute__" = some (some (.builtin "type.__getattribute__"))) (e13 : PySem.W.findCls K (.ref C) (.type "type") "MOST" = some (.val (.int 5 tM)))
    (e14 : PySem.W.findIn K (.ref C) "periods" = some (some (.ref pP))) (e15 : PySem.W.specialIn K (.ref pP) "__get__" = some (some (.builtin "property.__get__"))) (e16 : PySem.W.takesIn K (.ref pP) = some true) (e17 : PySem.W.recIn K pP "property" = some (.ref fP :: rest))
    {fMrings : Addr} {odMrings anMrings : Option Addr} {slMrings : Array (Option Value)} {ocMrings kVMrings dcMrings pmMrings cdMrings ctMrings : Value} (mArings : PySem.W.findIn K (.ref C) "rings" = some (some (.ref fMrings))) (mBrings : PySem.W.isFn K (.ref fMrings) = true) (mLrings : K.lookup fMrings = some ⟨ocMrings, odMrings, .func (PySem.W.fnOf "rings" "Bells.rings" (defArgs sBrings) (defBody sBrings) (defScope sBrings) .none kVMrings dcMrings pmMrings anMrings cdMrings ctMrings), slMrings⟩) (mCrings : PySem.W.codeIn K cdMrings "Bells.rings" = true) (mKrings : PySem.W.keepIn K (.ref fMrings) = true)
    {fMtogether : Addr} {odMtogether anMtogether : Option Addr} {slMtogether : Array (Option Value)} {ocMtogether kVMtogether dcMtogether pmMtogether cdMtogether ctMtogether : Value} (mAtogether : PySem.W.findIn K (.ref C) "together" = some (some (.ref fMtogether))) (mBtogether : PySem.W.isFn K (.ref fMtogether) = true) (mLtogether : K.lookup fMtogether = some ⟨ocMtogether, odMtogether, .func (PySem.W.fnOf "together" "Bells.together" (defArgs sBtogether) (defBody sBtogether) (defScope sBtogether) .none kVMtogether dcMtogether pmMtogether anMtogether cdMtogether ctMtogether), slMtogether⟩) (mCtogether : PySem.W.codeIn K cdMtogether "Bells.together" = true) (mKtogether : PySem.W.keepIn K (.ref fMtogether) = true)
    : ∃ fd : FuncData, (∀ (s : Shared) (v : Value), BindsTo s fd ⟨[v], []⟩ [("script", v)]) ∧ ∀ base : Heap, K.In base → base.Ns mainGlobals mg → FnOk l.prog w K mg base CX0 7 fa fd ["script"] (spD K C m_k27) := by
  have e := hfa.symm.trans (PySem.W.mg_of X G a12)
  cases e
  have F0 := fun_mk (st := s_is_integer) l0 c0 k0
  have F1 := fun_mk (st := s_gcd) l1 c1 k1
  have F2 := fun_mk (st := s_lcm) l2 c2 k2
  have F3 := fun_mk (st := s_meetings) l3 c3 k3
  have F4 := fun_mk (st := s_rung_to) l4 c4 k4
  have F5 := fun_mk (st := s_count_rings) l5 c5 k5
  have F6 := fun_mk (st := s_ring_at) l6 c6 k6
  have F7 := fun_mk (st := s__law_cell) l7 c7 k7
  have F8 := fun_mk (st := s__law_digits) l8 c8 k8
  have F9 := fun_mk (st := s__law_bells) l9 c9 k9
  have F10 := fun_mk (st := s__law_tower) l10 c10 k10
  have F11 := fun_mk (st := s__law_ringing) l11 c11 k11
  have F12 := fun_mk (st := s_law) l12 c12 k12
  have B : Bi mg := ⟨PySem.W.mg_none_of X G z_all, PySem.W.mg_none_of X G z_bool, PySem.W.mg_none_of X G z_enumerate, PySem.W.mg_none_of X G z_int, PySem.W.mg_none_of X G z_isinstance, PySem.W.mg_none_of X G z_len, PySem.W.mg_none_of X G z_list, PySem.W.mg_none_of X G z_max, PySem.W.mg_none_of X G z_min, PySem.W.mg_none_of X G z_range, PySem.W.mg_none_of X G z_tuple⟩
  have b0 := F0.binds (ps := ["value", "low", "high"]) fun _ _ _ _ _ _ us hl => match us, hl with | [_, _, _], _ => rfl
  have b1 := F1.binds (ps := ["one", "other"]) fun _ _ _ _ _ _ us hl => match us, hl with | [_, _], _ => rfl
  have b2 := F2.binds (ps := ["one", "other"]) fun _ _ _ _ _ _ us hl => match us, hl with | [_, _], _ => rfl
  have b3 := F3.binds (ps := ["bells"]) fun _ _ _ _ _ _ us hl => match us, hl with | [_], _ => rfl
  have b4 := F4.binds (ps := ["sets", "time"]) fun _ _ _ _ _ _ us hl => match us, hl with | [_, _], _ => rfl
  have b5 := F5.binds (ps := ["bells", "low", "high"]) fun _ _ _ _ _ _ us hl => match us, hl with | [_, _, _], _ => rfl
  have b6 := F6.binds (ps := ["bells", "index"]) fun _ _ _ _ _ _ us hl => match us, hl with | [_, _], _ => rfl
  have b7 := F7.binds (ps := ["script", "index"]) fun _ _ _ _ _ _ us hl => match us, hl with | [_, _], _ => rfl
  have b8 := F8.binds (ps := ["script", "index", "count", "base"]) fun _ _ _ _ _ _ us hl => match us, hl with | [_, _, _, _], _ => rfl
  have b9 := F9.binds (ps := ["digits", "most"]) fun _ _ _ _ _ _ us hl => match us, hl with | [_, _], _ => rfl
  have b10 := F10.binds (ps := ["periods"]) fun _ _ _ _ _ _ us hl => match us, hl with | [_], _ => rfl
  have b11 := F11.binds (ps := ["periods", "time"]) fun _ _ _ _ _ _ us hl => match us, hl with | [_, _], _ => rfl
  have FI := fun_mk (st := sB___init__) lI cI kI
  have FP := fun_mk (st := sB_periods) lP cP kP
  have cl : Cls K C := ⟨e2, e3, e4, e5⟩
  have hmB : mg "Bells" = some (.ref C) := PySem.W.mg_of X G e1
  have MO : Most K C := ⟨.type "type", _, ⟨e11, e12⟩, ⟨e13, ⟨_, rfl⟩⟩⟩
  refine ⟨PySem.W.fnOf "law" "law" (defArgs s_law) (defBody s_law) (defScope s_law) .none kV12 dc12 pm12 an12 cd12 ct12, fun s v => .of_eq rfl, fun base _ _ => ?_⟩
  have C_is_integer : Cal l.prog w K mg base C 1 "is_integer" ["value", "low", "high"] m_is_integer := ⟨⟨_, _, ok_is_integer F0 B , PySem.W.mg_of X G a0, F0.kp, b0⟩⟩
  have C_gcd : Cal l.prog w K mg base C 1 "gcd" ["one", "other"] m_gcd := ⟨⟨_, _, ok_gcd F1 B , PySem.W.mg_of X G a1, F1.kp, b1⟩⟩
  have C_lcm : Cal l.prog w K mg base C 2 "lcm" ["one", "other"] m_lcm := ⟨⟨_, _, ok_lcm F2 B C_gcd, PySem.W.mg_of X G a2, F2.kp, b2⟩⟩
  have BC : BeC l.prog w K mg base C := ⟨cl, e6, ⟨fI, ⟨e7, e8, e9, e10⟩, ok_init FI B cl e6 MO hmB C_is_integer Mi.init_test, hmB⟩, prop_ok FP scB_periods rfl rfl cl e6 (fun _ _ _ _ _ _ us hl => match us, hl with | [_], _ => rfl) ⟨e14, e15, e16, ⟨rest, e17⟩⟩⟩
  have C_meetings : Cal l.prog w K mg base C 3 "meetings" ["bells"] m_meetings := ⟨⟨_, _, ok_meetings F3 B BC C_lcm, PySem.W.mg_of X G a3, F3.kp, b3⟩⟩
  have C_rung_to : Cal l.prog w K mg base C 1 "rung_to" ["sets", "time"] m_rung_to := ⟨⟨_, _, ok_rung_to F4 B , PySem.W.mg_of X G a4, F4.kp, b4⟩⟩
  have C_count_rings : Cal l.prog w K mg base C 4 "count_rings" ["bells", "low", "high"] m_count_rings := ⟨⟨_, _, ok_count_rings F5 B C_meetings C_rung_to, PySem.W.mg_of X G a5, F5.kp, b5⟩⟩
  have C_ring_at : Cal l.prog w K mg base C 4 "ring_at" ["bells", "index"] m_ring_at := ⟨⟨_, _, ok_ring_at F6 B BC C_meetings C_rung_to, PySem.W.mg_of X G a6, F6.kp, b6⟩⟩
  have C__law_cell : Cal l.prog w K mg base C 1 "_law_cell" ["script", "index"] m_law_cell := ⟨⟨_, _, ok__law_cell F7 B , PySem.W.mg_of X G a7, F7.kp, b7⟩⟩
  have C__law_digits : Cal l.prog w K mg base C 2 "_law_digits" ["script", "index", "count", "base"] m_law_digits := ⟨⟨_, _, ok__law_digits F8 B C__law_cell, PySem.W.mg_of X G a8, F8.kp, b8⟩⟩
  have C__law_bells : Cal l.prog w K mg base C 1 "_law_bells" ["digits", "most"] m_law_bells := ⟨⟨_, _, ok__law_bells F9 B , PySem.W.mg_of X G a9, F9.kp, b9⟩⟩
  have C__law_tower : Cal l.prog w K mg base C 6 "_law_tower" ["periods"] m_law_tower := ⟨⟨_, _, ok__law_tower F10 B BC , PySem.W.mg_of X G a10, F10.kp, b10⟩⟩
  have C__law_ringing : Cal l.prog w K mg base C 1 "_law_ringing" ["periods", "time"] m_law_ringing := ⟨⟨_, _, ok__law_ringing F11 B , PySem.W.mg_of X G a11, F11.kp, b11⟩⟩
  have FMrings := fun_mk (st := sBrings) mLrings mCrings mKrings
  have M_rings : MethG l.prog w K mg base C 2 "rings" ["self", "start", "count"] m_B_rings := ⟨⟨_, _, ⟨mArings, mBrings, mKrings⟩, ok_Brings FMrings B BC C_is_integer, FMrings.binds (ps := ["self", "start", "count"]) fun _ _ _ _ _ _ us hl => match us, hl with | [_, _, _], _ => rfl⟩⟩
  have FMtogether := fun_mk (st := sBtogether) mLtogether mCtogether mKtogether
  have M_together : MethD l.prog w K mg base C 3 "together" ["self"] m_B_together := ⟨⟨_, _, ⟨mAtogether, mBtogether, mKtogether⟩, ok_Btogether FMtogether B BC C_lcm, FMtogether.binds (ps := ["self"]) fun _ _ _ _ _ _ us hl => match us, hl with | [_], _ => rfl⟩⟩
  exact ok_law F12 B BC M_rings M_together C__law_bells C__law_digits C__law_ringing C__law_tower C_count_rings C_ring_at
end My
open PySem PySem.W PyProof.Rows
set_option maxHeartbeats 0 in
theorem PySem.Challenge.cw_meetperiods_k27_whole_rings_by_their_ind_holds : PySem.Challenge.rw_meetperiods_k27_whole_rings_by_their_ind.Holds := by
  w_on; o_law; k_head; (case hw => w_witness2)
  k_fill
  refine L2.walk_of (l := PySem.Challenge.rw_meetperiods_k27_whole_rings_by_their_ind) (n := 63) (k := 7) (x := "script") (CX := fun _ => L2.CX0) (sp := fun w => DL.spD _ 190 Mi.m_k27) rfl (by decide) rfl ⟨rfl, by decide, by decide⟩ (fun w h Y => PySem.W.kIn_of Y) ?F (fun _ H a ns hl _ hS => ⟨H, [.scr ns], .bl true, L2.Same.refl _, DL.RpL.one ⟨a, rfl, hS⟩, Mi.plain_k27 ns hl, fun _ _ _ _ r => r⟩) (fun _ _ _ _ _ h => h)
  case F =>
    intro w mg fa h KX G hmg
    refine' My.all_mk KX G hmg ?a0 ?l0 ?c0 ?k0 ?a1 ?l1 ?c1 ?k1 ?a2 ?l2 ?c2 ?k2 ?a3 ?l3 ?c3 ?k3 ?a4 ?l4 ?c4 ?k4 ?a5 ?l5 ?c5 ?k5 ?a6 ?l6 ?c6 ?k6 ?a7 ?l7 ?c7 ?k7 ?a8 ?l8 ?c8 ?k8 ?a9 ?l9 ?c9 ?k9 ?a10 ?l10 ?c10 ?k10 ?a11 ?l11 ?c11 ?k11 ?a12 ?l12 ?c12 ?k12 ?z_all ?z_bool ?z_enumerate ?z_int ?z_isinstance ?z_len ?z_list ?z_max ?z_min ?z_range ?z_tuple ?e1 ?e2 ?e3 ?e4 ?e5 ?e6 ?e7 ?e8 ?e9 ?e10 ?lI ?cI ?kI ?lP ?cP ?kP ?e11 ?e12 ?e13 ?e14 ?e15 ?e16 ?e17 ?mArings ?mBrings ?mLrings ?mCrings ?mKrings ?mAtogether ?mBtogether ?mLtogether ?mCtogether ?mKtogether
    (case a0 => k_is)
    (case l0 => k_is)
    (case c0 => k_is)
    (case k0 => k_is)
    (case a1 => k_is)
    (case l1 => k_is)
    (case c1 => k_is)
    (case k1 => k_is)
    (case a2 => k_is)
    (case l2 => k_is)
    (case c2 => k_is)
    (case k2 => k_is)
    (case a3 => k_is)
    (case l3 => k_is)
    (case c3 => k_is)
    (case k3 => k_is)
    (case a4 => k_is)
    (case l4 => k_is)
    (case c4 => k_is)
    (case k4 => k_is)
    (case a5 => k_is)
    (case l5 => k_is)
    (case c5 => k_is)
    (case k5 => k_is)
    (case a6 => k_is)
    (case l6 => k_is)
    (case c6 => k_is)
    (case k6 => k_is)
    (case a7 => k_is)
    (case l7 => k_is)
    (case c7 => k_is)
    (case k7 => k_is)
    (case a8 => k_is)
    (case l8 => k_is)
    (case c8 => k_is)
    (case k8 => k_is)
    (case a9 => k_is)
    (case l9 => k_is)
    (case c9 => k_is)
    (case k9 => k_is)
    (case a10 => k_is)
    (case l10 => k_is)
    (case c10 => k_is)
    (case k10 => k_is)
    (case a11 => k_is)
    (case l11 => k_is)
    (case c11 => k_is)
    (case k11 => k_is)
    (case a12 => k_is)
    (case l12 => k_is)
    (case c12 => k_is)
    (case k12 => k_is)
    (case z_all => k_is)
    (case z_bool => k_is)
    (case z_enumerate => k_is)
    (case z_int => k_is)
    (case z_isinstance => k_is)
    (case z_len => k_is)
    (case z_list => k_is)
    (case z_max => k_is)
    (case z_min => k_is)
    (case z_range => k_is)
    (case z_tuple => k_is)
    (case e1 => k_is)
    (case e2 => k_is)
    (case e3 => k_is)
    (case e4 => k_is)
    (case e5 => k_is)
    (case e6 => k_is)
    (case e7 => k_is)
    (case e8 => k_is)
    (case e9 => k_is)
    (case e10 => k_is)
    (case e11 => k_is)
    (case e12 => k_is)
    (case e13 => k_is)
    (case e14 => k_is)
    (case e15 => k_is)
    (case e16 => k_is)
    (case e17 => k_is)
    (case lI => k_is)
    (case cI => k_is)
    (case kI => k_is)
    (case lP => k_is)
    (case cP => k_is)
    (case kP => k_is)
    (case mArings => k_is)
    (case mBrings => k_is)
    (case mLrings => k_is)
    (case mCrings => k_is)
    (case mKrings => k_is)
    (case mAtogether => k_is)
    (case mBtogether => k_is)
    (case mLtogether => k_is)
    (case mCtogether => k_is)
    (case mKtogether => k_is)
