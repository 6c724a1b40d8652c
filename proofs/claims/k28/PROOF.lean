import PyProof.Rows.All
import Wide.All
import OpenK.AllK
import Wide.FinOn
import HandS.ClsMeth
import HandS.Deep
import HandS.Flow
import HandS.ForMost
import HandS.GenCall
import HandS.GenList
import HandS.GenYield
import HandS.IsInst
import HandS.Property
import HandS.SetFor
import HandS.SortInts
import HandS.SortRule
import HandS.Star
import HandS.Strs
import HandS.Style
import HandS.TupAny
import HandS.TupLe
import HandS.TupMul
import HandS.TupSets
import HandS.Wide
import HandS.Zip
import KE.DataMinMax
import KE.GoesEnum
import KE.GoesMore
import KE.GoesZip
import KE.SortData
import PyProof.P3In
import PySem.Challenge.RW_meetperiods_k28_whole_first_times_with_j
set_option Elab.async false
set_option linter.all false
set_option maxRecDepth 100000
set_option maxHeartbeats 4000000
namespace DL
open PySem PySem.Spec PyProof.Rows L2
/-- other data: dicts (tuples of ints to ints) -/
inductive XD where
  | dic (kvs : List (List Int × Int))
def encD (kvs : List (List Int × Int)) : List (List L2.Key × V) := kvs.map fun p => (p.1.map Sum.inl, V.int p.2)
def RpX (H : Hp) : XD → V → Prop
  | .dic kvs, v => ∃ a, v = .ref a ∧ H a = some (.dT (encD kvs))
theorem RpX.mono {F F' : Hp} (s : Same F F') : ∀ (x : XD) (v : V), RpX F x v → RpX F' x v
  | .dic kvs, v, h => by
    obtain ⟨a, e, ha⟩ := h
    exact ⟨a, e, s _ _ ha⟩
/-- data: none, bools, ints, texts, tuples, lists, bells (by their periods), the script -/
inductive D where
  | non | bl (b : Bool) | int (i : Int) | str (x : Str) | tup (xs : List D) | lst (xs : List D) | bell (ps : List Int) | scr (ns : List Int) | ext (x : XD)
mutual
/-- v stands for d in the frozen heap H -/
def Rp (K : PySem.W.Frag) (C : Addr) (H : Hp) : D → V → Prop
  | .non, v => v = .non
  | .bl b, v => v = .bl b
  | .int i, v => v = .int i
  | .str x, v => v = .str x
  | .tup ds, v => ∃ a xs, v = .ref a ∧ H a = some (.tup xs) ∧ RpL K C H ds xs
  | .lst ds, v => ∃ a xs, v = .ref a ∧ H a = some (.lst xs) ∧ RpL K C H ds xs
  | .bell ps, v => ∃ a dx t, v = .ref a ∧ H a = some (.ins C dx [("row", .ref t)]) ∧ H t = some (.tup (ps.map V.int))
  | .scr ns, v => ∃ a, v = .ref a ∧ SqL K H a (ns.map V.int)
  | .ext x, v => RpX H x v
def RpL (K : PySem.W.Frag) (C : Addr) (H : Hp) : List D → List V → Prop
  | [], xs => xs = []
  | d :: ds, xs => ∃ x r, xs = x :: r ∧ Rp K C H d x ∧ RpL K C H ds r
end
section
variable {K : PySem.W.Frag} {C : Addr} {F F' H H' : Hp}
mutual
theorem Rp.mono (s : Same F F') : ∀ (d : D) (v : V), Rp K C F d v → Rp K C F' d v
  | .non, _, h => h
  | .bl _, _, h => h
  | .int _, _, h => h
  | .str _, _, h => h
  | .tup ds, v, h => by
    simp only [Rp] at h ⊢
    obtain ⟨a, xs, e, ha, hl⟩ := h
    exact ⟨a, xs, e, s _ _ ha, RpL.mono s ds xs hl⟩
  | .lst ds, v, h => by
    simp only [Rp] at h ⊢
    obtain ⟨a, xs, e, ha, hl⟩ := h
    exact ⟨a, xs, e, s _ _ ha, RpL.mono s ds xs hl⟩
  | .bell ps, v, h => by
    simp only [Rp] at h ⊢
    obtain ⟨a, dx, t, e, ha, ht⟩ := h
    exact ⟨a, dx, t, e, s _ _ ha, s _ _ ht⟩
  | .scr ns, v, h => by
    simp only [Rp] at h ⊢
    obtain ⟨a, e, ha⟩ := h
    exact ⟨a, e, s.seq ha⟩
  | .ext x, v, h => by
    simp only [Rp] at h ⊢
    exact RpX.mono s x v h
theorem RpL.mono (s : Same F F') : ∀ (ds : List D) (vs : List V), RpL K C F ds vs → RpL K C F' ds vs
  | [], _, h => h
  | d :: ds, vs, h => by
    simp only [RpL] at h ⊢
    obtain ⟨x, r, e, h1, h2⟩ := h
    exact ⟨x, r, e, Rp.mono s d x h1, RpL.mono s ds r h2⟩
end
theorem RpL.nil : RpL K C F [] [] := rfl
theorem RpL.cons {d : D} {ds : List D} {x : V} {r : List V} (h1 : Rp K C F d x) (h2 : RpL K C F ds r) : RpL K C F (d :: ds) (x :: r) := ⟨x, r, rfl, h1, h2⟩
theorem RpL.len : ∀ {ds : List D} {vs : List V}, RpL K C F ds vs → ds.length = vs.length
  | [], vs, h => by
    have e : vs = [] := h
    subst e
    rfl
  | d :: ds, vs, h => by
    obtain ⟨x, r, e, _, h2⟩ := h
    subst e
    rw [List.length_cons, List.length_cons, RpL.len h2]
theorem RpL.get : ∀ {ds : List D} {vs : List V} {i : Nat} {d : D}, RpL K C F ds vs → ds[i]? = some d → ∃ v, vs[i]? = some v ∧ Rp K C F d v
  | [], _, i, d, _, e => by simp at e
  | d0 :: ds, vs, i, d, h, e => by
    obtain ⟨x, r, e1, h1, h2⟩ := h
    subst e1
    cases i with
    | zero =>
      simp only [List.getElem?_cons_zero, Option.some.injEq] at e
      subst e
      exact ⟨x, rfl, h1⟩
    | succ i =>
      rw [List.getElem?_cons_succ] at e
      rw [List.getElem?_cons_succ]
      exact RpL.get h2 e
theorem RpL.append : ∀ {ds es : List D} {vs ws : List V}, RpL K C F ds vs → RpL K C F es ws → RpL K C F (ds ++ es) (vs ++ ws)
  | [], es, vs, ws, h, h' => by
    have e : vs = [] := h
    subst e
    exact h'
  | d :: ds, es, vs, ws, h, h' => by
    obtain ⟨x, r, e, h1, h2⟩ := h
    subst e
    exact RpL.cons h1 (RpL.append h2 h')
theorem RpL.one {d : D} {v : V} (h : Rp K C F d v) : RpL K C F [d] [v] := RpL.cons h RpL.nil
theorem RpL.set : ∀ {ds : List D} {vs : List V} (i : Nat) {d : D} {v : V}, RpL K C F ds vs → Rp K C F d v → RpL K C F (ds.set i d) (vs.set i v)
  | [], vs, i, d, v, h, _ => by
    have e : vs = [] := h
    subst e
    exact h
  | d0 :: ds, vs, i, d, v, h, hv => by
    obtain ⟨x, r, e, h1, h2⟩ := h
    subst e
    cases i with
    | zero => exact RpL.cons hv h2
    | succ i => exact RpL.cons h1 (RpL.set i h2 hv)
theorem RpL.drop : ∀ {ds : List D} {vs : List V} (n : Nat), RpL K C F ds vs → RpL K C F (ds.drop n) (vs.drop n)
  | ds, vs, 0, h => h
  | [], vs, n + 1, h => by
    have e : vs = [] := h
    subst e
    exact h
  | d :: ds, vs, n + 1, h => by
    obtain ⟨x, r, e, _, h2⟩ := h
    subst e
    exact RpL.drop n h2
theorem RpL.take : ∀ {ds : List D} {vs : List V} (n : Nat), RpL K C F ds vs → RpL K C F (ds.take n) (vs.take n)
  | _, _, 0, _ => rfl
  | [], vs, n + 1, h => by
    have e : vs = [] := h
    subst e
    exact h
  | d :: ds, vs, n + 1, h => by
    obtain ⟨x, r, e, h1, h2⟩ := h
    subst e
    exact RpL.cons h1 (RpL.take n h2)
theorem RpL.rep {ds : List D} {vs : List V} (h : RpL K C F ds vs) : ∀ k : Nat, RpL K C F (List.replicate k ds).flatten (List.replicate k vs).flatten
  | 0 => rfl
  | k + 1 => by
    rw [List.replicate_succ, List.replicate_succ, List.flatten_cons, List.flatten_cons]
    exact RpL.append h (RpL.rep h k)
theorem RpL.ints : ∀ {ns : List Int} {vs : List V}, RpL K C F (ns.map D.int) vs → vs = ns.map V.int
  | [], vs, h => h
  | n :: ns, vs, h => by
    obtain ⟨x, r, e, h1, h2⟩ := h
    have h1' : x = .int n := h1
    rw [e, h1', RpL.ints h2]
    rfl
theorem RpL.ofInts : ∀ (ns : List Int), RpL K C F (ns.map D.int) (ns.map V.int)
  | [] => rfl
  | n :: ns => RpL.cons (show Rp K C F (.int n) (.int n) from rfl) (RpL.ofInts ns)
/-- one list and one tuple for each -/
theorem Rp.int {i : Int} {v : V} (h : Rp K C F (.int i) v) : v = .int i := h
theorem Rp.bl {b : Bool} {v : V} (h : Rp K C F (.bl b) v) : v = .bl b := h
/-- a step: more is frozen, all that stood stands, what is frozen anew is new -/
structure Stp (F H F' H' : Hp) : Prop where
  ff : Same F F'
  hh : Same H H'
  fh : Same F' H'
  old : ∀ a o, H a = some o → F' a = F a
theorem Stp.refl (fh : Same F H) : Stp F H F H := ⟨Same.refl _, Same.refl _, fh, fun _ _ _ => rfl⟩
theorem Stp.trans {F1 H1 F2 H2 : Hp} (a : Stp F H F1 H1) (b : Stp F1 H1 F2 H2) : Stp F H F2 H2 :=
  ⟨a.ff.trans b.ff, a.hh.trans b.hh, b.fh, fun x o h => (b.old x o (a.hh x o h)).trans (a.old x o h)⟩
theorem same_upd {H : Hp} {p : Addr} {o : HO} (h : H p = none) : Same H (upd H p o) := fun b x e => by
  rw [upd_ne (ne_of_none e h)]
  exact e
theorem none_of_same {F H : Hp} (s : Same F H) {p : Addr} (h : H p = none) : F p = none := s.free h
/-- a new object, frozen -/
theorem Stp.new (fh : Same F H) {p : Addr} {o : HO} (h : H p = none) : Stp F H (upd F p o) (upd H p o) := by
  refine ⟨same_upd (none_of_same fh h), same_upd h, fun b x e => ?_, fun a u e => upd_ne (ne_of_none e h)⟩
  by_cases hb : b = p
  · subst hb
    rw [upd_same] at e ⊢
    exact e
  · rw [upd_ne hb] at e ⊢
    exact fh b x e
/-- a new object that is not frozen -/
theorem Stp.own (fh : Same F H) {p : Addr} {o : HO} (h : H p = none) : Stp F H F (upd H p o) :=
  ⟨Same.refl _, same_upd h, fh.trans (same_upd h), fun _ _ _ => rfl⟩
abbrev Rho := List (Option D)
def lk : Rho → Nat → Option D
  | [], _ => none
  | x :: _, 0 => x
  | _ :: r, n + 1 => lk r n
def st : Rho → Nat → D → Rho
  | [], _, _ => []
  | _ :: r, 0, d => some d :: r
  | x :: r, n + 1, d => x :: st r n d
def un : Rho → Nat → Rho
  | [], _ => []
  | _ :: r, 0 => none :: r
  | x :: r, n + 1 => x :: un r n
def wipeR (ρ : Rho) : List Nat → Rho
  | [] => ρ
  | v :: vs => un (wipeR ρ vs) v
theorem st_len : ∀ (ρ : Rho) (i : Nat) (d : D), (st ρ i d).length = ρ.length
  | [], _, _ => rfl
  | _ :: _, 0, _ => rfl
  | x :: r, n + 1, d => by
    show (st r n d).length + 1 = r.length + 1
    rw [st_len r n d]
theorem un_len : ∀ (ρ : Rho) (i : Nat), (un ρ i).length = ρ.length
  | [], _ => rfl
  | _ :: _, 0 => rfl
  | x :: r, n + 1 => by
    show (un r n).length + 1 = r.length + 1
    rw [un_len r n]
theorem lk_lt : ∀ {ρ : Rho} {i : Nat} {d : D}, lk ρ i = some d → i < ρ.length
  | [], _, _, h => by simp [lk] at h
  | _ :: _, 0, _, _ => by simp
  | x :: r, n + 1, d, h => by
    have := lk_lt (ρ := r) (i := n) (d := d) h
    simpa using this
theorem lk_st_same : ∀ {ρ : Rho} {i : Nat} {d e : D}, lk (st ρ i d) i = some e → e = d
  | [], _, _, _, h => by simp [st, lk] at h
  | _ :: _, 0, d, e, h => by
    have h' : some d = some e := h
    exact (Option.some.inj h').symm
  | x :: r, n + 1, d, e, h => lk_st_same (ρ := r) (i := n) h
theorem lk_st_ne : ∀ {ρ : Rho} {i j : Nat} {d : D}, j ≠ i → lk (st ρ i d) j = lk ρ j
  | [], _, _, _, _ => rfl
  | _ :: _, 0, 0, _, h => absurd rfl h
  | _ :: _, 0, j + 1, _, _ => rfl
  | x :: r, n + 1, 0, d, _ => rfl
  | x :: r, n + 1, j + 1, d, h => lk_st_ne (ρ := r) (i := n) (j := j) fun e => h (by rw [e])
theorem lk_un_same : ∀ {ρ : Rho} {i : Nat}, lk (un ρ i) i = none
  | [], _ => rfl
  | _ :: _, 0 => rfl
  | x :: r, n + 1 => lk_un_same (ρ := r) (i := n)
theorem lk_un_ne : ∀ {ρ : Rho} {i j : Nat}, j ≠ i → lk (un ρ i) j = lk ρ j
  | [], _, _, _ => rfl
  | _ :: _, 0, 0, h => absurd rfl h
  | _ :: _, 0, j + 1, _ => rfl
  | x :: r, n + 1, 0, _ => rfl
  | x :: r, n + 1, j + 1, h => lk_un_ne (ρ := r) (i := n) (j := j) fun e => h (by rw [e])
/-- the slots σ hold ρ: frozen data, but at the places O lists of one's own -/
structure En (K : PySem.W.Frag) (C : Addr) (O : List Nat) (F H : Hp) (σ : L2.St) (ρ : Rho) : Prop where
  fh : Same F H
  len : σ.length = ρ.length
  pl : ∀ i d, i ∉ O → lk ρ i = some d → ∃ v, σ[i]? = some (some v) ∧ Rp K C F d v
  ow : ∀ i d, i ∈ O → lk ρ i = some d → ∃ p vs ds, σ[i]? = some (some (.ref p)) ∧ d = .lst ds ∧ H p = some (.lst vs) ∧ F p = none ∧ RpL K C F ds vs
  ap : ∀ i j d e p, i ∈ O → j ∈ O → lk ρ i = some d → lk ρ j = some e → σ[i]? = some (some (.ref p)) → σ[j]? = some (some (.ref p)) → i = j
variable {O : List Nat} {σ : L2.St} {ρ : Rho}
theorem En.step (h : En K C O F H σ ρ) (s : Stp F H F' H') : En K C O F' H' σ ρ where
  fh := s.fh
  len := h.len
  pl := fun i d hi e => by
    obtain ⟨v, h1, h2⟩ := h.pl i d hi e
    exact ⟨v, h1, Rp.mono s.ff d v h2⟩
  ow := fun i d hi e => by
    obtain ⟨p, vs, ds, h1, h2, h3, h4, h5⟩ := h.ow i d hi e
    exact ⟨p, vs, ds, h1, h2, s.hh _ _ h3, (s.old _ _ h3).trans h4, RpL.mono s.ff ds vs h5⟩
  ap := h.ap
theorem En.set {i : Nat} {d : D} {v : V} (h : En K C O F H σ ρ) (hi : i ∉ O) (hv : Rp K C F d v) : En K C O F H (σ.set i (some v)) (st ρ i d) where
  fh := h.fh
  len := by rw [List.length_set, st_len]; exact h.len
  pl := fun j e hj q => by
    by_cases hji : j = i
    · subst hji
      have e1 := lk_st_same q
      subst e1
      have hl := lk_lt q
      rw [st_len, ← h.len] at hl
      exact ⟨v, List.getElem?_set_self hl, hv⟩
    · rw [lk_st_ne hji] at q
      rw [List.getElem?_set_ne (Ne.symm hji)]
      exact h.pl j e hj q
  ow := fun j e hj q => by
    have hji : j ≠ i := fun z => hi (z ▸ hj)
    rw [lk_st_ne hji] at q
    rw [List.getElem?_set_ne (Ne.symm hji)]
    exact h.ow j e hj q
  ap := fun j k e e' p hj hk q1 q2 q3 q4 => by
    have hji : j ≠ i := fun z => hi (z ▸ hj)
    have hki : k ≠ i := fun z => hi (z ▸ hk)
    rw [lk_st_ne hji] at q1
    rw [lk_st_ne hki] at q2
    rw [List.getElem?_set_ne (Ne.symm hji)] at q3
    rw [List.getElem?_set_ne (Ne.symm hki)] at q4
    exact h.ap j k e e' p hj hk q1 q2 q3 q4
theorem En.unset {i : Nat} (h : En K C O F H σ ρ) : En K C O F H (σ.set i none) (un ρ i) where
  fh := h.fh
  len := by rw [List.length_set, un_len]; exact h.len
  pl := fun j e hj q => by
    by_cases hji : j = i
    · subst hji
      rw [lk_un_same] at q
      cases q
    · rw [lk_un_ne hji] at q
      rw [List.getElem?_set_ne (Ne.symm hji)]
      exact h.pl j e hj q
  ow := fun j e hj q => by
    have hji : j ≠ i := fun z => by
      subst z
      rw [lk_un_same] at q
      cases q
    rw [lk_un_ne hji] at q
    rw [List.getElem?_set_ne (Ne.symm hji)]
    exact h.ow j e hj q
  ap := fun j k e e' p hj hk q1 q2 q3 q4 => by
    have hji : j ≠ i := fun z => by
      subst z
      rw [lk_un_same] at q1
      cases q1
    have hki : k ≠ i := fun z => by
      subst z
      rw [lk_un_same] at q2
      cases q2
    rw [lk_un_ne hji] at q1
    rw [lk_un_ne hki] at q2
    rw [List.getElem?_set_ne (Ne.symm hji)] at q3
    rw [List.getElem?_set_ne (Ne.symm hki)] at q4
    exact h.ap j k e e' p hj hk q1 q2 q3 q4
theorem En.wipe (h : En K C O F H σ ρ) : ∀ vs : List Nat, En K C O F H (wipe σ vs) (wipeR ρ vs)
  | [] => h
  | v :: vs => by
    unfold L2.wipe wipeR
    exact (En.wipe h vs).unset
/-- a new list of one's own at the place i -/
theorem En.own {i : Nat} {p : Addr} {ds : List D} {vs : List V} (h : En K C O F H σ ρ) (hi : i ∉ O) (hH : H p = none) (hl : RpL K C F ds vs) :
    En K C (i :: O) F (upd H p (.lst vs)) (σ.set i (some (.ref p))) (st ρ i (.lst ds)) where
  fh := h.fh.trans (same_upd hH)
  len := by rw [List.length_set, st_len]; exact h.len
  pl := fun j e hj q => by
    have hji : j ≠ i := fun z => hj (by rw [z]; exact List.mem_cons_self)
    rw [lk_st_ne hji] at q
    rw [List.getElem?_set_ne (Ne.symm hji)]
    exact h.pl j e (fun z => hj (List.mem_cons_of_mem _ z)) q
  ow := fun j e hj q => by
    by_cases hji : j = i
    · subst hji
      have e1 := lk_st_same q
      subst e1
      have hl' := lk_lt q
      rw [st_len, ← h.len] at hl'
      exact ⟨p, vs, ds, List.getElem?_set_self hl', rfl, upd_same, h.fh.free hH, hl⟩
    · rw [lk_st_ne hji] at q
      rw [List.getElem?_set_ne (Ne.symm hji)]
      have hjO : j ∈ O := (List.mem_cons.mp hj).elim (fun z => absurd z hji) id
      obtain ⟨p', vs', ds', h1, h2, h3, h4, h5⟩ := h.ow j e hjO q
      exact ⟨p', vs', ds', h1, h2, by rw [upd_ne (ne_of_none h3 hH)]; exact h3, h4, h5⟩
  ap := fun j k e e' p' hj hk q1 q2 q3 q4 => by
    by_cases hji : j = i
    · by_cases hki : k = i
      · rw [hji, hki]
      · exfalso
        subst hji
        rw [lk_st_ne hki] at q2
        rw [List.getElem?_set_ne (Ne.symm hki)] at q4
        have hl' := lk_lt q1
        rw [st_len, ← h.len] at hl'
        rw [List.getElem?_set_self hl'] at q3
        cases q3
        have hkO : k ∈ O := (List.mem_cons.mp hk).elim (fun z => absurd z hki) id
        obtain ⟨p2, _, _, h1, _, h3, _, _⟩ := h.ow k e' hkO q2
        rw [h1] at q4
        cases q4
        rw [hH] at h3
        cases h3
    · by_cases hki : k = i
      · exfalso
        subst hki
        rw [lk_st_ne hji] at q1
        rw [List.getElem?_set_ne (Ne.symm hji)] at q3
        have hl' := lk_lt q2
        rw [st_len, ← h.len] at hl'
        rw [List.getElem?_set_self hl'] at q4
        cases q4
        have hjO : j ∈ O := (List.mem_cons.mp hj).elim (fun z => absurd z hji) id
        obtain ⟨p2, _, _, h1, _, h3, _, _⟩ := h.ow j e hjO q1
        rw [h1] at q3
        cases q3
        rw [hH] at h3
        cases h3
      · rw [lk_st_ne hji] at q1
        rw [lk_st_ne hki] at q2
        rw [List.getElem?_set_ne (Ne.symm hji)] at q3
        rw [List.getElem?_set_ne (Ne.symm hki)] at q4
        exact h.ap j k e e' p' ((List.mem_cons.mp hj).elim (fun z => absurd z hji) id) ((List.mem_cons.mp hk).elim (fun z => absurd z hki) id) q1 q2 q3 q4
/-- the list of one's own at i is changed -/
theorem En.mut {i : Nat} {p : Addr} {ds ds' : List D} {vs vs' : List V} (h : En K C O F H σ ρ) (hi : i ∈ O) (he : lk ρ i = some (.lst ds)) (hp : σ[i]? = some (some (.ref p))) (hH : H p = some (.lst vs)) (hF : F p = none) (hl : RpL K C F ds' vs') :
    En K C O F (upd H p (.lst vs')) σ (st ρ i (.lst ds')) where
  fh := fun b x e => by
    rw [upd_ne (ne_of_none e hF)]
    exact h.fh b x e
  len := by rw [st_len]; exact h.len
  pl := fun j e hj q => by
    have hji : j ≠ i := fun z => hj (z ▸ hi)
    rw [lk_st_ne hji] at q
    exact h.pl j e hj q
  ow := fun j e hj q => by
    by_cases hji : j = i
    · subst hji
      have e1 := lk_st_same q
      subst e1
      exact ⟨p, vs', ds', hp, rfl, upd_same, hF, hl⟩
    · rw [lk_st_ne hji] at q
      obtain ⟨p', vs2, ds2, h1, h2, h3, h4, h5⟩ := h.ow j e hj q
      have hne : p' ≠ p := fun z => by
        subst z
        exact hji (h.ap j i e _ _ hj hi q he h1 hp)
      exact ⟨p', vs2, ds2, h1, h2, by rw [upd_ne hne]; exact h3, h4, h5⟩
  ap := fun j k e e' p' hj hk q1 q2 q3 q4 => by
    have fx : ∀ {m : Nat} {x : D}, lk (st ρ i (.lst ds')) m = some x → ∃ y, lk ρ m = some y := fun {m x} q => by
      by_cases hm : m = i
      · exact ⟨_, hm ▸ he⟩
      · rw [lk_st_ne hm] at q
        exact ⟨_, q⟩
    obtain ⟨y1, z1⟩ := fx q1
    obtain ⟨y2, z2⟩ := fx q2
    exact h.ap j k y1 y2 p' hj hk z1 z2 q3 q4
/-- the list of one's own at i is frozen -/
theorem En.freeze {i : Nat} {O' : List Nat} (h : En K C O F H σ ρ) (hO : ∀ j, j ∈ O' ↔ j ∈ O ∧ j ≠ i) : ∃ F', Same F F' ∧ En K C O' F' H σ ρ ∧ (∀ a, F' a ≠ F a → i ∈ O ∧ ∃ d, lk ρ i = some d ∧ σ[i]? = some (some (.ref a))) := by
  by_cases hi : i ∈ O
  · cases e : lk ρ i with
    | none =>
      refine ⟨F, Same.refl _, ⟨h.fh, h.len, fun j d hj q => ?_, fun j d hj q => h.ow j d ((hO j).mp hj).1 q, fun j k d e p hj hk => h.ap j k d e p ((hO j).mp hj).1 ((hO k).mp hk).1⟩, fun a z => absurd rfl z⟩
      by_cases hji : j = i
      · subst hji
        rw [e] at q
        cases q
      · exact h.pl j d (fun z => hj ((hO j).mpr ⟨z, hji⟩)) q
    | some d =>
      obtain ⟨p, vs, ds, h1, rfl, h3, h4, h5⟩ := h.ow i d hi e
      have sm : Same F (upd F p (.lst vs)) := same_upd h4
      refine ⟨upd F p (.lst vs), sm, ⟨fun b x q => ?_, h.len, fun j d' hj q => ?_, fun j d' hj q => ?_, fun j k d e p hj hk => h.ap j k d e p ((hO j).mp hj).1 ((hO k).mp hk).1⟩, fun a z => ?_⟩
      · by_cases hb : b = p
        · subst hb
          rw [upd_same] at q
          rw [← q]
          exact h3
        · rw [upd_ne hb] at q
          exact h.fh b x q
      · by_cases hji : j = i
        · subst hji
          rw [e] at q
          cases q
          exact ⟨.ref p, h1, p, vs, rfl, upd_same, RpL.mono sm ds vs h5⟩
        · obtain ⟨v, q1, q2⟩ := h.pl j d' (fun z => hj ((hO j).mpr ⟨z, hji⟩)) q
          exact ⟨v, q1, Rp.mono sm d' v q2⟩
      · obtain ⟨hjO, hji⟩ := (hO j).mp hj
        obtain ⟨p', vs', ds', g1, g2, g3, g4, g5⟩ := h.ow j d' hjO q
        have hne : p' ≠ p := fun z => by
          subst z
          exact hji (h.ap j i _ _ _ hjO hi q e g1 h1)
        exact ⟨p', vs', ds', g1, g2, g3, by rw [upd_ne hne]; exact g4, RpL.mono sm ds' vs' g5⟩
      · by_cases ha : a = p
        · subst ha
          exact ⟨hi, _, rfl, h1⟩
        · rw [upd_ne ha] at z
          exact absurd rfl z
  · refine ⟨F, Same.refl _, ⟨h.fh, h.len, fun j d hj q => h.pl j d (fun z => hj ((hO j).mpr ⟨z, fun w => hi (w ▸ z)⟩)) q, fun j d hj q => h.ow j d ((hO j).mp hj).1 q, fun j k d e p hj hk => h.ap j k d e p ((hO j).mp hj).1 ((hO k).mp hk).1⟩, fun a z => absurd rfl z⟩
end
end DL
namespace DL
open PySem PySem.Spec PyProof.Rows L2
abbrev DF := Rho → Option D
abbrev DFs := Rho → Option (List D)
abbrev DB := Rho → Option Bool
/-- what a computed value leaves -/
def Got (K : PySem.W.Frag) (C : Addr) (F H : Hp) (d : D) (Q : VK) : Prop := ∀ v F' H', Stp F H F' H' → Rp K C F' d v → Q v H'
theorem Got.step {K : PySem.W.Frag} {C : Addr} {F H F' H' : Hp} {d : D} {Q : VK} (h : Got K C F H d Q) (s : Stp F H F' H') : Got K C F' H' d Q := fun v F2 H2 s2 r => h v F2 H2 (s.trans s2) r
def tD (K : PySem.W.Frag) (C : Addr) (O : List Nat) (f : DF) : TE := fun σ H Q => ∃ F ρ d, En K C O F H σ ρ ∧ f ρ = some d ∧ Got K C F H d Q
def tDA (K : PySem.W.Frag) (C : Addr) (O : List Nat) (f : DFs) : TA := fun σ H Q => ∃ F ρ ds, En K C O F H σ ρ ∧ f ρ = some ds ∧ ∀ vs F' H', Stp F H F' H' → RpL K C F' ds vs → Q vs H'
def tDT (K : PySem.W.Frag) (C : Addr) (O : List Nat) (g : DB) : TT := fun σ H Q => ∃ F ρ b, En K C O F H σ ρ ∧ g ρ = some b ∧ ∀ F' H', Stp F H F' H' → Q b H'
def rD2 (K : PySem.W.Frag) (C : Addr) (op : D → D → Option D) : R2 := fun x y H Q => ∃ F d e c, Same F H ∧ Rp K C F d x ∧ Rp K C F e y ∧ op d e = some c ∧ Got K C F H c Q
def rDL (K : PySem.W.Frag) (C : Addr) (op : List D → Option D) : List V → Hp → VK → Prop := fun xs H Q => ∃ F ds c, Same F H ∧ RpL K C F ds xs ∧ op ds = some c ∧ Got K C F H c Q
abbrev DE (X : Cx) (C : Addr) (O : List Nat) (e : Expr) (f : DF) : Prop := PE X e (tD X.K C O f)
abbrev DT (X : Cx) (C : Addr) (O : List Nat) (e : Expr) (g : DB) : Prop := PT X e (tDT X.K C O g)
abbrev DWt (X : Cx) (C : Addr) (O : List Nat) (e : Expr) (g : DB) : Prop := PW X e (tDT X.K C O g)
abbrev DA (X : Cx) (C : Addr) (O : List Nat) (es : List Expr) (f : DFs) : Prop := PA X es (tDA X.K C O f)
abbrev OpD (X : Cx) (C : Addr) (f : Value → Value → Sem Value) (op : D → D → Option D) : Prop := OpR X f (rD2 X.K C op)
abbrev CallD (X : Cx) (C : Addr) (f : Value) (op : List D → Option D) : Prop := CallR X f (rDL X.K C op)
abbrev IxD (X : Cx) (C : Addr) (op : D → D → Option D) : Prop := IxR X (rD2 X.K C op)
section
variable {X : Cx}
theorem PEw {e : Expr} {t t' : TE} (h : PE X e t) (w : ∀ σ H Q, t' σ H Q → t σ H Q) : PE X e t' := ⟨fun pins s σ H Q I q => h.run pins s σ H Q I (w σ H Q q)⟩
theorem PTw {e : Expr} {t t' : TT} (h : PT X e t) (w : ∀ σ H Q, t' σ H Q → t σ H Q) : PT X e t' := ⟨fun pins s σ H Q I q => h.run pins s σ H Q I (w σ H Q q)⟩
theorem PWw {e : Expr} {t t' : TT} (h : PW X e t) (w : ∀ σ H Q, t' σ H Q → t σ H Q) : PW X e t' := ⟨fun wh pins s σ H Q I q => h.run wh pins s σ H Q I (w σ H Q q)⟩
theorem PAw {es : List Expr} {t t' : TA} (h : PA X es t) (w : ∀ σ H Q, t' σ H Q → t σ H Q) : PA X es t' := ⟨fun pos pins s σ H Q I q => h.run pos pins s σ H Q I (w σ H Q q)⟩
theorem PSw {e : Stmt} {t t' : TS} (h : PS X e t) (w : ∀ D σ H, t' D σ H → t D σ H) : PS X e t' := ⟨fun pins s σ H D I q => h.run pins s σ H D I (w D σ H q)⟩
theorem PSsw {e : List Stmt} {t t' : TS} (h : PSs X e t) (w : ∀ D σ H, t' D σ H → t D σ H) : PSs X e t' := ⟨fun pins s σ H D I q => h.run pins s σ H D I (w D σ H q)⟩
theorem OpRw {f : Value → Value → Sem Value} {r r' : R2} (h : OpR X f r) (w : ∀ x y H Q, r' x y H Q → r x y H Q) : OpR X f r' := fun pins s σ H x y v u Q I rx ry q => h pins s σ H x y v u Q I rx ry (w x y H Q q)
theorem CallRw {f : Value} {r r' : List V → Hp → VK → Prop} (h : CallR X f r) (w : ∀ xs H Q, r' xs H Q → r xs H Q) : CallR X f r' := fun pins s σ H xs us Q I r q => h pins s σ H xs us Q I r (w xs H Q q)
end
def dv (i : Nat) : DF := fun ρ => lk ρ i
def dc (d : D) : DF := fun _ => some d
def d2 (op : D → D → Option D) (f g : DF) : DF := fun ρ => (f ρ).bind fun x => (g ρ).bind fun y => op x y
def d1 (op : D → Option D) (f : DF) : DF := fun ρ => (f ρ).bind op
def dnil : DFs := fun _ => some []
def dcons (f : DF) (g : DFs) : DFs := fun ρ => (f ρ).bind fun x => (g ρ).bind fun xs => some (x :: xs)
def dL (op : List D → Option D) (f : DFs) : DF := fun ρ => (f ρ).bind op
def asB : D → Option Bool
  | .bl b => some b
  | _ => none
theorem asB_some {d : D} {b : Bool} (h : asB d = some b) : d = .bl b := by
  cases d <;> first | (cases h; rfl) | cases h
def bV (f : DF) : DB := fun ρ => (f ρ).bind asB
def dB (g : DB) : DF := fun ρ => (g ρ).bind fun b => some (.bl b)
def bAnd (g h : DB) : DB := fun ρ => (g ρ).bind fun b => if b = true then h ρ else some false
def bOr (g h : DB) : DB := fun ρ => (g ρ).bind fun b => if b = true then some true else h ρ
def bNot (g : DB) : DB := fun ρ => (g ρ).bind fun b => some (!b)
def dIf (g : DB) (f h : DF) : DF := fun ρ => (g ρ).bind fun b => if b = true then f ρ else h ρ
def opTup (ds : List D) : Option D := if ds.length ≤ 100000 then some (.tup ds) else none
def opLst (ds : List D) : Option D := if ds.length ≤ 100000 then some (.lst ds) else none
section
variable {X : Cx} {C : Addr} {O : List Nat} {a b c e : Expr} {es : List Expr} {f g h : DF} {fs : DFs} {p q r : DB} {pos : Pos}
theorem sz100 {n : Nat} (h : n ≤ 100000) : n ≤ sizeLine := Nat.le_trans h (by decide)
theorem de_var (i : Nat) {x : Str} (hN : X.N[i]? = some x := by rfl) (hv : Vis X.env.scope x := by first | exact Or.inl rfl | exact Or.inr (Or.inl rfl) | exact Or.inr (Or.inr rfl)) (hi : i ∉ O := by decide)
    (hd : (x == ("__debug__" : Str)) = false := by decide) (hcd : (x == ("__classdict__" : Str)) = false := by decide) : DE X C O (.Name x pos) (dv i) :=
  PEw (pe_var hN hv hd hcd) fun σ H Q ⟨F, ρ, d, E, hf, k⟩ => by
    obtain ⟨v, h1, h2⟩ := E.pl i d hi hf
    exact ⟨v, h1, k v F H (Stp.refl E.fh) h2⟩
theorem de_int {i : Int} {j : Nat} : DE X C O (.Constant (.int i) j pos) (dc (.int i)) := PEw pe_int fun σ H Q ⟨F, ρ, d, E, hf, k⟩ => by
  cases hf
  exact k (.int i) F H (Stp.refl E.fh) rfl
theorem de_bl {i : Bool} {j : Nat} : DE X C O (.Constant (.bool i) j pos) (dc (.bl i)) := PEw pe_bl fun σ H Q ⟨F, ρ, d, E, hf, k⟩ => by
  cases hf
  exact k (.bl i) F H (Stp.refl E.fh) rfl
theorem de_non {j : Nat} : DE X C O (.Constant .none j pos) (dc .non) := PEw pe_non fun σ H Q ⟨F, ρ, d, E, hf, k⟩ => by
  cases hf
  exact k .non F H (Stp.refl E.fh) rfl
theorem bind_some {α β : Type} {o : Option α} {k : α → Option β} {y : β} (h : o.bind k = some y) : ∃ x, o = some x ∧ k x = some y := by
  cases o with
  | none => cases h
  | some x => exact ⟨x, rfl, h⟩
/-- two in a row -/
theorem two {K : PySem.W.Frag} {op : D → D → Option D} {σ : L2.St} {H : Hp} {Q : VK} (hw : tD K C O (d2 op f g) σ H Q) : tOp (rD2 K C op) (tD K C O f) (tD K C O g) σ H Q := by
  obtain ⟨F, ρ, d, E, hf, k⟩ := hw
  obtain ⟨x, h1, hf⟩ := bind_some hf
  obtain ⟨y, h2, hf⟩ := bind_some hf
  refine ⟨F, ρ, x, E, h1, fun v F1 H1 s1 r1 => ⟨F1, ρ, y, E.step s1, h2, fun u F2 H2 s2 r2 => ?_⟩⟩
  exact ⟨F2, x, y, d, s2.fh, Rp.mono s2.ff x v r1, r2, hf, k.step (s1.trans s2)⟩
theorem de_op {op : Operator} {o : D → D → Option D} (ho : OpD X C (binaryOp op) o) (ha : DE X C O a f) (hb : DE X C O b g) : DE X C O (.BinOp a op b pos) (d2 o f g) := PEw (pe_op ho ha hb) fun _ _ _ hw => two hw
theorem de_cmp {op : CmpOp} {o : D → D → Option D} (ho : OpD X C (compareOp op) o) (ha : DE X C O a f) (hb : DE X C O b g) (hm : behindInMarks op b = false := by first | exact nomark _ | rfl | with_unfolding_all rfl) : DE X C O (.Compare a [op] [b] pos) (d2 o f g) :=
  PEw (pe_cmpR ho ha hb hm) fun _ _ _ hw => two hw
theorem dt_cmp {op : CmpOp} {o : D → D → Option D} (ho : OpD X C (compareOp op) o) (ha : DE X C O a f) (hb : DE X C O b g) (hm : behindInMarks op b = false := by first | exact nomark _ | rfl | with_unfolding_all rfl) : DT X C O (.Compare a [op] [b] pos) (bV (d2 o f g)) :=
  PTw (pt_cmpR ho ha hb hm) fun σ H Q ⟨F, ρ, t, E, hf, k⟩ => by
    obtain ⟨d, h1, h2⟩ := bind_some hf
    refine two ⟨F, ρ, d, E, h1, fun v F' H' s' r' => ?_⟩
    obtain rfl := asB_some h2
    exact ⟨t, r', k F' H' s'⟩
def dCh (o o' : D → D → Option D) (f g h : DF) : DF := fun ρ => (f ρ).bind fun x => (g ρ).bind fun y => (o x y).bind fun z => (asB z).bind fun k => if k = true then (h ρ).bind fun w => o' y w else some (.bl false)
theorem three {K : PySem.W.Frag} {o o' : D → D → Option D} {σ : L2.St} {H : Hp} {Q : VK} (hw : tD K C O (dCh o o' f g h) σ H Q) : tChain (rD2 K C o) (rD2 K C o') (tD K C O f) (tD K C O g) (tD K C O h) σ H Q := by
  obtain ⟨F, ρ, d, E, hf, k⟩ := hw
  obtain ⟨x, h1, hf1⟩ := bind_some hf
  obtain ⟨y, h2, hf2⟩ := bind_some hf1
  obtain ⟨z, h3, hf3⟩ := bind_some hf2
  obtain ⟨t, h4, hf4⟩ := bind_some hf3
  obtain rfl := asB_some h4
  clear hf hf1 hf2 hf3
  refine ⟨F, ρ, x, E, h1, fun v F1 H1 s1 r1 => ⟨F1, ρ, y, E.step s1, h2, fun u F2 H2 s2 r2 => ⟨F2, x, y, _, s2.fh, Rp.mono s2.ff x v r1, r2, h3, fun z' F3 H3 s3 r3 => ?_⟩⟩⟩
  refine ⟨t, r3, ?_⟩
  cases t with
  | true =>
    rw [if_pos rfl] at hf4 ⊢
    obtain ⟨w', h5, hf5⟩ := bind_some hf4
    refine ⟨F3, ρ, w', E.step (s1.trans (s2.trans s3)), h5, fun w4 F4 H4 s4 r4 => ?_⟩
    exact ⟨F4, y, w', d, s4.fh, Rp.mono (s3.ff.trans s4.ff) y u r2, r4, hf5, k.step (s1.trans (s2.trans (s3.trans s4)))⟩
  | false =>
    rw [if_neg Bool.false_ne_true] at hf4 ⊢
    cases hf4
    exact k _ F3 H3 (s1.trans (s2.trans s3)) rfl
theorem de_chain {op op' : CmpOp} {o o' : D → D → Option D} (ho : OpD X C (compareOp op) o) (ho' : OpD X C (compareOp op') o') (ha : DE X C O a f) (hb : DE X C O b g) (hc : DE X C O c h)
    (hm : lastMarks [op, op'] [b, c] = false := by with_unfolding_all rfl) : DE X C O (.Compare a [op, op'] [b, c] pos) (dCh o o' f g h) := PEw (pe_chain ho ho' ha hb hc hm) fun _ _ _ hw => three hw
theorem dt_chain {op op' : CmpOp} {o o' : D → D → Option D} (ho : OpD X C (compareOp op) o) (ho' : OpD X C (compareOp op') o') (ha : DE X C O a f) (hb : DE X C O b g) (hc : DE X C O c h)
    (hm : lastMarks [op, op'] [b, c] = false := by with_unfolding_all rfl) : DT X C O (.Compare a [op, op'] [b, c] pos) (bV (dCh o o' f g h)) :=
  PTw (pt_chain ho ho' ha hb hc hm) fun σ H Q ⟨F, ρ, t, E, hf, k⟩ => by
    obtain ⟨d, h1, h2⟩ := bind_some hf
    refine three ⟨F, ρ, d, E, h1, fun v F' H' s' r' => ?_⟩
    obtain rfl := asB_some h2
    exact ⟨t, r', k F' H' s'⟩
theorem dt_val (ha : DE X C O a f) (he : ∀ whole, isTrue a X.env whole = (do let v ← whole; standAt a.pos; holding [v] (truthy v)) := by intro _; rfl) : DT X C O a (bV f) :=
  PTw (pt_val ha he) fun σ H Q ⟨F, ρ, t, E, hf, k⟩ => by
    obtain ⟨d, h1, h2⟩ := bind_some hf
    refine ⟨F, ρ, d, E, h1, fun v F' H' s' r' => ?_⟩
    obtain rfl := asB_some h2
    exact ⟨t, r', k F' H' s'⟩
theorem and_rd {K : PySem.W.Frag} {σ : L2.St} {H : Hp} {Q : Bool → Hp → Prop} (hw : tDT K C O (bAnd p q) σ H Q) : tAnd (tDT K C O p) (tDT K C O q) σ H Q := by
  obtain ⟨F, ρ, t, E, hf, k⟩ := hw
  obtain ⟨d, h1, hf⟩ := bind_some hf
  refine ⟨F, ρ, d, E, h1, fun F1 H1 s1 => ?_⟩
  cases d with
  | true =>
    rw [if_pos rfl] at hf ⊢
    exact ⟨F1, ρ, t, E.step s1, hf, fun F2 H2 s2 => k F2 H2 (s1.trans s2)⟩
  | false =>
    rw [if_neg Bool.false_ne_true] at hf ⊢
    cases hf
    exact k F1 H1 s1
theorem or_rd {K : PySem.W.Frag} {σ : L2.St} {H : Hp} {Q : Bool → Hp → Prop} (hw : tDT K C O (bOr p q) σ H Q) : tOr (tDT K C O p) (tDT K C O q) σ H Q := by
  obtain ⟨F, ρ, t, E, hf, k⟩ := hw
  obtain ⟨d, h1, hf⟩ := bind_some hf
  refine ⟨F, ρ, d, E, h1, fun F1 H1 s1 => ?_⟩
  cases d with
  | false =>
    rw [if_neg Bool.false_ne_true] at hf ⊢
    exact ⟨F1, ρ, t, E.step s1, hf, fun F2 H2 s2 => k F2 H2 (s1.trans s2)⟩
  | true =>
    rw [if_pos rfl] at hf ⊢
    cases hf
    exact k F1 H1 s1
variable {rest : List Expr}
theorem dw_and1 (ha : DT X C O a p) : DWt X C O (.BoolOp .And [a] pos) p := pw_and1 ha
theorem dw_or1 (ha : DT X C O a p) : DWt X C O (.BoolOp .Or [a] pos) p := pw_or1 ha
theorem dw_and (ha : DT X C O a p) (hb : DWt X C O (.BoolOp .And (b :: rest) pos) q) : DWt X C O (.BoolOp .And (a :: b :: rest) pos) (bAnd p q) := PWw (pw_and ha hb) fun _ _ _ hw => and_rd hw
theorem dw_or (ha : DT X C O a p) (hb : DWt X C O (.BoolOp .Or (b :: rest) pos) q) : DWt X C O (.BoolOp .Or (a :: b :: rest) pos) (bOr p q) := PWw (pw_or ha hb) fun _ _ _ hw => or_rd hw
theorem dt_w (h : DWt X C O e p) : DT X C O e p := h.pt
theorem dt_not (ha : DT X C O a p) : DT X C O (.UnaryOp .Not a pos) (bNot p) := PTw (pt_not ha) fun σ H Q ⟨F, ρ, t, E, hf, k⟩ => by
  obtain ⟨d, h1, hf⟩ := bind_some hf
  cases hf
  exact ⟨F, ρ, d, E, h1, k⟩
/-- and, or, not as values (of bools) -/
theorem de_one {op : BoolOp} (ha : DE X C O a f) : DE X C O (.BoolOp op [a] pos) f := pe_one ha
def dAnd (f g : DF) : DF := fun ρ => (f ρ).bind fun x => (asB x).bind fun b => if b = true then g ρ else some (.bl false)
def dOr (f g : DF) : DF := fun ρ => (f ρ).bind fun x => (asB x).bind fun b => if b = true then some (.bl true) else g ρ
def dNot (f : DF) : DF := fun ρ => (f ρ).bind fun x => (asB x).bind fun b => some (.bl (!b))
theorem de_and (ha : DE X C O a f) (hb : DE X C O (.BoolOp .And (b :: rest) pos) g) : DE X C O (.BoolOp .And (a :: b :: rest) pos) (dAnd f g) := PEw (pe_and ha hb) fun σ H Q ⟨F, ρ, t, E, hf, k⟩ => by
  obtain ⟨x, h1, hf1⟩ := bind_some hf
  obtain ⟨d, h2, hf2⟩ := bind_some hf1
  obtain rfl := asB_some h2
  clear hf hf1
  have hf := hf2
  clear hf2
  refine ⟨F, ρ, _, E, h1, fun v F1 H1 s1 r1 => ⟨d, r1, ?_⟩⟩
  cases d with
  | true =>
    rw [if_pos rfl] at hf ⊢
    exact ⟨F1, ρ, t, E.step s1, hf, k.step s1⟩
  | false =>
    rw [if_neg Bool.false_ne_true] at hf ⊢
    cases hf
    exact k _ F1 H1 s1 rfl
theorem de_not (ha : DE X C O a f) : DE X C O (.UnaryOp .Not a pos) (dNot f) := PEw (pe_not ha) fun σ H Q ⟨F, ρ, t, E, hf, k⟩ => by
  obtain ⟨x, h1, hf1⟩ := bind_some hf
  obtain ⟨d, h2, hf2⟩ := bind_some hf1
  obtain rfl := asB_some h2
  clear hf hf1
  have hf := hf2
  clear hf2
  cases hf
  exact ⟨F, ρ, _, E, h1, fun v F1 H1 s1 r1 => ⟨d, r1, k _ F1 H1 s1 rfl⟩⟩
theorem de_if (ht : DT X C O c p) (ha : DE X C O a f) (hb : DE X C O b g) : DE X C O (.IfExp c a b pos) (dIf p f g) := PEw (pe_ifExp ht ha hb) fun σ H Q ⟨F, ρ, t, E, hf, k⟩ => by
  obtain ⟨d, h1, hf⟩ := bind_some hf
  refine ⟨F, ρ, d, E, h1, fun F1 H1 s1 => ?_⟩
  cases d with
  | true =>
    rw [if_pos rfl] at hf ⊢
    exact ⟨F1, ρ, t, E.step s1, hf, k.step s1⟩
  | false =>
    rw [if_neg Bool.false_ne_true] at hf ⊢
    exact ⟨F1, ρ, t, E.step s1, hf, k.step s1⟩
theorem da_nil : DA X C O [] dnil := PAw pa_nil fun σ H Q ⟨F, ρ, t, E, hf, k⟩ => by
  cases hf
  exact k [] F H (Stp.refl E.fh) RpL.nil
theorem da_cons (ha : DE X C O a f) (hr : DA X C O es fs) (hs : starEach (a :: es) X.env = (false, eval a X.env) :: starEach es X.env := by rfl) : DA X C O (a :: es) (dcons f fs) := PAw (pa_cons ha hr hs) fun σ H Q ⟨F, ρ, t, E, hf, k⟩ => by
  obtain ⟨x, h1, hf⟩ := bind_some hf
  obtain ⟨xs, h2, hf⟩ := bind_some hf
  cases hf
  exact ⟨F, ρ, x, E, h1, fun v F1 H1 s1 r1 => ⟨F1, ρ, xs, E.step s1, h2, fun vs F2 H2 s2 r2 => k _ F2 H2 (s1.trans s2) (RpL.cons (Rp.mono s2.ff x v r1) r2)⟩⟩
theorem de_tup {j : Nat} (ha : DA X C O es fs) : DE X C O (.Tuple es j pos) (dL opTup fs) := PEw (pe_tup ha) fun σ H Q ⟨F, ρ, t, E, hf, k⟩ => by
  obtain ⟨ds, h1, hf⟩ := bind_some hf
  unfold opTup at hf
  split at hf
  · rename_i hz
    cases hf
    refine ⟨F, ρ, ds, E, h1, fun vs F1 H1 s1 r1 => ⟨by rw [← r1.len]; exact sz100 hz, fun p hp => ?_⟩⟩
    have s2 := Stp.new (o := .tup vs) s1.fh hp
    exact k _ _ _ (s1.trans s2) ⟨p, vs, rfl, upd_same, RpL.mono s2.ff _ _ r1⟩
  · cases hf
theorem de_lst (ha : DA X C O es fs) : DE X C O (.List es pos) (dL opLst fs) := PEw (pe_lst ha) fun σ H Q ⟨F, ρ, t, E, hf, k⟩ => by
  obtain ⟨ds, h1, hf⟩ := bind_some hf
  unfold opLst at hf
  split at hf
  · rename_i hz
    cases hf
    refine ⟨F, ρ, ds, E, h1, fun vs F1 H1 s1 r1 => ⟨by rw [← r1.len]; exact sz100 hz, fun p hp => ?_⟩⟩
    have s2 := Stp.new (o := .lst vs) s1.fh hp
    exact k _ _ _ (s1.trans s2) ⟨p, vs, rfl, upd_same, RpL.mono s2.ff _ _ r1⟩
  · cases hf
theorem rdl_rd {K : PySem.W.Frag} {o : List D → Option D} {σ : L2.St} {H : Hp} {Q : VK} (hw : tD K C O (dL o fs) σ H Q) : tCB (rDL K C o) (tDA K C O fs) σ H Q := by
  obtain ⟨F, ρ, t, E, hf, k⟩ := hw
  obtain ⟨ds, h1, hf⟩ := bind_some hf
  exact ⟨F, ρ, ds, E, h1, fun vs F1 H1 s1 r1 => ⟨F1, ds, t, s1.fh, r1, hf, k.step s1⟩⟩
theorem de_callB {x : Str} {id : String} {p : Pos} {o : List D → Option D} (hc : CallD X C (.builtin id) o) (hg : Gl X x) (hm : X.mg x = none) (hv : bootBuiltins x = some (.builtin id)) (ha : DA X C O (e :: es) fs)
    (hn : x ≠ "__name__" := by decide) (hd : (x == ("__debug__" : Str)) = false := by decide) (he : starEach (e :: es) X.env = (false, eval e X.env) :: starEach es X.env := by rfl) (hpl : (backTo pos (starEach es X.env)).any (·.1) = false := by rfl) :
    DE X C O (.Call (.Name x p) (e :: es) [] pos) (dL o fs) := PEw (by first | exact pe_callB hc hg hm hv ha | exact pe_callB hc hg hm hv ha hn hd he hpl) fun _ _ _ hw => rdl_rd hw
theorem de_callTy {x : Str} {T : String} {p : Pos} {o : List D → Option D} (hc : CallD X C (.type T) o) (hg : Gl X x) (hm : X.mg x = none) (hv : bootBuiltins x = some (.type T)) (ha : DA X C O (e :: es) fs)
    (hn : x ≠ "__name__" := by decide) (hd : (x == ("__debug__" : Str)) = false := by decide) (he : starEach (e :: es) X.env = (false, eval e X.env) :: starEach es X.env := by rfl) (hpl : (backTo pos (starEach es X.env)).any (·.1) = false := by rfl) :
    DE X C O (.Call (.Name x p) (e :: es) [] pos) (dL o fs) := PEw (by first | exact pe_callTy hc hg hm hv ha | exact pe_callTy hc hg hm hv ha hn hd he hpl) fun _ _ _ hw => rdl_rd hw
/-- the promise of a pure def -/
def spD (K : PySem.W.Frag) (C : Addr) (m : List D → Option D) : Sp := fun vs H Q _ => ∃ F ds d, Same F H ∧ RpL K C F ds vs ∧ m ds = some d ∧ Got K C F H d Q
/-- a pure def that may be called by its name x -/
structure Cal (P : Program) (w : World) (K : PySem.W.Frag) (mg : Str → Option Value) (base : Heap) (C : Addr) (k : Nat) (x : Str) (ps : List Str) (m : List D → Option D) : Prop where
  ex : ∃ f fd, FnOk P w K mg base CX0 k f fd ps (spD K C m) ∧ mg x = some (.ref f) ∧ PySem.W.keepIn K (.ref f) = true ∧ Binds K fd ps []
theorem de_call {x : Str} {p : Pos} {k j : Nat} {ps : List Str} {m : List D → Option D} (cl : Cal X.prog X.w X.K X.mg X.base C k x ps m) (hr : Room j X.A) (hg : Gl X x) (ha : DA X C O (e :: es) fs) (hk : k ≤ j := by decide)
    (hdb : (x == ("__debug__" : Str)) = false := by decide) (he : starEach (e :: es) X.env = (false, eval e X.env) :: starEach es X.env := by rfl) (hpl : (backTo pos (starEach es X.env)).any (·.1) = false := by rfl) :
    DE X C O (.Call (.Name x p) (e :: es) [] pos) (dL m fs) := by
  obtain ⟨f, fd, F, hm, hkp, hb⟩ := cl.ex
  refine PEw (pe_call F (hr.mono hk) hg hm hkp hb .nil pass0 ha hdb he hpl) fun σ H Q ⟨F, ρ, t, E, hf, k⟩ => ?_
  obtain ⟨ds, h1, hf⟩ := bind_some hf
  refine ⟨F, ρ, ds, E, h1, fun vs F1 H1 s1 r1 => ?_⟩
  show spD X.K C m (vs ++ []) H1 Q E0
  rw [List.append_nil]
  exact ⟨F1, ds, t, s1.fh, r1, hf, k.step s1⟩
theorem de_ix {o : D → D → Option D} (ho : IxD X C o) (ha : DE X C O a f) (hb : DE X C O b g) (hs : PlainIx b := by exact fun _ _ => rfl) : DE X C O (.Subscript a b pos) (d2 o f g) := PEw (pe_ix ho ha hb hs) fun _ _ _ hw => two hw
end
end DL
namespace DL
open PySem PySem.Spec PyProof.Rows L2
mutual
def eqD : D → D → Bool
  | .non, .non => true
  | .bl a, .bl b => a == b
  | .bl a, .int j => (if a then 1 else 0) == j
  | .int i, .bl b => i == (if b then 1 else 0)
  | .int i, .int j => i == j
  | .str x, .str y => x == y
  | .tup xs, .tup ys => eqDs xs ys
  | .lst xs, .lst ys => eqDs xs ys
  | _, _ => false
def eqDs : List D → List D → Bool
  | [], [] => true
  | x :: xs, y :: ys => eqD x y && eqDs xs ys
  | _, _ => false
end
mutual
/-- nested at most n deep, no bells, no script within -/
def okD : Nat → D → Bool
  | _, .non => true
  | _, .bl _ => true
  | _, .int _ => true
  | _, .str x => PySem.PyData.strOk x
  | 0, .tup _ => false
  | 0, .lst _ => false
  | n + 1, .tup xs => okDs n xs
  | n + 1, .lst xs => okDs n xs
  | _, .bell _ => false
  | _, .scr _ => false
  | _, .ext _ => false
def okDs : Nat → List D → Bool
  | _, [] => true
  | n, x :: xs => okD n x && okDs n xs
end
mutual
def toP : D → PyData
  | .non => .none
  | .bl b => .bool b
  | .int i => .int i
  | .str x => .str x
  | .tup xs => .tuple (toPs xs)
  | .lst xs => .list (toPs xs)
  | .bell _ => .dict []
  | .scr _ => .dict []
  | .ext _ => .dict []
def toPs : List D → List PyData
  | [] => []
  | x :: xs => toP x :: toPs xs
end
mutual
theorem eqD_toP : ∀ (n : Nat) (d e : D), okD n d = true → okD n e = true → PyData.eqv (toP d) (toP e) = eqD d e
  | n, .non, e, h1, h2 => by cases e <;> simp [okD, toP, eqD, PyData.eqv] at h2 ⊢
  | n, .bl b, e, h1, h2 => by cases e <;> simp [okD, toP, eqD, PyData.eqv] at h2 ⊢
  | n, .int i, e, h1, h2 => by cases e <;> simp [okD, toP, eqD, PyData.eqv] at h2 ⊢
  | n, .str x, e, h1, h2 => by cases e <;> simp [okD, toP, eqD, PyData.eqv] at h2 ⊢
  | 0, .tup xs, e, h1, h2 => by simp [okD] at h1
  | 0, .lst xs, e, h1, h2 => by simp [okD] at h1
  | n + 1, .tup xs, e, h1, h2 => by
    cases e with
    | tup ys =>
      simp only [okD, toP, eqD, PyData.eqv] at h1 h2 ⊢
      exact eqDs_toP n xs ys h1 h2
    | _ => simp [okD, toP, eqD, PyData.eqv] at h2 ⊢
  | n + 1, .lst xs, e, h1, h2 => by
    cases e with
    | lst ys =>
      simp only [okD, toP, eqD, PyData.eqv] at h1 h2 ⊢
      exact eqDs_toP n xs ys h1 h2
    | _ => simp [okD, toP, eqD, PyData.eqv] at h2 ⊢
  | n, .bell _, e, h1, h2 => by cases n <;> simp [okD] at h1
  | n, .scr _, e, h1, h2 => by cases n <;> simp [okD] at h1
  | n, .ext _, e, h1, h2 => by cases n <;> simp [okD] at h1
theorem eqDs_toP : ∀ (n : Nat) (xs ys : List D), okDs n xs = true → okDs n ys = true → PyData.eqvAll (toPs xs) (toPs ys) = eqDs xs ys
  | n, [], ys, h1, h2 => by cases ys <;> simp [toPs, eqDs, PyData.eqvAll]
  | n, x :: xs, [], h1, h2 => by simp [toPs, eqDs, PyData.eqvAll]
  | n, x :: xs, y :: ys, h1, h2 => by
    simp only [okDs, Bool.and_eq_true] at h1 h2
    simp only [toPs, eqDs, PyData.eqvAll]
    rw [eqD_toP n x y h1.1 h2.1, eqDs_toP n xs ys h1.2 h2.2]
end
mutual
theorem okD_lay : ∀ (n : Nat) (d : D), okD n d = true → (toP d).canLay0 = true ∧ (toP d).depth ≤ n
  | n, .non, _ => by simp [toP, PyData.canLay0, PyData.depth]
  | n, .bl b, _ => by simp [toP, PyData.canLay0, PyData.depth]
  | n, .int i, _ => by simp [toP, PyData.canLay0, PyData.depth]
  | n, .str x, h => by cases n <;> simpa [okD, toP, PyData.canLay0, PyData.depth] using h
  | 0, .tup xs, h => by simp [okD] at h
  | 0, .lst xs, h => by simp [okD] at h
  | n + 1, .tup xs, h => by
    simp only [okD] at h
    obtain ⟨h1, h2⟩ := okDs_lay n xs h
    simp only [toP, PyData.canLay0, PyData.depth]
    exact ⟨h1, by omega⟩
  | n + 1, .lst xs, h => by
    simp only [okD] at h
    obtain ⟨h1, h2⟩ := okDs_lay n xs h
    simp only [toP, PyData.canLay0, PyData.depth]
    exact ⟨h1, by omega⟩
  | n, .bell _, h => by cases n <;> simp [okD] at h
  | n, .scr _, h => by cases n <;> simp [okD] at h
  | n, .ext _, h => by cases n <;> simp [okD] at h
theorem okDs_lay : ∀ (n : Nat) (ds : List D), okDs n ds = true → PyData.canLayAll0 (toPs ds) = true ∧ PyData.depthAll (toPs ds) ≤ n
  | n, [], _ => by simp [toPs, PyData.canLayAll0, PyData.depthAll]
  | n, x :: xs, h => by
    simp only [okDs, Bool.and_eq_true] at h
    obtain ⟨h1, h2⟩ := okD_lay n x h.1
    obtain ⟨h3, h4⟩ := okDs_lay n xs h.2
    simp only [toPs, PyData.canLayAll0, PyData.depthAll, h1, h3, Bool.and_self]
    exact ⟨trivial, by omega⟩
end
theorem shaped_ok {d : D} {n : Nat} (h : okD n d = true) (hn : n ≤ 64) : SeqAt.shaped (toP d) = true := by
  obtain ⟨h1, h2⟩ := okD_lay n d h
  unfold SeqAt.shaped
  rw [h1, decide_eq_true (Nat.le_trans h2 hn)]
  rfl
section
variable {K : PySem.W.Frag} {C : Addr} {H : Hp}
mutual
theorem Rp.dp : ∀ (n : Nat) (d : D) (v : V), okD n d = true → Rp K C H d v → Dp K H v (toP d)
  | _, .non, v, _, h => by
    have e : v = .non := h
    subst e
    exact .non
  | _, .bl b, v, _, h => by
    have e : v = .bl b := h
    subst e
    exact .bl b
  | _, .int i, v, _, h => by
    have e : v = .int i := h
    subst e
    exact .int i
  | _, .str x, v, _, h => by
    have e : v = .str x := h
    subst e
    exact .str x
  | 0, .tup xs, v, o, h => by simp [okD] at o
  | 0, .lst xs, v, o, h => by simp [okD] at o
  | n + 1, .tup ds, v, o, h => by
    simp only [Rp] at h
    simp only [okD] at o
    obtain ⟨a, xs, rfl, ha, hl⟩ := h
    simp only [toP]
    exact .tup (SqT.of ha) (RpL.dp n ds xs o hl)
  | n + 1, .lst ds, v, o, h => by
    simp only [Rp] at h
    simp only [okD] at o
    obtain ⟨a, xs, rfl, ha, hl⟩ := h
    simp only [toP]
    exact .lst (SqL.of ha) (RpL.dp n ds xs o hl)
  | n, .bell _, _, o, _ => by cases n <;> simp [okD] at o
  | n, .scr _, _, o, _ => by cases n <;> simp [okD] at o
  | n, .ext _, _, o, _ => by cases n <;> simp [okD] at o
theorem RpL.dp : ∀ (n : Nat) (ds : List D) (vs : List V), okDs n ds = true → RpL K C H ds vs → DpAll K H vs (toPs ds)
  | _, [], vs, _, h => by
    have e : vs = [] := h
    subst e
    simp only [toPs]
    exact .nil
  | n, d :: ds, vs, o, h => by
    simp only [RpL] at h
    simp only [okDs, Bool.and_eq_true] at o
    obtain ⟨x, r, rfl, h1, h2⟩ := h
    simp only [toPs]
    exact .cons (Rp.dp n d x o.1 h1) (RpL.dp n ds r o.2 h2)
end
end
theorem szl_ok {n : Nat} (h : n ≤ 16777216) : n ≤ sizeLine := by rw [sizeLine_eq]; exact h
def opAdd : D → D → Option D
  | .int a, .int b => some (.int (a + b))
  | .tup a, .tup b => if a.length + b.length ≤ 16777216 then some (.tup (a ++ b)) else none
  | .lst a, .lst b => if a.length + b.length ≤ 16777216 then some (.lst (a ++ b)) else none
  | .str a, .str b => if a.length + b.length ≤ 16777216 then some (.str (a ++ b)) else none
  | _, _ => none
def opSub : D → D → Option D
  | .int a, .int b => some (.int (a - b))
  | _, _ => none
/-- one factor below 2 ^ 64 -/
def mulOk (a b : Int) : Bool := (decide (-18446744073709551616 < a) && decide (a < 18446744073709551616)) || (decide (-18446744073709551616 < b) && decide (b < 18446744073709551616))
def opMul : D → D → Option D
  | .int a, .int b => if mulOk a b = true then some (.int (a * b)) else none
  | .lst a, .int k => if k ≤ 16777216 ∧ -16777216 ≤ k ∧ a.length * k.toNat ≤ 16777216 then some (.lst (List.replicate k.toNat a).flatten) else none
  | .tup a, .int k => if 2 ≤ k ∧ k ≤ 1000 ∧ a.length ≤ 1000 ∧ a.isEmpty = false then some (.tup (List.replicate k.toNat a).flatten) else none
  | _, _ => none
def opFdiv : D → D → Option D
  | .int a, .int b => if 0 < b ∧ b < 18446744073709551616 then some (.int (a / b)) else none
  | _, _ => none
def opMod : D → D → Option D
  | .int a, .int b => if 0 < b then some (.int (a % b)) else none
  | _, _ => none
def opPow : D → D → Option D
  | .int a, .int b => if 0 ≤ b ∧ b ≤ 1000 ∧ 0 ≤ a ∧ a ≤ 1000000 then some (.int (a ^ b.toNat)) else none
  | _, _ => none
def opNeg : D → Option D
  | .int a => some (.int (-a))
  | _ => none
def opEq (d e : D) : Option D := if okD 60 d = true ∧ okD 60 e = true then some (.bl (eqD d e)) else none
def opNe (d e : D) : Option D := if okD 60 d = true ∧ okD 60 e = true then some (.bl (!eqD d e)) else none
def asInts : List D → Option (List Int)
  | [] => some []
  | .int i :: r => (asInts r).map (i :: ·)
  | _ :: _ => none
def lexI : List Int → List Int → Bool
  | _, [] => false
  | [], _ :: _ => true
  | x :: xs, y :: ys => if x = y then lexI xs ys else decide (x < y)
def opLt : D → D → Option D
  | .int a, .int b => some (.bl (decide (a < b)))
  | .tup a, .tup b => (asInts a).bind fun x => (asInts b).bind fun y => some (.bl (lexI x y))
  | _, _ => none
def opLe : D → D → Option D
  | .int a, .int b => some (.bl (decide (a ≤ b)))
  | _, _ => none
def opGt : D → D → Option D
  | .int a, .int b => some (.bl (decide (b < a)))
  | .tup a, .tup b => (asInts a).bind fun x => (asInts b).bind fun y => some (.bl (lexI y x))
  | _, _ => none
def opGe : D → D → Option D
  | .int a, .int b => some (.bl (decide (b ≤ a)))
  | _, _ => none
def inD (d : D) (ds : List D) : Bool := ds.any fun z => eqD z d
def opIn : D → D → Option D
  | d, .lst ds => if okD 60 d = true ∧ okDs 60 ds = true then some (.bl (inD d ds)) else none
  | d, .tup ds => if okD 60 d = true ∧ okDs 60 ds = true then some (.bl (inD d ds)) else none
  | _, _ => none
def opNotIn : D → D → Option D
  | d, .lst ds => if okD 60 d = true ∧ okDs 60 ds = true then some (.bl (!inD d ds)) else none
  | d, .tup ds => if okD 60 d = true ∧ okDs 60 ds = true then some (.bl (!inD d ds)) else none
  | _, _ => none
def isNone : D → Bool
  | .non => true
  | _ => false
def opIs : D → D → Option D
  | .bl a, .bl b => some (.bl (decide (a = b)))
  | d, .non => some (.bl (isNone d))
  | _, _ => none
def opIsNot : D → D → Option D
  | .bl a, .bl b => some (.bl (!decide (a = b)))
  | d, .non => some (.bl (!isNone d))
  | _, _ => none
def ixNat (n : Nat) (i : Int) : Option Nat := if 0 ≤ i then (if i < n then some i.toNat else none) else if -(n : Int) ≤ i then some (i + n).toNat else none
def opIx : D → D → Option D
  | .tup xs, .int i => (ixNat xs.length i).bind fun j => xs[j]?
  | .lst xs, .int i => (ixNat xs.length i).bind fun j => xs[j]?
  | .scr xs, .int i => (ixNat xs.length i).bind fun j => xs[j]?.map D.int
  | _, _ => none
section
variable {X : Cx} {C : Addr}
theorem got0 {K : PySem.W.Frag} {F H : Hp} {d : D} {Q : VK} {v : V} (g : Got K C F H d Q) (fh : Same F H) (r : Rp K C F d v) : Q v H := g v F H (Stp.refl fh) r
theorem gotN {K : PySem.W.Frag} {F H : Hp} {d : D} {Q : VK} {p : Addr} {o : HO} (g : Got K C F H d Q) (fh : Same F H) (hp : H p = none) (r : Rp K C (upd F p o) d (.ref p)) : Q (.ref p) (upd H p o) := g _ _ _ (Stp.new fh hp) r
theorem intsRp {K : PySem.W.Frag} {F : Hp} : ∀ {ds : List D} {ns : List Int} {vs : List V}, asInts ds = some ns → RpL K C F ds vs → vs = ns.map V.int
  | [], ns, vs, e, h => by
    cases e
    exact h
  | .int i :: ds, ns, vs, e, h => by
    simp only [asInts, Option.map_eq_some_iff] at e
    obtain ⟨ns', e1, rfl⟩ := e
    obtain ⟨x, r, rfl, h1, h2⟩ := h
    have h1' : x = .int i := h1
    rw [h1', intsRp e1 h2]
    rfl
  | .non :: _, _, _, e, _ => by simp [asInts] at e
  | .bl _ :: _, _, _, e, _ => by simp [asInts] at e
  | .str _ :: _, _, _, e, _ => by simp [asInts] at e
  | .tup _ :: _, _, _, e, _ => by simp [asInts] at e
  | .lst _ :: _, _, _, e, _ => by simp [asInts] at e
  | .bell _ :: _, _, _, e, _ => by simp [asInts] at e
  | .scr _ :: _, _, _, e, _ => by simp [asInts] at e
  | .ext _ :: _, _, _, e, _ => by simp [asInts] at e
theorem RpL.nil_of {K : PySem.W.Frag} {F : Hp} {ds : List D} (h : RpL K C F ds []) : ds = [] := List.eq_nil_of_length_eq_zero h.len
theorem od_add : OpD X C (binaryOp .Add) opAdd := OpRw (op_add.or (op_catA.or (op_cat.or op_add_str))) fun x y H Q ⟨F, d, e, c, fh, r1, r2, ho, g⟩ => by
  cases d <;> cases e <;> first | (cases ho; done) | skip
  · cases ho
    exact .inl ⟨_, _, r1, r2, got0 g fh rfl⟩
  · simp only [opAdd] at ho
    split at ho
    · rename_i hz
      cases ho
      exact .inr (.inr (.inr ⟨_, _, r1, r2, szl_ok hz, got0 g fh rfl⟩))
    · cases ho
  · simp only [opAdd] at ho
    split at ho
    · rename_i hz
      cases ho
      obtain ⟨a, xs, rfl, ha, hl⟩ := r1
      obtain ⟨b, ys, rfl, hb, hm⟩ := r2
      have l1 := hl.len
      have l2 := hm.len
      refine .inr (.inl ⟨a, b, xs, ys, rfl, rfl, SqT.of (fh _ _ ha), SqT.of (fh _ _ hb), szl_ok (by omega), fun e0 => ?_, fun e0 e1 => ?_, fun e0 e1 p hp => ?_⟩)
      · subst e0
        obtain rfl := RpL.nil_of hl
        exact got0 g fh ⟨b, ys, rfl, hb, hm⟩
      · subst e1
        obtain rfl := RpL.nil_of hm
        rw [List.append_nil] at g
        exact got0 g fh ⟨a, xs, rfl, ha, hl⟩
      · have sm := same_upd (o := .tup (xs ++ ys)) (none_of_same fh hp)
        exact gotN g fh hp ⟨p, _, rfl, upd_same, RpL.append (RpL.mono sm _ _ hl) (RpL.mono sm _ _ hm)⟩
    · cases ho
  · simp only [opAdd] at ho
    split at ho
    · rename_i hz
      cases ho
      obtain ⟨a, xs, rfl, ha, hl⟩ := r1
      obtain ⟨b, ys, rfl, hb, hm⟩ := r2
      have l1 := hl.len
      have l2 := hm.len
      refine .inr (.inr (.inl ⟨a, b, xs, ys, rfl, rfl, fh _ _ ha, fh _ _ hb, szl_ok (by omega), fun p hp => ?_⟩))
      have sm := same_upd (o := .lst (xs ++ ys)) (none_of_same fh hp)
      exact gotN g fh hp ⟨p, _, rfl, upd_same, RpL.append (RpL.mono sm _ _ hl) (RpL.mono sm _ _ hm)⟩
    · cases ho
theorem od_sub : OpD X C (binaryOp .Sub) opSub := OpRw op_sub fun x y H Q ⟨F, d, e, c, fh, r1, r2, ho, g⟩ => by
  cases d <;> cases e <;> first | (cases ho; done) | skip
  cases ho
  exact ⟨_, _, r1, r2, got0 g fh rfl⟩
theorem mulOk_CMul {a b : Int} (h : mulOk a b = true) : CMul a b := by
  unfold mulOk at h
  simp only [Bool.or_eq_true, Bool.and_eq_true, decide_eq_true_eq] at h
  unfold CMul
  have e : (2 : Int) ^ 64 = 18446744073709551616 := by decide
  rw [e]
  exact h
theorem od_mul : OpD X C (binaryOp .Mult) opMul := OpRw (op_mul.or (op_rep.or op_repT)) fun x y H Q ⟨F, d, e, c, fh, r1, r2, ho, g⟩ => by
  cases d <;> cases e <;> first | (cases ho; done) | skip
  · simp only [opMul] at ho
    split at ho
    · rename_i hz
      cases ho
      exact .inl ⟨_, _, r1, r2, mulOk_CMul hz, got0 g fh rfl⟩
    · cases ho
  · simp only [opMul] at ho
    split at ho
    · rename_i hz
      cases ho
      obtain ⟨a, xs, rfl, ha, hl⟩ := r1
      have l1 := hl.len
      refine .inr (.inr ⟨a, _, xs, rfl, r2, SqT.of (fh _ _ ha), fun e0 => ?_, hz.1, hz.2.1, by omega, fun p hp => ?_⟩)
      · subst e0
        obtain rfl := RpL.nil_of hl
        exact absurd hz.2.2.2 (by simp)
      · exact gotN g fh hp ⟨p, _, rfl, upd_same, RpL.rep (RpL.mono (same_upd (none_of_same fh hp)) _ _ hl) _⟩
    · cases ho
  · simp only [opMul] at ho
    split at ho
    · rename_i hz
      cases ho
      obtain ⟨a, xs, rfl, ha, hl⟩ := r1
      have l1 := hl.len
      have e63 : (2 : Int) ^ 63 = 9223372036854775808 := by decide
      refine .inr (.inl ⟨a, _, xs, rfl, r2, fh _ _ ha, by rw [e63]; omega, by rw [e63]; omega, szl_ok (by rw [← l1]; exact hz.2.2), fun p hp => ?_⟩)
      exact gotN g fh hp ⟨p, _, rfl, upd_same, RpL.rep (RpL.mono (same_upd (none_of_same fh hp)) _ _ hl) _⟩
    · cases ho
theorem od_fdiv : OpD X C (binaryOp .FloorDiv) opFdiv := OpRw op_fdivW fun x y H Q ⟨F, d, e, c, fh, r1, r2, ho, g⟩ => by
  cases d <;> cases e <;> first | (cases ho; done) | skip
  simp only [opFdiv] at ho
  split at ho
  · rename_i hz
    cases ho
    exact ⟨_, _, r1, r2, wide_div (b := 64) hz.1 (by omega) (by decide) (by decide), got0 g fh rfl⟩
  · cases ho
theorem od_mod : OpD X C (binaryOp .Mod) opMod := OpRw op_mod fun x y H Q ⟨F, d, e, c, fh, r1, r2, ho, g⟩ => by
  cases d <;> cases e <;> first | (cases ho; done) | skip
  simp only [opMod] at ho
  split at ho
  · rename_i hz
    cases ho
    exact ⟨_, _, r1, r2, hz, got0 g fh rfl⟩
  · cases ho
theorem od_pow : OpD X C (binaryOp .Pow) opPow := OpRw op_pow fun x y H Q ⟨F, d, e, c, fh, r1, r2, ho, g⟩ => by
  cases d <;> cases e <;> first | (cases ho; done) | skip
  simp only [opPow] at ho
  split at ho
  · rename_i hz
    cases ho
    exact ⟨_, _, r1, r2, ⟨hz.1, by omega, by omega⟩, got0 g fh rfl⟩
  · cases ho
theorem od_eq (hu : X.A.units + 64 < cLine) : OpD X C (compareOp .Eq) opEq := OpRw (op_eqD hu) fun x y H Q ⟨F, d, e, c, fh, r1, r2, ho, g⟩ => by
  unfold opEq at ho
  split at ho
  · rename_i hz
    cases ho
    refine ⟨_, _, Rp.dp 60 d x hz.1 (Rp.mono fh _ _ r1), Rp.dp 60 e y hz.2 (Rp.mono fh _ _ r2), shaped_ok hz.1 (by decide), shaped_ok hz.2 (by decide), ?_⟩
    rw [eqD_toP 60 d e hz.1 hz.2]
    exact got0 g fh rfl
  · cases ho
theorem od_ne (hu : X.A.units + 64 < cLine) : OpD X C (compareOp .NotEq) opNe := OpRw (op_neD hu) fun x y H Q ⟨F, d, e, c, fh, r1, r2, ho, g⟩ => by
  unfold opNe at ho
  split at ho
  · rename_i hz
    cases ho
    refine ⟨_, _, Rp.dp 60 d x hz.1 (Rp.mono fh _ _ r1), Rp.dp 60 e y hz.2 (Rp.mono fh _ _ r2), shaped_ok hz.1 (by decide), shaped_ok hz.2 (by decide), ?_⟩
    rw [eqD_toP 60 d e hz.1 hz.2]
    exact got0 g fh rfl
  · cases ho
theorem lexI_eq : ∀ xs ys : List Int, HT.lexLt xs ys = lexI xs ys
  | [], [] => rfl
  | [], _ :: _ => rfl
  | _ :: _, [] => rfl
  | x :: xs, y :: ys => by
    rw [HT.lexLt_cons]
    show _ = if x = y then lexI xs ys else decide (x < y)
    rw [lexI_eq xs ys]
theorem op_gtT {X : Cx} (hu : X.A.units < cLine) : OpR X (compareOp .Gt) (fun x y H Q => ∃ (a b : Addr) (ns ms : List Int), x = .ref a ∧ y = .ref b ∧ SqT X.K H a (ns.map V.int) ∧ SqT X.K H b (ms.map V.int) ∧
  Q (.bl (Ob.lexAt (fun j => decide (ns.getD j 0 = ms.getD j 0)) (fun j => decide (ms.getD j 0 < ns.getD j 0)) (decide (ns.length > ms.length)) 0 (min ns.length ms.length))) H) := by
  intro pins s σ H x y v u Q I rx ry h
  obtain ⟨a, b, ns, ms, rfl, rfl, ha, hb, q⟩ := h
  cases rx
  cases ry
  obtain ⟨its, r1, p1, _⟩ := I.tuple ha
  obtain ⟨its2, r2, p2, _⟩ := I.tuple hb
  have i1 : IntsAre its ns := Vals.ints r1
  have i2 : IntsAre its2 ms := Vals.ints r2
  have e1 : its.toArray.size = ns.length := by rw [List.size_toArray]; exact i1.length
  have e2 : its2.toArray.size = ms.length := by rw [List.size_toArray]; exact i2.length
  have at1 : ∀ j (h1 : j < its.toArray.size), ∃ t, its.toArray[j] = .int (ns.getD j 0) t := fun j h1 => PyProof.Rows.IntsAre.int_at i1 _ _ (by simp at h1; simp [h1])
  have at2 : ∀ j (h1 : j < its2.toArray.size), ∃ t, its2.toArray[j] = .int (ms.getD j 0) t := fun j h1 => PyProof.Rows.IntsAre.int_at i2 _ _ (by simp at h1; simp [h1])
  have R := Ob.RcOp.tuples_gt (A := X.A) (s := s) (e := fun j => decide (ns.getD j 0 = ms.getD j 0)) (r := fun j => decide (ms.getD j 0 < ns.getD j 0)) p1 p2 hu (fun j h1 h2 => by
    obtain ⟨t, et⟩ := at1 j h1
    obtain ⟨t', et'⟩ := at2 j h2
    rw [et, et']
    have z : (ns.getD j 0 == ms.getD j 0) = decide (ns.getD j 0 = ms.getD j 0) := by
      by_cases q : ns.getD j 0 = ms.getD j 0
      · rw [decide_eq_true q]; exact beq_iff_eq.mpr q
      · rw [decide_eq_false q]; exact beq_eq_false_iff_ne.mpr q
    rw [← z]
    exact SeqAt.EqAt.int_int _ _ _ _) (fun j h1 h2 _ => by
    obtain ⟨t, et⟩ := at1 j h1
    obtain ⟨t', et'⟩ := at2 j h2
    rw [et, et']
    exact Ob.RcOp.gt_int _ _ _ _)
  rw [e1, e2] at R
  have z : wpAny (model X.prog X.w) X.A (compareOp .Gt (.ref a) (.ref b)) (EP X pins σ Q) X.xe s := R X.prog X.w X.xe (EP X pins σ Q) ⟨.bl _, H, I, rfl, q⟩
  exact z
theorem lexAt_shift (e r : Nat → Bool) (z : Bool) : ∀ (k i : Nat), Ob.lexAt e r z (i + 1) k = Ob.lexAt (fun j => e (j + 1)) (fun j => r (j + 1)) z i k
  | 0, i => rfl
  | k + 1, i => by
    rw [Ob.lexAt_succ, Ob.lexAt_succ, lexAt_shift e r z k (i + 1)]
theorem lexAt_gt : ∀ (ns ms : List Int), Ob.lexAt (fun j => decide (ns.getD j 0 = ms.getD j 0)) (fun j => decide (ms.getD j 0 < ns.getD j 0)) (decide (ns.length > ms.length)) 0 (min ns.length ms.length) = lexI ms ns
  | [], [] => rfl
  | [], _ :: _ => rfl
  | _ :: _, [] => by simp [Ob.lexAt_zero, lexI]
  | x :: xs, y :: ys => by
    have e : min (x :: xs).length (y :: ys).length = min xs.length ys.length + 1 := by simp only [List.length_cons]; omega
    rw [e, Ob.lexAt_succ, lexAt_shift]
    have e2 : decide ((x :: xs).length > (y :: ys).length) = decide (xs.length > ys.length) := by
      rw [List.length_cons, List.length_cons]
      exact decide_eq_decide.mpr (by omega)
    rw [e2]
    show (if decide (x = y) = true then Ob.lexAt (fun j => decide (xs.getD j 0 = ys.getD j 0)) (fun j => decide (ys.getD j 0 < xs.getD j 0)) (decide (xs.length > ys.length)) 0 (min xs.length ys.length) else decide (y < x)) = if y = x then lexI ys xs else decide (y < x)
    rw [lexAt_gt xs ys]
    by_cases h : x = y
    · rw [decide_eq_true h, if_pos rfl, if_pos h.symm]
    · rw [decide_eq_false h, if_neg Bool.false_ne_true, if_neg (fun z => h z.symm)]
theorem od_lt (hu : X.A.units < cLine) : OpD X C (compareOp .Lt) opLt := OpRw (op_lt.or (op_ltT hu)) fun x y H Q ⟨F, d, e, c, fh, r1, r2, ho, g⟩ => by
  cases d <;> cases e <;> first | (cases ho; done) | skip
  · cases ho
    exact .inl ⟨_, _, r1, r2, got0 g fh rfl⟩
  · obtain ⟨ns, e1, ho1⟩ := bind_some ho
    obtain ⟨ms, e2, ho2⟩ := bind_some ho1
    cases ho2
    obtain ⟨a, xs, rfl, ha, hl⟩ := r1
    obtain ⟨b, ys, rfl, hb, hm⟩ := r2
    rw [intsRp e1 hl] at ha
    rw [intsRp e2 hm] at hb
    refine .inr ⟨a, b, ns, ms, rfl, rfl, SqT.of (fh _ _ ha), SqT.of (fh _ _ hb), ?_⟩
    rw [lexI_eq]
    exact got0 g fh rfl
theorem od_gt (hu : X.A.units < cLine) : OpD X C (compareOp .Gt) opGt := OpRw (op_gt.or (op_gtT hu)) fun x y H Q ⟨F, d, e, c, fh, r1, r2, ho, g⟩ => by
  cases d <;> cases e <;> first | (cases ho; done) | skip
  · cases ho
    exact .inl ⟨_, _, r1, r2, got0 g fh rfl⟩
  · obtain ⟨ns, e1, ho1⟩ := bind_some ho
    obtain ⟨ms, e2, ho2⟩ := bind_some ho1
    cases ho2
    obtain ⟨a, xs, rfl, ha, hl⟩ := r1
    obtain ⟨b, ys, rfl, hb, hm⟩ := r2
    rw [intsRp e1 hl] at ha
    rw [intsRp e2 hm] at hb
    refine .inr ⟨a, b, ns, ms, rfl, rfl, SqT.of (fh _ _ ha), SqT.of (fh _ _ hb), ?_⟩
    rw [lexAt_gt]
    exact got0 g fh rfl
theorem od_le : OpD X C (compareOp .LtE) opLe := OpRw op_le fun x y H Q ⟨F, d, e, c, fh, r1, r2, ho, g⟩ => by
  cases d <;> cases e <;> first | (cases ho; done) | skip
  cases ho
  exact ⟨_, _, r1, r2, got0 g fh rfl⟩
theorem od_ge : OpD X C (compareOp .GtE) opGe := OpRw op_ge fun x y H Q ⟨F, d, e, c, fh, r1, r2, ho, g⟩ => by
  cases d <;> cases e <;> first | (cases ho; done) | skip
  cases ho
  exact ⟨_, _, r1, r2, got0 g fh rfl⟩
def rInT (K : PySem.W.Frag) : R2 := fun x y H Q => ∃ d ds, Dp K H x d ∧ Dp K H y (.tuple ds) ∧ SeqAt.shaped d = true ∧ SeqAt.shaped (.tuple ds) = true ∧ Q (.bl (ds.any fun z => PyData.eqv z d)) H
def rNotInT (K : PySem.W.Frag) : R2 := fun x y H Q => ∃ d ds, Dp K H x d ∧ Dp K H y (.tuple ds) ∧ SeqAt.shaped d = true ∧ SeqAt.shaped (.tuple ds) = true ∧ Q (.bl (!ds.any fun z => PyData.eqv z d)) H
theorem op_inT (hu : X.A.units + 65 < cLine) : OpR X (compareOp .In) (rInT X.K) := by
  intro pins s σ H x y v u Q I rx ry h
  obtain ⟨d, ds, hd, he, sd, se, q⟩ := h
  obtain ⟨as, r1⟩ := Dp.reads I d x v hd rx
  obtain ⟨bs, r2⟩ := Dp.reads I (.tuple ds) y u he ry
  exact SeqAt.in_tuple_reads r2 r1 (SeqAt.canLay_of_shaped se) (SeqAt.canLay_of_shaped sd) (room_in_shaped sd hu) ⟨.bl _, H, I, rfl, q⟩
theorem op_notInT (hu : X.A.units + 65 < cLine) : OpR X (compareOp .NotIn) (rNotInT X.K) := by
  intro pins s σ H x y v u Q I rx ry h
  obtain ⟨d, ds, hd, he, sd, se, q⟩ := h
  obtain ⟨as, r1⟩ := Dp.reads I d x v hd rx
  obtain ⟨bs, r2⟩ := Dp.reads I (.tuple ds) y u he ry
  exact SeqAt.notIn_tuple_reads r2 r1 (SeqAt.canLay_of_shaped se) (SeqAt.canLay_of_shaped sd) (room_in_shaped sd hu) ⟨.bl _, H, I, rfl, q⟩
theorem any_toP {d : D} (hd : okD 60 d = true) : ∀ {ds : List D}, okDs 60 ds = true → ((toPs ds).any fun z => PyData.eqv z (toP d)) = inD d ds
  | [], _ => by simp [toPs, inD]
  | x :: xs, h => by
    simp only [okDs, Bool.and_eq_true] at h
    simp only [toPs, inD, List.any_cons]
    rw [eqD_toP 60 x d h.1 hd, any_toP hd h.2]
    rfl
theorem okDs_tup {ds : List D} (h : okDs 60 ds = true) : okD 61 (.tup ds) = true := by simpa [okD] using h
theorem okDs_lst {ds : List D} (h : okDs 60 ds = true) : okD 61 (.lst ds) = true := by simpa [okD] using h
theorem od_in (hu : X.A.units + 65 < cLine) : OpD X C (compareOp .In) opIn := OpRw ((op_inD hu).or (op_inT hu)) fun x y H Q ⟨F, d, e, c, fh, r1, r2, ho, g⟩ => by
  cases e with
  | lst ds =>
    simp only [opIn] at ho
    split at ho
    · rename_i hz
      cases ho
      refine .inl ⟨toP d, toPs ds, Rp.dp 60 d x hz.1 (Rp.mono fh _ _ r1), ?_, shaped_ok hz.1 (by decide), ?_, ?_⟩
      · have := Rp.dp 61 (.lst ds) y (okDs_lst hz.2) (Rp.mono fh _ _ r2)
        simpa [toP] using this
      · have := shaped_ok (okDs_lst hz.2) (by decide)
        simpa [toP] using this
      · rw [any_toP hz.1 hz.2]
        exact got0 g fh rfl
    · cases ho
  | tup ds =>
    simp only [opIn] at ho
    split at ho
    · rename_i hz
      cases ho
      refine .inr ⟨toP d, toPs ds, Rp.dp 60 d x hz.1 (Rp.mono fh _ _ r1), ?_, shaped_ok hz.1 (by decide), ?_, ?_⟩
      · have := Rp.dp 61 (.tup ds) y (okDs_tup hz.2) (Rp.mono fh _ _ r2)
        simpa [toP] using this
      · have := shaped_ok (okDs_tup hz.2) (by decide)
        simpa [toP] using this
      · rw [any_toP hz.1 hz.2]
        exact got0 g fh rfl
    · cases ho
  | _ => cases ho
theorem od_notIn (hu : X.A.units + 65 < cLine) : OpD X C (compareOp .NotIn) opNotIn := OpRw ((op_notInD hu).or (op_notInT hu)) fun x y H Q ⟨F, d, e, c, fh, r1, r2, ho, g⟩ => by
  cases e with
  | lst ds =>
    simp only [opNotIn] at ho
    split at ho
    · rename_i hz
      cases ho
      refine .inl ⟨toP d, toPs ds, Rp.dp 60 d x hz.1 (Rp.mono fh _ _ r1), ?_, shaped_ok hz.1 (by decide), ?_, ?_⟩
      · have := Rp.dp 61 (.lst ds) y (okDs_lst hz.2) (Rp.mono fh _ _ r2)
        simpa [toP] using this
      · have := shaped_ok (okDs_lst hz.2) (by decide)
        simpa [toP] using this
      · rw [any_toP hz.1 hz.2]
        exact got0 g fh rfl
    · cases ho
  | tup ds =>
    simp only [opNotIn] at ho
    split at ho
    · rename_i hz
      cases ho
      refine .inr ⟨toP d, toPs ds, Rp.dp 60 d x hz.1 (Rp.mono fh _ _ r1), ?_, shaped_ok hz.1 (by decide), ?_, ?_⟩
      · have := Rp.dp 61 (.tup ds) y (okDs_tup hz.2) (Rp.mono fh _ _ r2)
        simpa [toP] using this
      · have := shaped_ok (okDs_tup hz.2) (by decide)
        simpa [toP] using this
      · rw [any_toP hz.1 hz.2]
        exact got0 g fh rfl
    · cases ho
  | _ => cases ho
theorem non_iff {K : PySem.W.Frag} {F : Hp} {d : D} {x : V} (r : Rp K C F d x) : decide (x = .non) = isNone d := by
  cases d with
  | non =>
    have e : x = .non := r
    subst e
    rfl
  | bl _ =>
    have e : x = .bl _ := r
    subst e
    rfl
  | int _ =>
    have e : x = .int _ := r
    subst e
    rfl
  | str _ =>
    have e : x = .str _ := r
    subst e
    rfl
  | tup _ => obtain ⟨a, xs, rfl, _⟩ := r; rfl
  | lst _ => obtain ⟨a, xs, rfl, _⟩ := r; rfl
  | bell _ => obtain ⟨a, dx, t, rfl, _⟩ := r; rfl
  | scr _ => obtain ⟨a, rfl, _⟩ := r; rfl
  | ext x => cases x with
    | dic _ => obtain ⟨a, rfl, _⟩ := r; rfl
theorem od_is : OpD X C (compareOp .Is) opIs := OpRw (op_isN.or op_is_bl) fun x y H Q ⟨F, d, e, c, fh, r1, r2, ho, g⟩ => by
  have nn : ∀ {d' : D}, Rp X.K C F d' x → opIs d' .non = some c → y = .non → y = .non ∧ Q (.bl (decide (x = .non))) H := fun {d'} rr hh e0 => by
    refine ⟨e0, ?_⟩
    rw [non_iff rr]
    cases d' <;> (cases hh; exact got0 g fh rfl)
  cases e with
  | non => exact .inl (nn r1 ho r2)
  | bl b =>
    cases d with
    | bl a =>
      cases ho
      exact .inr ⟨_, _, r1, r2, got0 g fh rfl⟩
    | _ => cases ho
  | _ => cases d <;> cases ho
theorem od_isnot : OpD X C (compareOp .IsNot) opIsNot := OpRw (op_notN.or op_isnot_bl) fun x y H Q ⟨F, d, e, c, fh, r1, r2, ho, g⟩ => by
  have nn : ∀ {d' : D}, Rp X.K C F d' x → opIsNot d' .non = some c → y = .non → y = .non ∧ Q (.bl (!decide (x = .non))) H := fun {d'} rr hh e0 => by
    refine ⟨e0, ?_⟩
    rw [non_iff rr]
    cases d' <;> (cases hh; exact got0 g fh rfl)
  cases e with
  | non => exact .inl (nn r1 ho r2)
  | bl b =>
    cases d with
    | bl a =>
      cases ho
      exact .inr ⟨_, _, r1, r2, got0 g fh rfl⟩
    | _ => cases ho
  | _ => cases d <;> cases ho
theorem ixNat_eq (n : Nat) (i : Int) : ixNat n i = ixN n i := rfl
theorem ix_d : IxD X C opIx := by
  intro vl sl pins s σ H x y v u Q I rx ry q
  refine (ix_tup.or ix_list) vl sl pins s σ H x y v u Q I rx ry ?_
  obtain ⟨F, d, e, c, fh, r1, r2, ho, g⟩ := q
  cases d <;> cases e <;> first | (cases ho; done) | skip
  · obtain ⟨j, e1, e2⟩ := bind_some ho
    obtain ⟨a, xs, rfl, ha, hl⟩ := r1
    obtain ⟨w, h1, h2⟩ := RpL.get hl e2
    refine .inl ⟨a, xs, _, w, rfl, r2, SqT.of (fh _ _ ha), ?_, got0 g fh h2⟩
    unfold atI
    rw [← hl.len, ← ixNat_eq, e1]
    exact h1
  · obtain ⟨j, e1, e2⟩ := bind_some ho
    obtain ⟨a, xs, rfl, ha, hl⟩ := r1
    obtain ⟨w, h1, h2⟩ := RpL.get hl e2
    refine .inr ⟨a, xs, _, w, rfl, r2, SqL.of (fh _ _ ha), ?_, got0 g fh h2⟩
    unfold atI
    rw [← hl.len, ← ixNat_eq, e1]
    exact h1
  · obtain ⟨j, e1, e2⟩ := bind_some ho
    obtain ⟨a, rfl, ha⟩ := r1
    obtain ⟨i', e3, rfl⟩ := Option.map_eq_some_iff.mp e2
    refine .inr ⟨a, _, _, .int i', rfl, r2, fh.seq ha, ?_, got0 g fh rfl⟩
    unfold atI
    rw [List.length_map, ← ixNat_eq, e1]
    show (List.map V.int _)[j]? = _
    rw [List.getElem?_map, e3]
    rfl
theorem de_neg {e : Expr} {O : List Nat} {f : DF} {pos : Pos} (h : DE X C O e f) : DE X C O (.UnaryOp .USub e pos) (d1 opNeg f) := PEw (pe_un un_neg h) fun σ H Q ⟨F, ρ, t, E, hf, k⟩ => by
  obtain ⟨x, h1, hf1⟩ := bind_some hf
  refine ⟨F, ρ, x, E, h1, fun v F1 H1 s1 r1 => ?_⟩
  cases x <;> first | (cases hf1; done) | skip
  cases hf1
  exact ⟨_, r1, k _ F1 H1 s1 rfl⟩
end
end DL
namespace DL
open PySem PySem.Spec PyProof.Rows L2
def opLen : List D → Option D
  | [.tup xs] => some (.int xs.length)
  | [.lst xs] => some (.int xs.length)
  | [.scr xs] => some (.int xs.length)
  | [.str x] => if x.length ≤ 16777216 then some (.int x.length) else none
  | _ => none
def opTuple : List D → Option D
  | [.tup xs] => some (.tup xs)
  | [.lst xs] => some (.tup xs)
  | _ => none
/-- sorted -/
def ins (a : Int) : List Int → List Int
  | [] => [a]
  | b :: r => if a ≤ b then a :: b :: r else b :: ins a r
def asBls : List D → Option (List Bool)
  | [] => some []
  | .bl i :: r => (asBls r).map (i :: ·)
  | _ :: _ => none
def opAll : List D → Option D
  | [.lst xs] => (asBls xs).bind fun bs => some (.bl (bs.all id))
  | _ => none
def opAny : List D → Option D
  | [.lst xs] => (asBls xs).bind fun bs => some (.bl (bs.any id))
  | _ => none
def minI : List Int → Option Int
  | [] => none
  | a :: r => some (r.foldl (fun x y => if y < x then y else x) a)
def opMin : List D → Option D
  | [.lst xs] => (asInts xs).bind fun ns => (minI ns).bind fun m => some (.int m)
  | [.int i, .int j] => some (.int (if j < i then j else i))
  | _ => none
def opInt : List D → Option D
  | [.int i] => some (.int i)
  | [.bl b] => some (.int (if b then 1 else 0))
  | _ => none
theorem minI_spec : ∀ {ns : List Int} {m : Int}, minI ns = some m → m ∈ ns ∧ ∀ y, y ∈ ns → m ≤ y
  | [], m, h => by cases h
  | a :: r, m, h => by
    have e : r.foldl (fun x y => if y < x then y else x) a = m := Option.some.inj h
    clear h
    revert a
    induction r with
    | nil =>
      intro a e
      have e' : a = m := e
      subst e'
      exact ⟨List.mem_cons_self, fun y hy => by
        rw [List.mem_singleton.mp hy]
        exact Int.le_refl _⟩
    | cons b r ih =>
      intro a e
      obtain ⟨h1, h2⟩ := ih (if b < a then b else a) e
      have hx := h2 _ List.mem_cons_self
      refine ⟨?_, fun y hy => ?_⟩
      · rcases List.mem_cons.mp h1 with e1 | h1
        · split at e1
          · rw [e1]
            exact List.mem_cons_of_mem _ List.mem_cons_self
          · rw [e1]
            exact List.mem_cons_self
        · exact List.mem_cons_of_mem _ (List.mem_cons_of_mem _ h1)
      · rcases List.mem_cons.mp hy with rfl | hy
        · split at hx <;> omega
        · rcases List.mem_cons.mp hy with rfl | hy
          · split at hx <;> omega
          · exact h2 y (List.mem_cons_of_mem _ hy)
section
variable {X : Cx} {C : Addr}
theorem RpL.one_inv {K : PySem.W.Frag} {F : Hp} {d : D} {vs : List V} (h : RpL K C F [d] vs) : ∃ v, vs = [v] ∧ Rp K C F d v := by
  obtain ⟨x, r, e, h1, h2⟩ := h
  have e2 : r = [] := h2
  subst e2
  exact ⟨x, e, h1⟩
theorem RpL.two_inv {K : PySem.W.Frag} {F : Hp} {d e : D} {vs : List V} (h : RpL K C F [d, e] vs) : ∃ v w, vs = [v, w] ∧ Rp K C F d v ∧ Rp K C F e w := by
  obtain ⟨x, r, e1, h1, h2⟩ := h
  obtain ⟨w, rfl, h3⟩ := RpL.one_inv h2
  exact ⟨x, w, e1, h1, h3⟩
theorem cd_len : CallD X C (.builtin "len") opLen := CallRw (call_len_seq.or call_len_str) fun xs H Q ⟨F, ds, c, fh, r, ho, g⟩ => by
  match ds, ho, r with
  | [.tup es], ho, r =>
    cases ho
    obtain ⟨v, rfl, a, xs, rfl, ha, hl⟩ := RpL.one_inv r
    refine .inl ⟨a, xs, rfl, .inr (SqT.of (fh _ _ ha)), ?_⟩
    rw [← hl.len]
    exact got0 g fh rfl
  | [.lst es], ho, r =>
    cases ho
    obtain ⟨v, rfl, a, xs, rfl, ha, hl⟩ := RpL.one_inv r
    refine .inl ⟨a, xs, rfl, .inl (SqL.of (fh _ _ ha)), ?_⟩
    rw [← hl.len]
    exact got0 g fh rfl
  | [.scr es], ho, r =>
    cases ho
    obtain ⟨v, rfl, a, rfl, ha⟩ := RpL.one_inv r
    refine .inl ⟨a, _, rfl, .inl (fh.seq ha), ?_⟩
    rw [List.length_map]
    exact got0 g fh rfl
  | [.str z], ho, r =>
    simp only [opLen] at ho
    split at ho
    · rename_i hz
      cases ho
      obtain ⟨v, rfl, h⟩ := RpL.one_inv r
      have e : v = .str z := h
      subst e
      exact .inr ⟨z, rfl, szl_ok hz, got0 g fh rfl⟩
    · cases ho
theorem cd_tuple : CallD X C (.type "tuple") opTuple := CallRw call_tuple_of fun xs H Q ⟨F, ds, c, fh, r, ho, g⟩ => by
  match ds, ho, r with
  | [.tup es], ho, r =>
    cases ho
    obtain ⟨v, rfl, a, xs, rfl, ha, hl⟩ := RpL.one_inv r
    exact ⟨a, xs, rfl, .inr ⟨SqT.of (fh _ _ ha), got0 g fh ⟨a, xs, rfl, ha, hl⟩⟩⟩
  | [.lst es], ho, r =>
    cases ho
    obtain ⟨v, rfl, a, xs, rfl, ha, hl⟩ := RpL.one_inv r
    exact ⟨a, xs, rfl, .inl ⟨SqL.of (fh _ _ ha), fun l hn => gotN g fh hn ⟨l, xs, rfl, upd_same, RpL.mono (same_upd (none_of_same fh hn)) _ _ hl⟩⟩⟩
theorem blsRp {K : PySem.W.Frag} {F : Hp} : ∀ {ds : List D} {ns : List Bool} {vs : List V}, asBls ds = some ns → RpL K C F ds vs → vs = ns.map V.bl
  | [], ns, vs, e, h => by
    cases e
    exact h
  | .bl i :: ds, ns, vs, e, h => by
    simp only [asBls, Option.map_eq_some_iff] at e
    obtain ⟨ns', e1, rfl⟩ := e
    obtain ⟨x, r, rfl, h1, h2⟩ := h
    have h1' : x = .bl i := h1
    rw [h1', blsRp e1 h2]
    rfl
  | .non :: _, _, _, e, _ => by simp [asBls] at e
  | .int _ :: _, _, _, e, _ => by simp [asBls] at e
  | .str _ :: _, _, _, e, _ => by simp [asBls] at e
  | .tup _ :: _, _, _, e, _ => by simp [asBls] at e
  | .lst _ :: _, _, _, e, _ => by simp [asBls] at e
  | .bell _ :: _, _, _, e, _ => by simp [asBls] at e
  | .scr _ :: _, _, _, e, _ => by simp [asBls] at e
  | .ext _ :: _, _, _, e, _ => by simp [asBls] at e
theorem cd_all (hc : X.calm = true) : CallD X C (.builtin "all") opAll := CallRw (cr_all hc) fun xs H Q ⟨F, ds, c, fh, r, ho, g⟩ => by
  match ds, ho, r with
  | [.lst es], ho, r =>
    obtain ⟨ns, e1, ho1⟩ := bind_some ho
    cases ho1
    obtain ⟨v, rfl, a, xs, rfl, ha, hl⟩ := RpL.one_inv r
    rw [blsRp e1 hl] at ha
    exact ⟨a, ns, rfl, SqL.of (fh _ _ ha), got0 g fh rfl⟩
theorem cd_any (hc : X.calm = true) : CallD X C (.builtin "any") opAny := CallRw (cr_any hc) fun xs H Q ⟨F, ds, c, fh, r, ho, g⟩ => by
  match ds, ho, r with
  | [.lst es], ho, r =>
    obtain ⟨ns, e1, ho1⟩ := bind_some ho
    cases ho1
    obtain ⟨v, rfl, a, xs, rfl, ha, hl⟩ := RpL.one_inv r
    rw [blsRp e1 hl] at ha
    exact ⟨a, ns, rfl, SqL.of (fh _ _ ha), got0 g fh rfl⟩
theorem le_uniq_min {ns : List Int} {m m' : Int} (h1 : m ∈ ns) (h2 : ∀ y, y ∈ ns → m ≤ y) (h3 : m' ∈ ns) (h4 : ∀ y, y ∈ ns → m' ≤ y) : m = m' := Int.le_antisymm (h2 m' h3) (h4 m h1)
theorem cd_min (hc : X.calm = true) : CallD X C (.builtin "min") opMin := CallRw ((cr_min hc).or (call_min2 hc)) fun xs H Q ⟨F, ds, c, fh, r, ho, g⟩ => by
  match ds, ho, r with
  | [.lst es], ho, r =>
    obtain ⟨ns, e1, ho1⟩ := bind_some ho
    obtain ⟨m, e2, ho2⟩ := bind_some ho1
    cases ho2
    obtain ⟨v, rfl, a, xs, rfl, ha, hl⟩ := RpL.one_inv r
    rw [intsRp e1 hl] at ha
    obtain ⟨s1, s2⟩ := minI_spec e2
    refine .inl ⟨a, ns, rfl, SqL.of (fh _ _ ha), List.length_pos_of_mem s1, fun m' h1 h2 => ?_⟩
    rw [le_uniq_min h1 h2 s1 s2]
    exact got0 g fh rfl
  | [.int i, .int j], ho, r =>
    cases ho
    obtain ⟨v, w, rfl, h1, h2⟩ := RpL.two_inv r
    rw [Rp.int h1, Rp.int h2]
    exact .inr ⟨i, j, rfl, got0 g fh rfl⟩
theorem cd_int : CallD X C (.type "int") opInt := CallRw call_int1 fun xs H Q ⟨F, ds, c, fh, r, ho, g⟩ => by
  match ds, ho, r with
  | [.int i], ho, r =>
    cases ho
    obtain ⟨v, rfl, h⟩ := RpL.one_inv r
    rw [Rp.int h]
    exact .inl ⟨i, rfl, got0 g fh rfl⟩
  | [.bl i], ho, r =>
    cases ho
    obtain ⟨v, rfl, h⟩ := RpL.one_inv r
    rw [Rp.bl h]
    exact .inr ⟨i, rfl, got0 g fh rfl⟩
def opIsi (T : String) : D → Option D
  | .non => some (.bl false)
  | .bl _ => some (.bl (T == "bool" || T == "int"))
  | .int _ => some (.bl (T == "int"))
  | .str _ => some (.bl (T == "str"))
  | .tup _ => some (.bl (T == "tuple"))
  | .lst _ => some (.bl (T == "list"))
  | _ => none
theorem isi_tab {K : PySem.W.Frag} {T : String} (hT : T = "int" ∨ T = "bool" ∨ T = "tuple" ∨ T = "list" ∨ T = "str") : PySem.W.kitOne K (.type "NoneType") (.type T) = some false ∧
    PySem.W.kitOne K (.type "bool") (.type T) = some (T == "bool" || T == "int") ∧ PySem.W.kitOne K (.type "int") (.type T) = some (T == "int") ∧ PySem.W.kitOne K (.type "str") (.type T) = some (T == "str") ∧
    PySem.W.kitOne K (.type "tuple") (.type T) = some (T == "tuple") ∧ PySem.W.kitOne K (.type "list") (.type T) = some (T == "list") := by
  rcases hT with rfl | rfl | rfl | rfl | rfl <;> refine ⟨?_, ?_, ?_, ?_, ?_, ?_⟩ <;> exact kit_ty (by decide +kernel)
variable {O : List Nat} {e : Expr} {f : DF} {pos p p' : Pos}
theorem isi_val {K : PySem.W.Frag} {F H : Hp} {T : String} {d c : D} {v : V} {Q : VK} (hT : T = "int" ∨ T = "bool" ∨ T = "tuple" ∨ T = "list" ∨ T = "str") (fh : Same F H) (r : Rp K C F d v) (ho : opIsi T d = some c) (g : Got K C F H c Q) : rIsi K [v, .ty T] H Q := by
  obtain ⟨t1, t2, t3, t4, t5, t6⟩ := isi_tab (K := K) hT
  have go : ∀ {t : Value} {b : Bool}, TyOf K H v t → PySem.W.kitOne K t (.type T) = some b → c = .bl b → rIsi K [v, .ty T] H Q := fun {t b} ty hk e => by
    subst e
    exact ⟨v, .ty T, t, .type T, b, rfl, .ty T, .base ty, hk, got0 g fh rfl⟩
  cases d with
  | non =>
    cases ho
    have e : v = .non := r
    subst e
    exact go .non t1 rfl
  | bl b =>
    cases ho
    have e : v = .bl b := r
    subst e
    exact go (.bl b) t2 rfl
  | int i =>
    cases ho
    have e : v = .int i := r
    subst e
    exact go (.int i) t3 rfl
  | str z =>
    cases ho
    have e : v = .str z := r
    subst e
    exact go (.str z) t4 rfl
  | tup ds =>
    cases ho
    obtain ⟨a, xs, rfl, ha, _⟩ := r
    exact go (.tup (fh _ _ ha)) t5 rfl
  | lst ds =>
    cases ho
    obtain ⟨a, xs, rfl, ha, _⟩ := r
    exact go (.lst (fh _ _ ha)) t6 rfl
  | bell _ => cases ho
  | scr _ => cases ho
  | ext _ => cases ho
/-- isinstance(e, T), T a name of a built-in class -/
theorem de_isi {T : String} {x : Str} (hT : T = "int" ∨ T = "bool" ∨ T = "tuple" ∨ T = "list" ∨ T = "str") (ha : DE X C O e f) (hg : Gl X "isinstance") (hm : X.mg "isinstance" = none) (hg2 : Gl X x) (hm2 : X.mg x = none) (hv : bootBuiltins x = some (.type T))
    (hn2 : x ≠ "__name__" := by decide) (hd2 : (x == ("__debug__" : Str)) = false := by decide)
    (he : starEach [e, .Name x p'] X.env = (false, eval e X.env) :: starEach [.Name x p'] X.env := by rfl) (he2 : starEach [.Name x p'] X.env = (false, eval (.Name x p') X.env) :: starEach [] X.env := by rfl) (hpl : (backTo pos (starEach [.Name x p'] X.env)).any (·.1) = false := by rfl) :
    DE X C O (.Call (.Name "isinstance" p) [e, .Name x p'] [] pos) (d1 (opIsi T) f) := by
  have hp : PE X (.Name x p') (tC (.ty T)) := pe_bltn hg2 hm2 hv rfl hn2 hd2
  refine PEw (pe_callB call_isi hg hm PyProof.Rows.boot_isinstance (pa_cons ha (pa_cons hp pa_nil he2) he) (by decide) (by decide) he hpl) fun σ H Q ⟨F, ρ, t, E, hf, k⟩ => ?_
  obtain ⟨d, h1, hf1⟩ := bind_some hf
  exact ⟨F, ρ, d, E, h1, fun v F1 H1 s1 r1 => isi_val hT s1.fh r1 hf1 (k.step s1)⟩
end
def cutL (xs : List D) (lo hi : Option Int) : List D := (xs.drop (HT.sIx xs.length 0 lo)).take (HT.sIx xs.length xs.length hi - HT.sIx xs.length 0 lo)
def opSl (lo hi : Option Int) : D → Option D
  | .tup xs => some (.tup (cutL xs lo hi))
  | .lst xs => some (.lst (cutL xs lo hi))
  | _ => none
def asIx : D → Option Int
  | .int i => some i
  | _ => none
abbrev DOx := Rho → Option (Option Int)
def oNo : DOx := fun _ => some none
def oIx (f : DF) : DOx := fun ρ => (f ρ).bind fun d => (asIx d).bind fun i => some (some i)
def dSl (f : DF) (l u : DOx) : DF := fun ρ => (f ρ).bind fun x => (l ρ).bind fun lo => (u ρ).bind fun hi => opSl lo hi x
end DL
namespace DL
open PySem PySem.Spec PyProof.Rows L2
theorem meets_enum1 {v : Value} {o : Obj} {H : Heap → Prop} (B : Begins v o H) :
    Meets (Builtin.«enumerate.__new__» ⟨[.type "enumerate", v], []⟩) (fun _ R s => H s.heap ∧
      R (.ok (.ret (.ref (s.heap.push o).objs.size))) { s with heap := (s.heap.push o).push { cls := .type "enumerate", data := .fields #[.none, .bool false, .ref s.heap.objs.size, rawInt 0, .none, .none] } }) :=
  .of_wp fun prog w A R s h => by
    obtain ⟨hp, g, d, tk, os⟩ := s; obtain ⟨h1, h⟩ := h
    have hsub := sub_enumerate
    have q1 : ∀ {A' : Around} {E : Value → Shared → Prop} {Q : Value → Shared → Prop}, Q (.ref hp.objs.size) ⟨hp.push o, g, d, tk, os⟩ → wpAny (model prog w) A' (pyIter v) Q E ⟨hp, g, d, tk, os⟩ :=
      fun q => B.iter prog w _ _ ⟨hp, g, d, tk, os⟩ _ h1 q
    wp_walk using q1
    refine wpAny_stack_any fun st => wpAny_pure ?_
    split
    · rename_i c _ _ _ _ _
      cases (c == Value.type "enumerate")
      · wp_walk using q1
        exact ⟨_, rfl, h⟩
      · wp_walk using q1
        exact ⟨_, rfl, h⟩
    · wp_walk using q1
      exact ⟨_, rfl, h⟩
theorem call_enum_begins {prog : Program} {w : World} {A : Around} {E : Value → Shared → Prop} {s : Shared} {v : Value} {o : Obj} {H : Heap → Prop} {Q : Value → Shared → Prop} (B : Begins v o H) (h1 : H s.heap)
    (h : ∀ h', IsEnum h' (s.heap.objs.size + 1) s.heap.objs.size 0 .none → h'.get? s.heap.objs.size = some o → h'.objs.size = s.heap.objs.size + 2 →
      (∀ b o, s.heap.get? b = some o → h'.get? b = some o) → Q (.ref (s.heap.objs.size + 1)) { s with heap := h' }) :
    wpAny (model prog w) A (call (.type "enumerate") [v]) Q E s := by
  refine callType_new F.called_enumerate (by decide) (F.typeCall_enumerate_1 _) (F.newCall_enumerate_1 _) (fun obj => F.args_object_init_2 obj _) F.entry_enumerate_new
    (meets_enum1 B) ⟨h1, ?_⟩
  have hz : (s.heap.push o).objs.size = s.heap.objs.size + 1 := Heap.size_push ..
  show _ ∧ _
  rw [hz]
  have he : IsEnum ((s.heap.push o).push { cls := .type "enumerate", data := .fields #[.none, .bool false, .ref s.heap.objs.size, rawInt 0, .none, .none] }) (s.heap.objs.size + 1) s.heap.objs.size 0 .none := by
    have := Heap.get?_push_size (s.heap.push o) (o := { cls := .type "enumerate", data := .fields #[.none, .bool false, .ref s.heap.objs.size, rawInt 0, .none, .none] }) rfl
    rw [hz] at this; exact this
  refine ⟨⟨_, he, rfl⟩, h _ he (Heap.get?_push_of_some _ (Heap.get?_push_size _ B.free)) (by rw [Heap.size_push, hz]) fun b o x => Heap.get?_push_of_some _ (Heap.get?_push_of_some _ x)⟩
def IteT (K : PySem.W.Frag) (a : Addr) : It :=
  ⟨fun i H => ∃ (xs : List V) (x : V), SqT K H a xs ∧ xs[i]? = some x, fun i H v H' => ∃ T x, v = .ref T ∧ H T = none ∧ H' = upd H T (.tup [.int (i : Nat), x]) ∧ ∀ xs, SqT K H a xs → xs[i]? = some x, fun i H => ∃ xs : List V, SqT K H a xs ∧ xs.length = i⟩
theorem turn_enumT {P : Program} {w : World} {K : PySem.W.Frag} {elts : List Expr} {kk : Nat} {tpos : Pos} (a e it : Addr) (hai : a ≠ it) (hae : a ≠ e) :
    Turn P w K (.Tuple elts kk tpos) (IteT K a) [e, it] e (fun i h => (∃ old, IsEnum h e it ((i : Nat) : Int) old) ∧ h.IsTupleIter it a i ∧ e ≠ it) where
  mem := by simp
  obj := fun i h st b hb => by
    obtain ⟨⟨old, he⟩, ⟨o, ho, hc, hd⟩, _⟩ := st
    have e' : b = e ∨ b = it := by simpa using hb
    rcases e' with z | z
    · rw [z]; exact ⟨_, he, fun v q => nomatch q⟩
    · rw [z]; exact ⟨o, ho, fun v q => by rw [hd] at q; cases q⟩
  keep := fun i h h' st k => let ⟨⟨old, he⟩, hi, hne⟩ := st; ⟨⟨old, k e (by simp) _ he⟩, hi.at fun o q => k it (by simp) o q, hne⟩
  item := by
    intro X hP hw hK hc i pins s σ H E I hf st hg
    subst hP hw hK
    obtain ⟨⟨old, he⟩, hit, hne⟩ := st
    obtain ⟨xs, x, hq, hx⟩ := hg
    obtain ⟨its, rv, p, hz⟩ := I.tuple hq
    obtain ⟨u, hu, ru⟩ := rv.get hx
    have hel : e < s.heap.objs.size := Heap.lt_size he
    have hil : it < s.heap.objs.size := by obtain ⟨_, q, _⟩ := hit; exact Heap.lt_size q
    have hi : i < its.toArray.size := by
      have := (List.getElem?_eq_some_iff.mp hu).1
      simpa using this
    refine wpAny_pyNext_enum_itemC (Draws.tuple (A := X.A.in1) (I.ok.hd hc) it a hai its.toArray) he ⟨hit, p⟩ hi hne (by
      intro z
      rcases List.mem_cons.mp z with z | z
      · exact hne z
      · exact hae (List.mem_singleton.mp z).symm) fun x' h' tk hx' ho hst' hT hsz hk => ?_
    have ex : x' = u := by
      have h1 : its.toArray[i]? = some u := by simpa using hu
      rw [h1] at hx'
      exact (Option.some.inj hx').symm
    subst ex
    refine ⟨_, rfl, wpAny_letOwnedTupleGo_enum (s := { s with heap := h', toks := tk + 1 }) ho fun h'' he' sb => ?_⟩
    have hT2 : h''.get? s.heap.objs.size = some { cls := .type "tuple", data := .seq #[.int i tk, x'] } := (sb.2 _ (Nat.ne_of_gt hel)).trans hT
    have new : ObjOk X.prog X.w (upd H s.heap.objs.size (.tup [.int (i : Nat), x])) h'' s.heap.objs.size (.tup [.int (i : Nat), x]) :=
      ⟨by show 2 ≤ sizeLine; decide, [.int i tk, x'], .cons ⟨_, rfl⟩ (.cons ru .nil), ⟨_, hT2, rfl, _, rfl⟩⟩
    have I1 : Inv X pins σ (upd H s.heap.objs.size (.tup [.int (i : Nat), x])) { s with heap := h'', toks := tk + 1 } :=
      I.turnedNew (ch := [e, it]) (fun b ob hb q => (sb.2 b (fun z => hb (by simp [z]))).trans (hk b ob (fun z => hb (by simp [z])) (fun z => hb (by simp [z])) q)) hf (Nat.le_refl _) new
    refine ⟨.ref s.heap.objs.size, _, I1, rfl, ⟨_, x, rfl, I.hok.fresh (Nat.le_refl _), rfl, fun ys hy => by rw [I.tuple_inj hy hq]; exact hx⟩, ⟨⟨x', ?_⟩, hst'.1.at fun o q => (sb.2 it (Ne.symm hne)).trans q, hne⟩, fun b hb => ?_⟩
    · have e1 : ((i + 1 : Nat) : Int) = (i : Int) + 1 := by omega
      rw [e1]; exact he'
    · have hb' : b < s.heap.objs.size := by
        have e' : b = e ∨ b = it := by simpa using hb
        rcases e' with z | z
        · rw [z]; exact hel
        · rw [z]; exact hil
      rw [upd_ne (Nat.ne_of_lt hb')]
      exact (hf b hb).1
  done := by
    intro X hP hw hK hc i pins s σ H E I hf st hg
    subst hP hw hK
    obtain ⟨⟨old, he⟩, hit, hne⟩ := st
    obtain ⟨xs, hq, hx⟩ := hg
    obtain ⟨its, rv, p, hz⟩ := I.tuple hq
    obtain ⟨f0, f1, f2, f3, f4, f5⟩ := hf it (by simp)
    have hl := rv.length
    have ei : i = its.toArray.size := by
      rw [List.size_toArray, ← hl]
      exact hx.symm
    subst ei
    refine wpAny_pyNext_enum_endD (Draws.tuple (A := X.A.in1) (I.ok.hd hc) it a hai its.toArray) he ⟨hit, p⟩ fun h' eb => ⟨rfl, I.turned (t' := s.toks) (fun b o hb q => eb b o hb q) f0 f1 f3 f4 f5⟩
  self := fun A i s Q E st h => let ⟨⟨_, he⟩, _⟩ := st; wpAny_pyIter_enum he h
def iEnumT (K : PySem.W.Frag) (ta : TA) : TI := fun σ H R => ta σ H fun vs H1 => ∃ a xs, vs = [.ref a] ∧ H1 a = some (.tup xs) ∧ R (IteT K a) H1
theorem pi_enumT {X : Cx} {e : Expr} {ta : TA} {p pos tpos : Pos} {elts : List Expr} {kk : Nat} (hg : Gl X "enumerate") (hm : X.mg "enumerate" = none) (ha : PA X [e] ta) (hs : starEach [e] X.env = [(false, eval e X.env)] := by rfl) :
    PI X (.Tuple elts kk tpos) (.Call (.Name "enumerate" p) [e] [] pos) (iEnumT X.K ta) := by
  refine ⟨fun pins s σ H R I h => ?_⟩
  refine Call_ (ld_blt I hg hm boot_enumerate (PyProof.Rows.callWith_type1 (thn (ha.run pos pins s σ H _ I h) fun us s1 ⟨vs, H1, I1, r1, q1⟩ => ?_) hs rfl))
  obtain ⟨a, xs, ex, hq, q⟩ := q1
  subst ex
  cases r1 with
  | cons r rr =>
    cases rr
    cases r
    obtain ⟨its, rv, p', hz⟩ := I1.tuple (SqT.of hq)
    have hal : a < s1.heap.objs.size := p'.lt
    refine call_enum_begins (begins_tuple a its.toArray) p' fun h' he hit hsz hk => wpAny_pyIter_enum he ?_
    have I2 : Inv X pins σ H1 { s1 with heap := h' } := I1.kept (t' := s1.toks) hk
    refine ⟨s1.heap.objs.size + 1, [s1.heap.objs.size + 1, s1.heap.objs.size], _, _, H1, rfl, I2, turn_enumT a (s1.heap.objs.size + 1) s1.heap.objs.size (Nat.ne_of_lt hal) (Nat.ne_of_lt (Nat.lt_succ_of_lt hal)), ⟨⟨.none, he⟩, ⟨_, hit, rfl, rfl⟩, Nat.succ_ne_self _⟩, fun b hb => ?_, q⟩
    have e' : b = s1.heap.objs.size + 1 ∨ b = s1.heap.objs.size := by simpa using hb
    have hle : s1.heap.objs.size ≤ b := by
      rcases e' with z | z
      · rw [z]; exact Nat.le_add_right _ _
      · rw [z]; exact Nat.le_refl _
    exact I1.fpOk hle (I1.hok.fresh hle)
theorem PIor {X : Cx} {tg e : Expr} {w w' : TI} (h : PI X tg e w) (h' : PI X tg e w') : PI X tg e (fun σ H R => w σ H R ∨ w' σ H R) :=
  ⟨fun pins s σ H R I q => q.elim (h.run pins s σ H R I) (h'.run pins s σ H R I)⟩
theorem PIw {X : Cx} {tg e : Expr} {w w' : TI} (h : PI X tg e w) (k : ∀ σ H R, w' σ H R → w σ H R) : PI X tg e w' := ⟨fun pins s σ H R I q => h.run pins s σ H R I (k σ H R q)⟩
/-- J yields ds, whatever is made meanwhile -/
def JD (K : PySem.W.Frag) (C : Addr) (J : It) (F : Hp) (ds : List D) : Prop := ∀ i F1 H1, Same F F1 → Same F1 H1 → (i = ds.length → J.stop i H1) ∧
  ∀ d, ds[i]? = some d → J.go i H1 ∧ ∀ x H2, J.yld i H1 x H2 → ∃ F2, Stp F1 H1 F2 H2 ∧ Rp K C F2 d x
def tDI (K : PySem.W.Frag) (C : Addr) (O : List Nat) (f : DFs) : TI := fun σ H R => ∃ F ρ ds, En K C O F H σ ρ ∧ f ρ = some ds ∧ ∀ J F' H', Stp F H F' H' → JD K C J F' ds → R J H'
abbrev DI (X : Cx) (C : Addr) (O : List Nat) (tg e : Expr) (f : DFs) : Prop := PI X tg e (tDI X.K C O f)
def asSeq : D → Option (List D)
  | .tup xs => some xs
  | .lst xs => some xs
  | _ => none
def iSeq (f : DF) : DFs := fun ρ => (f ρ).bind asSeq
def rngD (a : Int) (n : Nat) : List D := (List.range n).map fun (i : Nat) => D.int (a + (i : Int))
def opRng1 : List D → Option (List D)
  | [.int n] => if -4611686018427387904 ≤ n ∧ n < 4611686018427387904 then some (rngD 0 n.toNat) else none
  | _ => none
def opRng2 : List D → Option (List D)
  | [.int a, .int b] => if -4611686018427387904 ≤ a ∧ a < 4611686018427387904 ∧ -4611686018427387904 ≤ b ∧ b < 4611686018427387904 then some (rngD a (b - a).toNat) else none
  | _ => none
def iRng1 (f : DFs) : DFs := fun ρ => (f ρ).bind opRng1
def iRng2 (f : DFs) : DFs := fun ρ => (f ρ).bind opRng2
def enumD (xs : List D) : List D := (List.range xs.length).zipWith (fun i d => D.tup [.int (i : Nat), d]) xs
def iEn (f : DFs) : DFs := fun ρ => (f ρ).bind fun ds => match ds with
  | [.tup xs] => some (enumD xs)
  | [.lst xs] => some (enumD xs)
  | _ => none
section
variable {K : PySem.W.Frag} {C : Addr} {F H : Hp} {a b : Addr} {xs ys : List V} {ds es : List D}
theorem jd_list (h : F a = some (.lst xs)) (hl : RpL K C F ds xs) : JD K C (Itl K a) F ds := fun i F1 H1 s1 s2 => by
  have ha : SqL K H1 a xs := SqL.of (s2 _ _ (s1 _ _ h))
  refine ⟨fun hi => ⟨xs, ha, by rw [hi, hl.len]; exact Nat.le_refl _⟩, fun d hd => ?_⟩
  obtain ⟨v, hv, r⟩ := RpL.get hl hd
  refine ⟨⟨xs, v, ha, hv⟩, fun x H2 y => ?_⟩
  obtain ⟨rfl, y⟩ := y
  have e := y xs ha
  rw [hv] at e
  cases e
  exact ⟨F1, Stp.refl s2, Rp.mono s1 d _ r⟩
theorem jd_tup (h : F a = some (.tup xs)) (hl : RpL K C F ds xs) : JD K C (Itt K a) F ds := fun i F1 H1 s1 s2 => by
  have ha : SqT K H1 a xs := SqT.of (s2 _ _ (s1 _ _ h))
  refine ⟨fun hi => ⟨xs, ha, by rw [hi, hl.len]; exact Nat.le_refl _⟩, fun d hd => ?_⟩
  obtain ⟨v, hv, r⟩ := RpL.get hl hd
  refine ⟨⟨xs, v, ha, hv⟩, fun x H2 y => ?_⟩
  obtain ⟨rfl, y⟩ := y
  have e := y xs ha
  rw [hv] at e
  cases e
  exact ⟨F1, Stp.refl s2, Rp.mono s1 d _ r⟩
theorem rngD_len (a : Int) (n : Nat) : (rngD a n).length = n := by
  unfold rngD
  rw [List.length_map, List.length_range]
theorem rngD_get {a : Int} {n i : Nat} {d : D} (h : (rngD a n)[i]? = some d) : i < n ∧ d = .int (a + (i : Int)) := by
  unfold rngD at h
  rw [List.getElem?_map] at h
  obtain ⟨j, h1, h2⟩ := Option.map_eq_some_iff.mp h
  obtain ⟨h3, h4⟩ := List.getElem?_eq_some_iff.mp h1
  rw [List.getElem_range] at h4
  rw [List.length_range] at h3
  subst h4
  exact ⟨h3, h2.symm⟩
theorem jd_rng {lo : Int} {n : Nat} : JD K C (Itr lo n) F (rngD lo n) := fun i F1 H1 s1 s2 => by
  refine ⟨fun hi => by
    rw [hi, rngD_len]
    exact Nat.le_refl _, fun d hd => ?_⟩
  obtain ⟨h1, rfl⟩ := rngD_get hd
  refine ⟨h1, fun x H2 y => ?_⟩
  obtain ⟨rfl, rfl⟩ := y
  exact ⟨F1, Stp.refl s2, rfl⟩
theorem enumD_len (xs : List D) : (enumD xs).length = xs.length := by
  unfold enumD
  rw [List.length_zipWith, List.length_range, Nat.min_self]
theorem enumD_get {xs : List D} {i : Nat} {d : D} (h : (enumD xs)[i]? = some d) : ∃ c, xs[i]? = some c ∧ d = .tup [.int (i : Nat), c] := by
  unfold enumD at h
  rw [List.getElem?_zipWith] at h
  cases e1 : (List.range xs.length)[i]? with
  | none =>
    rw [e1] at h
    cases h
  | some j =>
    cases e2 : xs[i]? with
    | none =>
      rw [e1, e2] at h
      cases h
    | some c =>
      rw [e1, e2] at h
      obtain ⟨h3, h4⟩ := List.getElem?_eq_some_iff.mp e1
      rw [List.getElem_range] at h4
      subst h4
      exact ⟨c, rfl, (Option.some.inj h).symm⟩
theorem pair_new {F1 H1 : Hp} (s2 : Same F1 H1) {T : Addr} {x y : V} {c d : D} (hT : H1 T = none) (r1 : Rp K C F1 c x) (r2 : Rp K C F1 d y) :
    ∃ F2, Stp F1 H1 F2 (upd H1 T (.tup [x, y])) ∧ Rp K C F2 (.tup [c, d]) (.ref T) := by
  have st := Stp.new (o := .tup [x, y]) s2 hT
  exact ⟨_, st, T, [x, y], rfl, upd_same, RpL.cons (Rp.mono st.ff c x r1) (RpL.cons (Rp.mono st.ff d y r2) RpL.nil)⟩
theorem jd_enumL (h : F a = some (.lst xs)) (hl : RpL K C F ds xs) : JD K C (Ite K a) F (enumD ds) := fun i F1 H1 s1 s2 => by
  have ha : SqL K H1 a xs := SqL.of (s2 _ _ (s1 _ _ h))
  refine ⟨fun hi => ⟨xs, ha, by rw [hi, enumD_len, hl.len]; exact Nat.le_refl _⟩, fun d hd => ?_⟩
  obtain ⟨c, hc, rfl⟩ := enumD_get hd
  obtain ⟨v, hv, r⟩ := RpL.get hl hc
  refine ⟨⟨xs, v, ha, hv⟩, fun x H2 y => ?_⟩
  obtain ⟨T, x', rfl, hT, rfl, y⟩ := y
  have e := y xs ha
  rw [hv] at e
  cases e
  exact pair_new s2 hT rfl (Rp.mono s1 c _ r)
theorem jd_enumT (h : F a = some (.tup xs)) (hl : RpL K C F ds xs) : JD K C (IteT K a) F (enumD ds) := fun i F1 H1 s1 s2 => by
  have ha : SqT K H1 a xs := SqT.of (s2 _ _ (s1 _ _ h))
  refine ⟨fun hi => ⟨xs, ha, by rw [hi, enumD_len, hl.len]⟩, fun d hd => ?_⟩
  obtain ⟨c, hc, rfl⟩ := enumD_get hd
  obtain ⟨v, hv, r⟩ := RpL.get hl hc
  refine ⟨⟨xs, v, ha, hv⟩, fun x H2 y => ?_⟩
  obtain ⟨T, x', rfl, hT, rfl, y⟩ := y
  have e := y xs ha
  rw [hv] at e
  cases e
  exact pair_new s2 hT rfl (Rp.mono s1 c _ r)
end
section
variable {X : Cx} {C : Addr} {O : List Nat} {tg e e2 : Expr} {es : List Expr} {f : DF} {fs : DFs} {p pos tpos : Pos}
theorem di_seq (he : DE X C O e f) : DI X C O tg e (iSeq f) := PIw (PIor (pi_list he) (pi_tup he)) fun σ H R ⟨F, ρ, ds, E, hf, k⟩ => by
  obtain ⟨d, h1, hf1⟩ := bind_some hf
  cases d <;> first | (cases hf1; done) | skip
  · cases hf1
    refine .inr ⟨F, ρ, _, E, h1, fun v F1 H1 s1 r1 => ?_⟩
    obtain ⟨a, xs, rfl, ha, hl⟩ := r1
    exact ⟨a, rfl, ⟨xs, SqT.of (s1.fh _ _ ha)⟩, k _ F1 H1 s1 (jd_tup ha hl)⟩
  · cases hf1
    refine .inl ⟨F, ρ, _, E, h1, fun v F1 H1 s1 r1 => ?_⟩
    obtain ⟨a, xs, rfl, ha, hl⟩ := r1
    exact ⟨a, rfl, ⟨xs, SqL.of (s1.fh _ _ ha)⟩, k _ F1 H1 s1 (jd_list ha hl)⟩
theorem e62 : (2 : Int) ^ 62 = 4611686018427387904 := by decide
theorem di_rng1 (hg : Gl X "range") (hm : X.mg "range" = none) (ha : DA X C O [e] fs) (hs : starEach [e] X.env = [(false, eval e X.env)] := by rfl) : DI X C O tg (.Call (.Name "range" p) [e] [] pos) (iRng1 fs) :=
  PIw (pi_range1 hg hm ha hs) fun σ H R ⟨F, ρ, ds, E, hf, k⟩ => by
    obtain ⟨d, h1, hf1⟩ := bind_some hf
    refine ⟨F, ρ, d, E, h1, fun vs F1 H1 s1 r1 => ?_⟩
    match d, hf1, r1 with
    | [.int n], hf1, r1 =>
      simp only [opRng1] at hf1
      split at hf1
      · rename_i hz
        cases hf1
        obtain ⟨v, rfl, h⟩ := RpL.one_inv r1
        rw [Rp.int h]
        exact ⟨n, rfl, by rw [e62]; omega, by rw [e62]; omega, k _ F1 H1 s1 jd_rng⟩
      · cases hf1
theorem di_rng2 (hg : Gl X "range") (hm : X.mg "range" = none) (ha : DA X C O [e, e2] fs) (hs : starEach [e, e2] X.env = [(false, eval e X.env), (false, eval e2 X.env)] := by rfl) (hs2 : starEach [e2] X.env = [(false, eval e2 X.env)] := by rfl) : DI X C O tg (.Call (.Name "range" p) [e, e2] [] pos) (iRng2 fs) :=
  PIw (pi_range2 hg hm ha hs hs2) fun σ H R ⟨F, ρ, ds, E, hf, k⟩ => by
    obtain ⟨d, h1, hf1⟩ := bind_some hf
    refine ⟨F, ρ, d, E, h1, fun vs F1 H1 s1 r1 => ?_⟩
    match d, hf1, r1 with
    | [.int a, .int b], hf1, r1 =>
      simp only [opRng2] at hf1
      split at hf1
      · rename_i hz
        cases hf1
        obtain ⟨v, w, rfl, h, h'⟩ := RpL.two_inv r1
        rw [Rp.int h, Rp.int h']
        exact ⟨a, b, rfl, by rw [e62]; omega, k _ F1 H1 s1 jd_rng⟩
      · cases hf1
variable {elts : List Expr} {kk : Nat}
theorem di_enum (hg : Gl X "enumerate") (hm : X.mg "enumerate" = none) (ha : DA X C O [e] fs) (hs : starEach [e] X.env = [(false, eval e X.env)] := by rfl) : DI X C O (.Tuple elts kk tpos) (.Call (.Name "enumerate" p) [e] [] pos) (iEn fs) :=
  PIw (PIor (pi_enum hg hm ha hs) (pi_enumT hg hm ha hs)) fun σ H R ⟨F, ρ, ds, E, hf, k⟩ => by
    obtain ⟨d, h1, hf1⟩ := bind_some hf
    match d, hf1, h1 with
    | [.tup xs], hf1, h1 =>
      cases hf1
      refine .inr ⟨F, ρ, _, E, h1, fun vs F1 H1 s1 r1 => ?_⟩
      obtain ⟨v, rfl, a, us, rfl, ha, hl⟩ := RpL.one_inv r1
      exact ⟨a, us, rfl, s1.fh _ _ ha, k _ F1 H1 s1 (jd_enumT ha hl)⟩
    | [.lst xs], hf1, h1 =>
      cases hf1
      refine .inl ⟨F, ρ, _, E, h1, fun vs F1 H1 s1 r1 => ?_⟩
      obtain ⟨v, rfl, a, us, rfl, ha, hl⟩ := RpL.one_inv r1
      exact ⟨a, us, rfl, SqL.of (s1.fh _ _ ha), k _ F1 H1 s1 (jd_enumL ha hl)⟩
end
end DL
namespace DL
open PySem PySem.Spec PyProof.Rows L2
/-- a target: what the slots hold behind it -/
abbrev DG := D → Rho → Option Rho
def gN (i : Nat) : DG := fun d ρ => some (st ρ i d)
abbrev DGs := List D → Rho → Option Rho
def gsNil : DGs := fun ds ρ => match ds with
  | [] => some ρ
  | _ => none
def gsCons (g : DG) (h : DGs) : DGs := fun ds ρ => match ds with
  | d :: r => (g d ρ).bind (h r)
  | [] => none
def gT (h : DGs) : DG := fun d ρ => (asSeq d).bind fun ds => match d with
  | .tup _ => h ds ρ
  | _ => none
/-- but at the places ws the slots are as they were -/
def Bar (ws : List Nat) (σ σ' : L2.St) : Prop := σ'.length = σ.length ∧ ∀ j, j ∉ ws → σ'[j]? = σ[j]?
/-- the lists of one's own are as they were -/
def Kp (O : List Nat) (σ σ' : L2.St) (ρ ρ' : Rho) : Prop := ∀ i ∈ O, σ'[i]? = σ[i]? ∧ lk ρ' i = lk ρ i
theorem Kp.refl {O : List Nat} {σ : L2.St} {ρ : Rho} : Kp O σ σ ρ ρ := fun _ _ => ⟨rfl, rfl⟩
theorem Kp.trans {O : List Nat} {σ σ1 σ2 : L2.St} {ρ ρ1 ρ2 : Rho} (a : Kp O σ σ1 ρ ρ1) (b : Kp O σ1 σ2 ρ1 ρ2) : Kp O σ σ2 ρ ρ2 := fun i hi => ⟨(b i hi).1.trans (a i hi).1, (b i hi).2.trans (a i hi).2⟩
def tDG (K : PySem.W.Frag) (C : Addr) (O ws : List Nat) (g : DG) : TG := fun v σ H Q => ∃ F ρ d ρ', En K C O F H σ ρ ∧ Rp K C F d v ∧ g d ρ = some ρ' ∧ ∀ σ' , En K C O F H σ' ρ' → Bar ws σ σ' → Kp O σ σ' ρ ρ' → Q σ' H
def tDGs (K : PySem.W.Frag) (C : Addr) (O ws : List Nat) (g : DGs) : TGs := fun vs σ H Q => ∃ F ρ ds ρ', En K C O F H σ ρ ∧ RpL K C F ds vs ∧ g ds ρ = some ρ' ∧ ∀ σ', En K C O F H σ' ρ' → Bar ws σ σ' → Kp O σ σ' ρ ρ' → Q σ' H
abbrev DTg (X : Cx) (C : Addr) (O ws : List Nat) (e : Expr) (g : DG) : Prop := PG X e (tDG X.K C O ws g)
abbrev DTgs (X : Cx) (C : Addr) (O ws : List Nat) (es : List Expr) (g : DGs) : Prop := PGs X es (tDGs X.K C O ws g)
theorem Bar.trans {ws vs : List Nat} {a b c : L2.St} (h : Bar ws a b) (h' : Bar vs b c) : Bar (ws ++ vs) a c :=
  ⟨h'.1.trans h.1, fun j hj => (h'.2 j fun z => hj (List.mem_append_right _ z)).trans (h.2 j fun z => hj (List.mem_append_left _ z))⟩
theorem Bar.refl {ws : List Nat} {a : L2.St} : Bar ws a a := ⟨rfl, fun _ _ => rfl⟩
theorem wipe_get (σ : L2.St) : ∀ (vs : List Nat) (j : Nat), (wipe σ vs)[j]? = if j ∈ vs ∧ j < σ.length then some none else σ[j]?
  | [], j => by
    rw [if_neg (fun z => by cases z.1)]
    rfl
  | v :: vs, j => by
    show ((wipe σ vs).set v none)[j]? = _
    by_cases hv : v = j
    · subst hv
      by_cases hl : v < σ.length
      · rw [if_pos ⟨List.mem_cons_self, hl⟩, List.getElem?_set_self (by rw [wipe_length]; exact hl)]
      · rw [if_neg (fun z => hl z.2), List.getElem?_eq_none (by rw [List.length_set, wipe_length]; omega), List.getElem?_eq_none (by omega)]
    · rw [List.getElem?_set_ne hv, wipe_get σ vs j]
      have e : (j ∈ v :: vs ∧ j < σ.length) ↔ (j ∈ vs ∧ j < σ.length) := by
        constructor
        · rintro ⟨h1, h2⟩
          exact ⟨(List.mem_cons.mp h1).elim (fun z => absurd z.symm hv) id, h2⟩
        · rintro ⟨h1, h2⟩
          exact ⟨List.mem_cons_of_mem _ h1, h2⟩
      by_cases h : j ∈ vs ∧ j < σ.length
      · rw [if_pos h, if_pos (e.mpr h)]
      · rw [if_neg h, if_neg (fun z => h (e.mp z))]
theorem wipe_bar {ws vs : List Nat} {σ σ' : L2.St} (h : Bar ws (wipe σ vs) σ') (hs : ∀ i ∈ ws, i ∈ vs) : wipe σ' vs = wipe σ vs := by
  apply List.ext_getElem?
  intro j
  have hl : σ'.length = σ.length := by rw [h.1, wipe_length]
  rw [wipe_get, wipe_get, hl]
  split
  · rfl
  · rename_i hn
    by_cases hj : j ∈ vs
    · have hjl : ¬ j < σ.length := fun z => hn ⟨hj, z⟩
      rw [List.getElem?_eq_none (by omega), List.getElem?_eq_none (by omega)]
    · rw [h.2 j fun z => hj (hs j z), wipe_get, if_neg (fun z => hj z.1)]
section
variable {X : Cx} {C : Addr} {O : List Nat} {e : Expr} {es : List Expr} {g : DG} {h : DGs} {ws vs' : List Nat} {pos : Pos}
theorem PGw {e : Expr} {t t' : TG} (h : PG X e t) (w : ∀ v σ H Q, t' v σ H Q → t v σ H Q) : PG X e t' := ⟨fun pins s σ H v u Q I r q => h.run pins s σ H v u Q I r (w v σ H Q q)⟩
theorem PGsw {e : List Expr} {t t' : TGs} (h : PGs X e t) (w : ∀ v σ H Q, t' v σ H Q → t v σ H Q) : PGs X e t' := ⟨fun pins s σ H v u Q I r q => h.run pins s σ H v u Q I r (w v σ H Q q)⟩
theorem dg_name (i : Nat) {x : Str} (hN : X.N.Nodup) (hi : X.N[i]? = some x := by rfl) (hx : Loc X.env.scope x := by first | exact Or.inl rfl | exact Or.inr rfl) (hO : i ∉ O := by decide)
    (hf : X.fn x = true ∨ X.env.scope.names.lookup x = some .local := by first | exact .inl rfl | exact .inr rfl) : DTg X C O [i] (.Name x pos) (gN i) := PGw (pg_name hN hi hx hf) fun v σ H Q ⟨F, ρ, d, ρ', E, r, hg, k⟩ => by
  cases hg
  exact k _ (E.set hO r) ⟨by rw [List.length_set], fun j hj => List.getElem?_set_ne fun z => hj (by rw [z]; exact List.mem_cons_self)⟩ fun j hj => ⟨List.getElem?_set_ne fun (z : i = j) => hO (by rw [z]; exact hj), lk_st_ne fun (z : j = i) => hO (by rw [← z]; exact hj)⟩
theorem dg_nil : DTgs X C O [] [] gsNil := PGsw pgs_nil fun vs σ H Q ⟨F, ρ, ds, ρ', E, r, hg, k⟩ => by
  cases ds with
  | nil =>
    cases hg
    exact ⟨r, k σ E Bar.refl Kp.refl⟩
  | cons _ _ => cases hg
theorem dg_cons (h1 : DTg X C O ws e g) (h2 : DTgs X C O vs' es h) (hs : (assignEach (e :: es) X.env).map (·.2) = assign e X.env :: (assignEach es X.env).map (·.2) := by rfl) : DTgs X C O (ws ++ vs') (e :: es) (gsCons g h) := PGsw (pgs_cons h1 h2 hs) fun vs σ H Q ⟨F, ρ, ds, ρ', E, r, hg, k⟩ => by
  cases ds with
  | nil => cases hg
  | cons d ds =>
    obtain ⟨ρ1, g1, g2⟩ := bind_some hg
    obtain ⟨v, vr, rfl, r1, r2⟩ := r
    exact ⟨v, vr, rfl, F, ρ, d, ρ1, E, r1, g1, fun σ1 E1 b1 k1 => ⟨F, ρ1, ds, ρ', E1, r2, g2, fun σ2 E2 b2 k2 => k σ2 E2 (b1.trans b2) (k1.trans k2)⟩⟩
theorem dg_tup {n k : Nat} (hc : X.calm = true) (h1 : DTgs X C O ws es h) (hl : ∀ ds ρ ρ', h ds ρ = some ρ' → ds.length = n) (hn : (assignEach es X.env).length = n := by rfl) (hst : (assignEach es X.env).findIdx? (·.1) = none := by rfl) :
    DTg X C O ws (.Tuple es k pos) (gT h) := PGw (pg_tup hc h1 hn hst) fun v σ H Q ⟨F, ρ, d, ρ', E, r, hg, kk⟩ => by
  obtain ⟨ds, g1, g2⟩ := bind_some hg
  cases d with
  | tup es' =>
    cases g1
    obtain ⟨a, xs, rfl, ha, hr⟩ := r
    exact ⟨a, xs, rfl, SqT.of (E.fh _ _ ha), by rw [← hr.len]; exact hl _ _ _ g2, F, ρ, _, ρ', E, hr, g2, kk⟩
  | _ => cases g2
theorem gl0 : ∀ ds ρ ρ', gsNil ds ρ = some ρ' → ds.length = 0 := fun ds ρ ρ' h => by
  cases ds with
  | nil => rfl
  | cons _ _ => cases h
theorem gl1 {n : Nat} {g : DG} {h : DGs} (hh : ∀ ds ρ ρ', h ds ρ = some ρ' → ds.length = n) : ∀ ds ρ ρ', gsCons g h ds ρ = some ρ' → ds.length = n + 1 := fun ds ρ ρ' q => by
  cases ds with
  | nil => cases q
  | cons d r =>
    obtain ⟨ρ1, _, g2⟩ := bind_some q
    rw [List.length_cons, hh _ _ _ g2]
end
def compL (g : DG) (t : DB) (e : DF) (ρ : Rho) : List D → Option (List D)
  | [] => some []
  | d :: ds => (g d ρ).bind fun ρ1 => (t ρ1).bind fun b => if b = true then (e ρ1).bind fun x => (compL g t e ρ ds).bind fun r => some (x :: r) else compL g t e ρ ds
def lstOk (ds : List D) : Option D := if ds.length ≤ 16777216 then some (.lst ds) else none
def dComp (it : DFs) (g : DG) (t : DB) (e : DF) (vs : List Nat) : DF := fun ρ => (it ρ).bind fun ds => (compL g t e (wipeR ρ vs) ds).bind lstOk
def bYes : DB := fun _ => some true
abbrev DTs (X : Cx) (C : Addr) (O : List Nat) (ifs : List Expr) (t : DB) : Prop := PTs X ifs (tDT X.K C O t)
section
variable {X : Cx} {C : Addr} {O : List Nat}
theorem PTsw {ifs : List Expr} {t t' : TT} (h : PTs X ifs t) (w : ∀ σ H Q, t' σ H Q → t σ H Q) : PTs X ifs t' := ⟨fun pins s σ H Q I q => h.run pins s σ H Q I (w σ H Q q)⟩
theorem dts_nil : DTs X C O [] bYes := PTsw pts_nil fun σ H Q ⟨F, ρ, b, E, hf, k⟩ => by
  cases hf
  exact k F H (Stp.refl E.fh)
theorem dts_one {c : Expr} {t : DB} (h : DT X C O c t) : DTs X C O [c] t := pts_one h
/-- the comprehension's loop: acc, what is made so far; rest: what is to come -/
def CW (K : PySem.W.Frag) (C : Addr) (F0 H0 : Hp) (g : DG) (t : DB) (e : DF) (ρ : Rho) (ds rs : List D) (Dl : Addr) (i m : Nat) (H : Hp) : Prop :=
  m = ds.length - i ∧ i ≤ ds.length ∧ ∃ F acc racc rest, Stp F0 H0 F H ∧ H Dl = some (.lst acc) ∧ F Dl = none ∧ RpL K C F racc acc ∧ compL g t e ρ (ds.drop i) = some rest ∧ rs = racc ++ rest
theorem comp_rd {K : PySem.W.Frag} {it : DFs} {g : DG} {t : DB} {e : DF} {ws vs : List Nat} {σ : L2.St} {H : Hp} {Q : VK} (hs : ∀ i ∈ ws, i ∈ vs) (hw : tD K C O (dComp it g t e vs) σ H Q) :
    tLc (tDI K C O it) (tDG K C O ws g) (tDT K C O t) (tD K C O e) vs σ H Q := by
  obtain ⟨F, ρ, d, E, hf, k⟩ := hw
  obtain ⟨ds, h1, hf1⟩ := bind_some hf
  obtain ⟨rs, h2, hf2⟩ := bind_some hf1
  clear hf hf1
  unfold lstOk at hf2
  split at hf2
  · rename_i hz
    cases hf2
    refine ⟨F, ρ, ds, E, h1, fun J F1 H1 s1 jd Dl hD => ?_⟩
    have E1 : En K C O F1 H1 (wipe σ vs) (wipeR ρ vs) := (E.step s1).wipe vs
    refine ⟨CW K C F1 H1 g t e (wipeR ρ vs) ds rs Dl, ⟨ds.length, rfl, Nat.zero_le _, F1, [], [], rs, Stp.own s1.fh hD, upd_same, none_of_same s1.fh hD, RpL.nil, h2, rfl⟩, fun i m H2 hW => ?_⟩
    obtain ⟨rfl, hi, F2, acc, racc, rest, s2, hH, hF, hR, hc, he⟩ := hW
    by_cases hlt : i < ds.length
    · right
      obtain ⟨_, jg⟩ := jd i F2 H2 s2.ff s2.fh
      obtain ⟨go, yl⟩ := jg ds[i] (List.getElem?_eq_getElem hlt)
      rw [List.drop_eq_getElem_cons hlt] at hc
      unfold compL at hc
      obtain ⟨ρ1, c1, hc1⟩ := bind_some hc
      obtain ⟨b, c2, hc2⟩ := bind_some hc1
      clear hc hc1
      refine ⟨go, fun H' => CW K C F1 H1 g t e (wipeR ρ vs) ds rs Dl (i + 1) (ds.length - (i + 1)) H', fun H' hN => ⟨_, by omega, hN⟩, fun x H3 y => ?_⟩
      obtain ⟨F3, s3, r3⟩ := yl x H3 y
      have s13 := s2.trans s3
      refine ⟨F3, wipeR ρ vs, ds[i], ρ1, E1.step s13, r3, c1, fun σ4 E4 bar _ => ⟨wipe_bar bar hs, F3, ρ1, b, E4, c2, fun F5 H5 s5 => ?_⟩⟩
      have s15 := s13.trans s5
      have sD := s3.trans s5
      cases b with
      | true =>
        dsimp only
        rw [if_pos rfl] at hc2 ⊢
        obtain ⟨z, c3, hc3⟩ := bind_some hc2
        obtain ⟨rest', c4, hc4⟩ := bind_some hc3
        cases hc4
        refine ⟨F5, ρ1, z, E4.step s5, c3, fun v F6 H6 s6 r6 => ?_⟩
        have s16 := s15.trans s6
        have sE := sD.trans s6
        have hlen := hR.len
        have hl2 : acc.length < 16777216 := by
          rw [he, List.length_append, List.length_cons] at hz
          omega
        refine ⟨acc, sE.hh _ _ hH, Nat.lt_of_lt_of_le hl2 (szl_ok (Nat.le_refl _)), rfl, hlt, F6, acc ++ [v], racc ++ [z], rest', ?_, upd_same, (sE.old _ _ hH).trans hF, RpL.append (RpL.mono sE.ff _ _ hR) (RpL.one r6), c4, by rw [he, List.append_assoc]; rfl⟩
        have hFn : F6 Dl = none := (sE.old _ _ hH).trans hF
        refine ⟨s16.ff, fun a o q => ?_, fun a o q => ?_, s16.old⟩
        · rw [upd_ne (ne_of_none q hD)]
          exact s16.hh a o q
        · rw [upd_ne (ne_of_none q hFn)]
          exact s16.fh a o q
      | false =>
        dsimp only
        rw [if_neg Bool.false_ne_true] at hc2 ⊢
        exact ⟨rfl, hlt, F5, acc, racc, rest, s15, sD.hh _ _ hH, (sD.old _ _ hH).trans hF, RpL.mono sD.ff _ _ hR, hc2, he⟩
    · left
      have ei : i = ds.length := by omega
      subst ei
      obtain ⟨js, _⟩ := jd ds.length F2 H2 s2.ff s2.fh
      refine ⟨js rfl, ?_⟩
      rw [List.drop_length] at hc
      cases hc
      rw [List.append_nil] at he
      subst he
      have sF : Same F2 (upd F2 Dl (.lst acc)) := same_upd hF
      refine k _ (upd F2 Dl (.lst acc)) H2 (s1.trans ⟨s2.ff.trans sF, s2.hh, fun a o q => ?_, fun a o q => ?_⟩) ⟨Dl, acc, rfl, upd_same, RpL.mono sF _ _ hR⟩
      · by_cases ha : a = Dl
        · subst ha
          rw [upd_same] at q
          rw [← q]
          exact hH
        · rw [upd_ne ha] at q
          exact s2.fh a o q
      · rw [upd_ne (ne_of_none q hD)]
        exact s2.old a o q
  · cases hf2
variable {elt tg iter : Expr} {ifs : List Expr} {scope : Scope} {pos : Pos} {it : DFs} {g : DG} {t : DB} {e : DF} {ws : List Nat}
theorem de_comp {own : List (Str × Nat)} (hc : X.calm = true) (hN : X.N.Nodup) (hi : DI X C O tg iter it) (ok : BlkOk X.N X.env.scope scope own)
    (hg : ∀ (s : Shared) (H : Hp) (D : Addr) (cl : List (Str × Addr)) (fp : List Addr), DTg (X.blk s H scope (compEnvC scope cl D X.env) fp) C O ws tg g) (ht : ∀ (s : Shared) (H : Hp) (D : Addr) (cl : List (Str × Addr)) (fp : List Addr), DTs (X.blk s H scope (compEnvC scope cl D X.env) fp) C O ifs t)
    (he : ∀ (s : Shared) (H : Hp) (D : Addr) (cl : List (Str × Addr)) (fp : List Addr), DE (X.blk s H scope (compEnvC scope cl D X.env) fp) C O elt e) (hv : ∀ i ∈ ws, i ∈ own.map (·.2) := by decide) (hs : ∀ x, foldedSetIterable iter X.env x = pure x := by intro _; rfl) :
    DE X C O (.ListComp elt [⟨tg, iter, ifs, 0⟩] scope pos) (dComp it g t e (own.map (·.2))) := PEw (pe_lc hc hN hi ok hg ht he hs) fun _ _ _ hw => comp_rd hv hw
end
end DL
namespace DL
open PySem PySem.Spec PyProof.Rows L2
inductive R where
  | nx (ρ : Rho) | rt (d : D)
abbrev DS := Rho → Option R
/-- the slots at a statement; F0, H0: as the def was entered -/
structure Sn (K : PySem.W.Frag) (C : Addr) (O : List Nat) (F0 H0 F H : Hp) (σ : L2.St) (ρ : Rho) : Prop where
  en : En K C O F H σ ρ
  sp : Stp F0 H0 F H
  nw : ∀ i d p, i ∈ O → lk ρ i = some d → σ[i]? = some (some (.ref p)) → H0 p = none
def endR (K : PySem.W.Frag) (C : Addr) (O' : List Nat) (F0 H0 F : Hp) (Z : Ends) : R → Prop
  | .nx ρ' => ∀ σ' F' H', Sn K C O' F0 H0 F' H' σ' ρ' → Same F F' → Z.nx σ' H'
  | .rt d => ∀ v F' H', Stp F0 H0 F' H' → Rp K C F' d v → Z.rt v H'
def tDS (K : PySem.W.Frag) (C : Addr) (O O' : List Nat) (f : DS) : TS := fun Z σ H => ∃ F0 H0 F ρ r, Sn K C O F0 H0 F H σ ρ ∧ f ρ = some r ∧ endR K C O' F0 H0 F Z r
abbrev DSt (X : Cx) (C : Addr) (O O' : List Nat) (s : Stmt) (f : DS) : Prop := PS X s (tDS X.K C O O' f)
abbrev DSs (X : Cx) (C : Addr) (O O' : List Nat) (s : List Stmt) (f : DS) : Prop := PSs X s (tDS X.K C O O' f)
section
variable {K : PySem.W.Frag} {C : Addr} {O O' : List Nat} {F0 H0 F H F' H' : Hp} {σ : L2.St} {ρ : Rho} {Z : Ends}
theorem endR.mono {r : R} (h : endR K C O' F0 H0 F Z r) (s : Same F F') : endR K C O' F0 H0 F' Z r := by
  cases r with
  | nx ρ' => exact fun σ' F2 H2 S sm => h σ' F2 H2 S (s.trans sm)
  | rt d => exact h
theorem Sn.step (h : Sn K C O F0 H0 F H σ ρ) (s : Stp F H F' H') : Sn K C O F0 H0 F' H' σ ρ := ⟨h.en.step s, h.sp.trans s, h.nw⟩
theorem Sn.set {i : Nat} {d : D} {v : V} (h : Sn K C O F0 H0 F H σ ρ) (hi : i ∉ O) (hv : Rp K C F d v) : Sn K C O F0 H0 F H (σ.set i (some v)) (st ρ i d) := by
  refine ⟨h.en.set hi hv, h.sp, fun j e p hj q1 q2 => ?_⟩
  have hji : j ≠ i := fun z => hi (z ▸ hj)
  rw [lk_st_ne hji] at q1
  rw [List.getElem?_set_ne (Ne.symm hji)] at q2
  exact h.nw j e p hj q1 q2
/-- the slots are another, the lists of one's own the same -/
theorem Sn.keep {σ' : L2.St} {ρ' : Rho} (h : Sn K C O F0 H0 F H σ ρ) (E : En K C O F H σ' ρ') (kp : Kp O σ σ' ρ ρ') : Sn K C O F0 H0 F H σ' ρ' := by
  refine ⟨E, h.sp, fun j e p hj q1 q2 => ?_⟩
  rw [(kp j hj).2] at q1
  rw [(kp j hj).1] at q2
  exact h.nw j e p hj q1 q2
/-- a list that nobody knows becomes one's own -/
theorem Sn.adopt {i : Nat} {p : Addr} {ds : List D} {vs : List V} (h : Sn K C O F0 H0 F H σ ρ) (hi : i ∉ O) (hH : H p = some (.lst vs)) (hF : F p = none) (h0 : H0 p = none)
    (hn : ∀ j d, j ∈ O → lk ρ j = some d → σ[j]? ≠ some (some (.ref p))) (hl : RpL K C F ds vs) : Sn K C (i :: O) F0 H0 F H (σ.set i (some (.ref p))) (st ρ i (.lst ds)) := by
  have hE := h.en
  have nlt : ∀ {d : D}, lk (st ρ i (.lst ds)) i = some d → i < σ.length := fun {d} q => by
    have := lk_lt q
    rw [st_len, ← hE.len] at this
    exact this
  refine ⟨⟨hE.fh, by rw [List.length_set, st_len]; exact hE.len, fun j e hj q => ?_, fun j e hj q => ?_, fun j k e e' p' hj hk q1 q2 q3 q4 => ?_⟩, h.sp, fun j e p' hj q1 q2 => ?_⟩
  · have hji : j ≠ i := fun z => hj (by rw [z]; exact List.mem_cons_self)
    rw [lk_st_ne hji] at q
    rw [List.getElem?_set_ne (Ne.symm hji)]
    exact hE.pl j e (fun z => hj (List.mem_cons_of_mem _ z)) q
  · by_cases hji : j = i
    · subst hji
      have e1 := lk_st_same q
      subst e1
      exact ⟨p, vs, ds, List.getElem?_set_self (nlt q), rfl, hH, hF, hl⟩
    · rw [lk_st_ne hji] at q
      rw [List.getElem?_set_ne (Ne.symm hji)]
      exact hE.ow j e ((List.mem_cons.mp hj).elim (fun z => absurd z hji) id) q
  · by_cases hji : j = i
    · by_cases hki : k = i
      · rw [hji, hki]
      · exfalso
        subst hji
        rw [lk_st_ne hki] at q2
        rw [List.getElem?_set_ne (Ne.symm hki)] at q4
        rw [List.getElem?_set_self (nlt q1)] at q3
        cases q3
        exact hn k e' ((List.mem_cons.mp hk).elim (fun z => absurd z hki) id) q2 q4
    · by_cases hki : k = i
      · exfalso
        subst hki
        rw [lk_st_ne hji] at q1
        rw [List.getElem?_set_ne (Ne.symm hji)] at q3
        rw [List.getElem?_set_self (nlt q2)] at q4
        cases q4
        exact hn j e ((List.mem_cons.mp hj).elim (fun z => absurd z hji) id) q1 q3
      · rw [lk_st_ne hji] at q1
        rw [lk_st_ne hki] at q2
        rw [List.getElem?_set_ne (Ne.symm hji)] at q3
        rw [List.getElem?_set_ne (Ne.symm hki)] at q4
        exact hE.ap j k e e' p' ((List.mem_cons.mp hj).elim (fun z => absurd z hji) id) ((List.mem_cons.mp hk).elim (fun z => absurd z hki) id) q1 q2 q3 q4
  · by_cases hji : j = i
    · subst hji
      rw [List.getElem?_set_self (nlt q1)] at q2
      cases q2
      exact h0
    · rw [lk_st_ne hji] at q1
      rw [List.getElem?_set_ne (Ne.symm hji)] at q2
      exact h.nw j e p' ((List.mem_cons.mp hj).elim (fun z => absurd z hji) id) q1 q2
/-- a list just made, known to nobody, becomes one's own -/
theorem Sn.own {i : Nat} {p : Addr} {ds : List D} {vs : List V} (h : Sn K C O F0 H0 F H σ ρ) (hi : i ∉ O) (hH : H p = none) (hl : RpL K C F ds vs) :
    Sn K C (i :: O) F0 H0 F (upd H p (.lst vs)) (σ.set i (some (.ref p))) (st ρ i (.lst ds)) := by
  refine (h.step (Stp.own h.en.fh hH)).adopt hi upd_same (none_of_same h.en.fh hH) (h.sp.hh.free hH) (fun j d hj q1 q2 => ?_) hl
  obtain ⟨p', _, _, g1, _, g3, _, _⟩ := h.en.ow j d hj q1
  rw [g1] at q2
  cases q2
  rw [hH] at g3
  cases g3
theorem Sn.mut {i : Nat} {ds ds' : List D} {vs' : List V} {p : Addr} (h : Sn K C O F0 H0 F H σ ρ) (hi : i ∈ O) (he : lk ρ i = some (.lst ds)) (hp : σ[i]? = some (some (.ref p))) (hl : RpL K C F ds' vs') :
    Sn K C O F0 H0 F (upd H p (.lst vs')) σ (st ρ i (.lst ds')) := by
  obtain ⟨p', vs, ds2, g1, g2, g3, g4, g5⟩ := h.en.ow i _ hi he
  rw [g1] at hp
  cases hp
  have h0 : H0 p = none := h.nw i _ p hi he g1
  refine ⟨h.en.mut hi he g1 g3 g4 hl, ⟨h.sp.ff, fun a o q => ?_, fun a o q => ?_, h.sp.old⟩, fun j e p' hj q1 q2 => ?_⟩
  · rw [upd_ne (ne_of_none q h0)]
    exact h.sp.hh a o q
  · rw [upd_ne (ne_of_none q g4)]
    exact h.en.fh a o q
  · by_cases hji : j = i
    · subst hji
      rw [g1] at q2
      cases q2
      exact h0
    · rw [lk_st_ne hji] at q1
      exact h.nw j e p' hj q1 q2
theorem Sn.freeze {i : Nat} (h : Sn K C O F0 H0 F H σ ρ) (hO : ∀ j, j ∈ O' ↔ j ∈ O ∧ j ≠ i) : ∃ F', Same F F' ∧ Sn K C O' F0 H0 F' H σ ρ := by
  obtain ⟨F', sm, E, ch⟩ := h.en.freeze hO
  refine ⟨F', sm, E, ⟨h.sp.ff.trans sm, h.sp.hh, E.fh, fun a o q => ?_⟩, fun j d p hj q1 q2 => h.nw j d p ((hO j).mp hj).1 q1 q2⟩
  by_cases hne : F' a = F a
  · rw [hne]
    exact h.sp.old a o q
  · obtain ⟨hi, d, e1, e2⟩ := ch a hne
    rw [h.nw i d a hi e1 e2] at q
    cases q
end
def dSeq (f g : DS) : DS := fun ρ => (f ρ).bind fun r => match r with
  | .nx ρ' => g ρ'
  | .rt d => some (.rt d)
def dNx : DS := fun ρ => some (.nx ρ)
def dRet (f : DF) : DS := fun ρ => (f ρ).bind fun d => some (.rt d)
def dSet (i : Nat) (f : DF) : DS := fun ρ => (f ρ).bind fun d => some (.nx (st ρ i d))
def dIfS (t : DB) (f g : DS) : DS := fun ρ => (t ρ).bind fun b => if b = true then f ρ else g ρ
def dAsg (g : DG) (f : DF) : DS := fun ρ => (f ρ).bind fun d => (g d ρ).bind fun ρ' => some (.nx ρ')
def forL (g : DG) (b : DS) : List D → Rho → Option R
  | [], ρ => some (.nx ρ)
  | d :: ds, ρ => (g d ρ).bind fun ρ1 => (b ρ1).bind fun r => match r with
    | .nx ρ2 => forL g b ds ρ2
    | .rt x => some (.rt x)
def dFor (it : DFs) (g : DG) (b : DS) : DS := fun ρ => (it ρ).bind fun ds => forL g b ds ρ
def whileN (t : DB) (b : DS) : Nat → Rho → Option R
  | 0, _ => none
  | n + 1, ρ => (t ρ).bind fun c => if c = true then (b ρ).bind fun r => match r with
    | .nx ρ' => whileN t b n ρ'
    | .rt d => some (.rt d) else some (.nx ρ)
def FUEL : Nat := 1000000000000000000000000000000
def dWhile (t : DB) (b : DS) : DS := fun ρ => whileN t b FUEL ρ
def dPar (i j : Nat) (f g : DF) : DS := fun ρ => (f ρ).bind fun x => (g ρ).bind fun y => some (.nx (st (st ρ i x) j y))
def asI : D → Option Int
  | .int i => some i
  | _ => none
def dAug (i : Nat) (f : DF) : DS := fun ρ => (lk ρ i).bind fun x => (asI x).bind fun a => (f ρ).bind fun y => (asI y).bind fun b => some (.nx (st ρ i (.int (a + b))))
def asL : D → Option (List D)
  | .lst xs => some xs
  | _ => none
def dApp (i : Nat) (f : DF) : DS := fun ρ => (f ρ).bind fun d => (lk ρ i).bind fun x => (asL x).bind fun ds => if ds.length < 16777216 then some (.nx (st ρ i (.lst (ds ++ [d])))) else none
def dSetIx (i : Nat) (k f : DF) : DS := fun ρ => (f ρ).bind fun d => (k ρ).bind fun j => (asI j).bind fun n => (lk ρ i).bind fun x => (asL x).bind fun ds => (ixNat ds.length n).bind fun m => some (.nx (st ρ i (.lst (ds.set m d))))
theorem asI_some {d : D} {b : Int} (h : asI d = some b) : d = .int b := by
  cases d <;> first | (cases h; rfl) | cases h
theorem asL_some {d : D} {b : List D} (h : asL d = some b) : d = .lst b := by
  cases d <;> first | (cases h; rfl) | cases h
section
variable {X : Cx} {C : Addr} {O O' O1 : List Nat} {s : Stmt} {ss : List Stmt} {f g : DS} {e a b c : Expr} {fe ge : DF} {t : DB} {pos : Pos}
theorem dss_nil : DSs X C O O [] dNx := PSsw pss_nil fun D σ H ⟨F0, H0, F, ρ, r, S, hf, k⟩ => by
  cases hf
  exact k σ F H S (Same.refl _)
theorem dss_cons (h1 : DSt X C O O1 s f) (h2 : DSs X C O1 O' ss g) : DSs X C O O' (s :: ss) (dSeq f g) := PSsw (pss_cons h1 h2) fun D σ H ⟨F0, H0, F, ρ, r, S, hf, k⟩ => by
  obtain ⟨r1, e1, e2⟩ := bind_some hf
  refine ⟨F0, H0, F, ρ, r1, S, e1, ?_⟩
  cases r1 with
  | nx ρ1 => exact fun σ1 F1 H1 S1 sm => ⟨F0, H0, F1, ρ1, r, S1, e2, k.mono sm⟩
  | rt d =>
    cases e2
    exact k
theorem dss_one (h1 : DSt X C O O' s f) : DSs X C O O' [s] f := pss_one h1
/-- ghosts: a list of one's own is frozen ahead of a statement, of a block -/
theorem ds_frz (i : Nat) (h : DSt X C O1 O' s f) (hO : ∀ j, j ∈ O1 ↔ j ∈ O ∧ j ≠ i := by intro j; simp only [List.mem_cons, List.not_mem_nil, or_false]; constructor <;> (intro h; first | omega | exact h.elim)) : DSt X C O O' s f := PSw h fun D σ H ⟨F0, H0, F, ρ, r, S, hf, k⟩ => by
  obtain ⟨F', sm, S'⟩ := S.freeze hO
  exact ⟨F0, H0, F', ρ, r, S', hf, k.mono sm⟩
theorem ds_ret (h : DE X C O e fe) : DSt X C O O (.Return (some e) pos) (dRet fe) := PSw (ps_ret h) fun D σ H ⟨F0, H0, F, ρ, r, S, hf, k⟩ => by
  obtain ⟨d, e1, e2⟩ := bind_some hf
  cases e2
  exact ⟨F, ρ, d, S.en, e1, fun v F1 H1 s1 r1 => k v F1 H1 (S.sp.trans s1) r1⟩
theorem ds_if (hc : DT X C O c t) (ha : DSs X C O O' ss f) {us : List Stmt} (hb : DSs X C O O' us g) : DSt X C O O' (.If c ss us pos) (dIfS t f g) := PSw (ps_if hc ha hb) fun D σ H ⟨F0, H0, F, ρ, r, S, hf, k⟩ => by
  obtain ⟨d, e1, e2⟩ := bind_some hf
  refine ⟨F, ρ, d, S.en, e1, fun F1 H1 s1 => ?_⟩
  cases d with
  | true =>
    rw [if_pos rfl] at e2 ⊢
    exact ⟨F0, H0, F1, ρ, r, S.step s1, e2, k.mono s1.ff⟩
  | false =>
    rw [if_neg Bool.false_ne_true] at e2 ⊢
    exact ⟨F0, H0, F1, ρ, r, S.step s1, e2, k.mono s1.ff⟩
theorem set_rd {K : PySem.W.Frag} {i : Nat} {Z : Ends} {σ : L2.St} {H : Hp} (hi : i ∉ O) (hw : tDS K C O O (dSet i fe) Z σ H) : tAsg (tD K C O fe) (gName i) Z σ H := by
  obtain ⟨F0, H0, F, ρ, r, S, hf, k⟩ := hw
  obtain ⟨d, e1, e2⟩ := bind_some hf
  cases e2
  exact ⟨F, ρ, d, S.en, e1, fun v F1 H1 s1 r1 => k _ F1 H1 ((S.step s1).set hi r1) s1.ff⟩
theorem ds_set (i : Nat) {x : Str} {pos' : Pos} (hN : X.N.Nodup) (he : DE X C O e fe) (hi : X.N[i]? = some x := by rfl) (hx : Loc X.env.scope x := by first | exact Or.inl rfl | exact Or.inr rfl) (hO : i ∉ O := by decide)
    (hs : swapsWith e (some (.Name x pos')) pos.line X.env = pure false := by rfl) (hf : X.fn x = true ∨ X.env.scope.names.lookup x = some .local := by first | exact .inl rfl | exact .inr rfl) :
    DSt X C O O (.Assign [.Name x pos'] e pos) (dSet i fe) := PSw (ps_set hN hi hx he hs hf) fun D σ H hw => set_rd hO hw
/-- any target -/
theorem ds_asg {tg : Expr} {ws : List Nat} {gg : DG} (he : DE X C O e fe) (hg : DTg X C O ws tg gg) (hs : swapsWithSole [tg] e pos.line X.env = pure false := by rfl) (hw : swappedStores [tg] e X.env = pure none := by rfl)
    (h1 : (assignEach [tg] X.env).map (·.2) = [assign tg X.env] := by rfl) : DSt X C O O (.Assign [tg] e pos) (dAsg gg fe) := PSw (ps_asg he hg hs hw h1) fun D σ H ⟨F0, H0, F, ρ, r, S, hf, k⟩ => by
  obtain ⟨d, e1, e2⟩ := bind_some hf
  obtain ⟨ρ', e3, e4⟩ := bind_some e2
  cases e4
  refine ⟨F, ρ, d, S.en, e1, fun v F1 H1 s1 r1 => ⟨F1, ρ, d, ρ', S.en.step s1, r1, e3, fun σ' E' bar kp => k σ' F1 H1 ((S.step s1).keep E' kp) s1.ff⟩⟩
theorem ds_par (i j : Nat) {x y : Str} {px py pt : Pos} {kt k2 : Nat} {pt2 : Pos} (hc : X.calm = true) (hN : X.N.Nodup) (ha : DE X C O a fe) (hb : DE X C O b ge) (hi : X.N[i]? = some x := by rfl) (hj : X.N[j]? = some y := by rfl) (hij : i ≠ j := by decide)
    (hx : X.env.scope.names.lookup x = some .local := by rfl) (hy : X.env.scope.names.lookup y = some .local := by rfl) (hO : i ∉ O := by decide) (hO2 : j ∉ O := by decide)
    (hw : swappedStores [.Tuple [.Name x px, .Name y py] kt pt] (.Tuple [a, b] k2 pt2) X.env = pure (some [x, y]) := by rfl)
    (hs : swapsWithSole [.Tuple [.Name x px, .Name y py] kt pt] (.Tuple [a, b] k2 pt2) pos.line X.env = pure false := by rfl)
    (h1 : starEach [a, b] X.env = (false, eval a X.env) :: starEach [b] X.env := by rfl) (h2 : starEach [b] X.env = (false, eval b X.env) :: starEach [] X.env := by rfl) :
    DSt X C O O (.Assign [.Tuple [.Name x px, .Name y py] kt pt] (.Tuple [a, b] k2 pt2) pos) (dPar i j fe ge) := PSw (ps_par hc hN hi hj hij hx hy (pa_cons ha (pa_cons hb pa_nil h2) h1) hw hs) fun D σ H ⟨F0, H0, F, ρ, r, S, hf, k⟩ => by
  obtain ⟨d, e1, e2⟩ := bind_some hf
  obtain ⟨d', e3, e4⟩ := bind_some e2
  cases e4
  exact ⟨F, ρ, d, S.en, e1, fun v F1 H1 s1 r1 => ⟨F1, ρ, d', S.en.step s1, e3, fun v2 F2 H2 s2 r2 => ⟨v, v2, rfl, k _ F2 H2 (((S.step (s1.trans s2)).set hO (Rp.mono s2.ff _ _ r1)).set hO2 r2) (s1.ff.trans s2.ff)⟩⟩⟩
theorem ds_aug (i : Nat) {x : Str} {pos' : Pos} (hN : X.N.Nodup) (he : DE X C O e fe) (hi : X.N[i]? = some x := by rfl) (hx : Loc X.env.scope x := by first | exact Or.inl rfl | exact Or.inr rfl) (hO : i ∉ O := by decide)
    (hf : X.fn x = true ∨ X.env.scope.names.lookup x = some .local := by first | exact .inl rfl | exact .inr rfl) : DSt X C O O (.AugAssign (.Name x pos') .Add e pos) (dAug i fe) := PSw (ps_aug hN hi hx he ip_add hf) fun D σ H ⟨F0, H0, F, ρ, r, S, hf, k⟩ => by
  obtain ⟨d, e1, e2⟩ := bind_some hf
  obtain ⟨n, e3, e4⟩ := bind_some e2
  obtain ⟨d', e5, e6⟩ := bind_some e4
  obtain ⟨m, e7, e8⟩ := bind_some e6
  obtain rfl := asI_some e3
  obtain rfl := asI_some e7
  cases e8
  obtain ⟨v, q1, q2⟩ := S.en.pl i _ hO e1
  have q2' : v = .int n := q2
  subst q2'
  refine ⟨_, q1, F, ρ, _, S.en, e5, fun v F1 H1 s1 r1 => ⟨n, m, rfl, r1, k _ F1 H1 ((S.step s1).set hO rfl) s1.ff⟩⟩
theorem ds_while {body : List Stmt} (hp : PassesOwn (model X.prog X.w) X.A X.env X.xe) (hc : DT X C O c t) (hb : DSs X C O O body f) : DSt X C O O (.While c body [] pos) (dWhile t f) := PSw (ps_while hp hc hb) fun D σ H ⟨F0, H0, F, ρ, r, S, hf, k⟩ => by
  refine ⟨fun m σ H => ∃ F1 ρ, Sn X.K C O F0 H0 F1 H σ ρ ∧ Same F F1 ∧ whileN t f m ρ = some r, ⟨FUEL, F, ρ, S, Same.refl _, hf⟩, fun m σ1 H1 ⟨F1, ρ1, S1, sm, hw⟩ => ?_⟩
  cases m with
  | zero => cases hw
  | succ m =>
    obtain ⟨c', e1, e2⟩ := bind_some hw
    refine ⟨F1, ρ1, c', S1.en, e1, fun F2 H2 s2 => ?_⟩
    cases c' with
    | true =>
      dsimp only
      rw [if_pos rfl] at e2 ⊢
      obtain ⟨r1, e3, e4⟩ := bind_some e2
      refine ⟨fun σ H => ∃ F1 ρ, Sn X.K C O F0 H0 F1 H σ ρ ∧ Same F F1 ∧ whileN t f m ρ = some r, fun σ' H' q => ⟨m, Nat.lt_succ_self _, q⟩, F0, H0, F2, ρ1, r1, S1.step s2, e3, ?_⟩
      cases r1 with
      | nx ρ2 => exact fun σ' F' H' S' sm' => ⟨F', ρ2, S', sm.trans (s2.ff.trans sm'), e4⟩
      | rt d =>
        cases e4
        exact k
    | false =>
      dsimp only
      rw [if_neg Bool.false_ne_true] at e2 ⊢
      cases e2
      exact k σ1 F2 H2 (S1.step s2) (sm.trans s2.ff)
theorem ds_for {tg iter : Expr} {body : List Stmt} {it : DFs} {ws : List Nat} {gg : DG} (hp : PassesOwn (model X.prog X.w) X.A X.env X.xe) (hc : X.calm = true) (hi : DI X C O tg iter it) (hg : DTg X C O ws tg gg) (hb : DSs X C O O body f)
    (hs : ∀ x, foldedSetIterable iter X.env x = pure x := by intro _; rfl) : DSt X C O O (.For tg iter body [] pos) (dFor it gg f) := PSw (ps_for hp hc hi hg hb hs) fun D σ H ⟨F0, H0, F, ρ, r, S, hf, k⟩ => by
  obtain ⟨ds, e1, e2⟩ := bind_some hf
  refine ⟨F, ρ, ds, S.en, e1, fun J F1 H1 s1 jd => ?_⟩
  refine ⟨fun i m σ H => m = ds.length - i ∧ i ≤ ds.length ∧ ∃ F2 ρ, Sn X.K C O F0 H0 F2 H σ ρ ∧ Same F1 F2 ∧ forL gg f (ds.drop i) ρ = some r, ⟨ds.length, rfl, Nat.zero_le _, F1, ρ, S.step s1, Same.refl _, e2⟩, fun i m σ2 H2 ⟨em, hi, F2, ρ2, S2, sm, hw⟩ => ?_⟩
  subst em
  by_cases hlt : i < ds.length
  · right
    obtain ⟨_, jg⟩ := jd i F2 H2 sm S2.en.fh
    obtain ⟨go, yl⟩ := jg ds[i] (List.getElem?_eq_getElem hlt)
    rw [List.drop_eq_getElem_cons hlt] at hw
    unfold forL at hw
    obtain ⟨ρ3, c1, c2⟩ := bind_some hw
    obtain ⟨r3, c3, c4⟩ := bind_some c2
    refine ⟨go, fun σ H => (ds.length - (i + 1)) = ds.length - (i + 1) ∧ i + 1 ≤ ds.length ∧ ∃ F2 ρ, Sn X.K C O F0 H0 F2 H σ ρ ∧ Same F1 F2 ∧ forL gg f (ds.drop (i + 1)) ρ = some r, fun σ' H' q => ⟨_, by omega, q⟩, fun x H3 y => ?_⟩
    obtain ⟨F3, s3, r3'⟩ := yl x H3 y
    refine ⟨F3, ρ2, ds[i], ρ3, S2.en.step s3, r3', c1, fun σ4 E4 bar kp => ⟨F0, H0, F3, ρ3, r3, (S2.step s3).keep E4 kp, c3, ?_⟩⟩
    cases r3 with
    | nx ρ4 => exact fun σ' F' H' S' sm' => ⟨rfl, hlt, F', ρ4, S', sm.trans (s3.ff.trans sm'), c4⟩
    | rt d =>
      cases c4
      exact k
  · left
    have ei : i = ds.length := by omega
    subst ei
    obtain ⟨js, _⟩ := jd ds.length F2 H2 sm S2.en.fh
    rw [List.drop_length] at hw
    cases hw
    exact ⟨js rfl, k σ2 F2 H2 S2 (s1.ff.trans sm)⟩
end
end DL
namespace DL
open PySem PySem.Spec PyProof.Rows L2
/-- a new list that nobody knows yet -/
def tDN (K : PySem.W.Frag) (C : Addr) (O : List Nat) (f : DFs) : TE := fun σ H Q => ∃ F ρ ds, En K C O F H σ ρ ∧ f ρ = some ds ∧ ∀ p vs F' H1, Stp F H F' H1 → H1 p = none → RpL K C F' ds vs → Q (.ref p) (upd H1 p (.lst vs))
abbrev DN (X : Cx) (C : Addr) (O : List Nat) (e : Expr) (f : DFs) : Prop := PE X e (tDN X.K C O f)
def nLst (f : DFs) : DFs := fun ρ => (f ρ).bind fun ds => if ds.length ≤ 100000 then some ds else none
def nRep (f g : DF) : DFs := fun ρ => (f ρ).bind fun x => (asL x).bind fun ds => (g ρ).bind fun y => (asI y).bind fun k => if k ≤ 16777216 ∧ -16777216 ≤ k ∧ ds.length * k.toNat ≤ 16777216 then some (List.replicate k.toNat ds).flatten else none
def nOf (f : DF) : DFs := fun ρ => (f ρ).bind asSeq
def dSetN (i : Nat) (f : DFs) : DS := fun ρ => (f ρ).bind fun ds => some (.nx (st ρ i (.lst ds)))
def dParN1 (i j : Nat) (f : DFs) (g : DF) : DS := fun ρ => (f ρ).bind fun ds => (g ρ).bind fun y => some (.nx (st (st ρ i (.lst ds)) j y))
def dParNN (i j : Nat) (f g : DFs) : DS := fun ρ => (f ρ).bind fun ds => (g ρ).bind fun es => some (.nx (st (st ρ i (.lst ds)) j (.lst es)))
section
variable {X : Cx} {C : Addr} {O O' O1 : List Nat} {s : Stmt} {ss : List Stmt} {f g : DS} {e a b c : Expr} {es : List Expr} {fe ge : DF} {fs gs : DFs} {t : DB} {pos : Pos}
theorem dn_lst (ha : DA X C O es fs) : DN X C O (.List es pos) (nLst fs) := PEw (pe_lst ha) fun σ H Q ⟨F, ρ, t, E, hf, k⟩ => by
  obtain ⟨ds, h1, hf1⟩ := bind_some hf
  split at hf1
  · rename_i hz
    cases hf1
    exact ⟨F, ρ, _, E, h1, fun vs F1 H1 s1 r1 => ⟨by rw [← r1.len]; exact sz100 hz, fun p hp => k p vs F1 H1 s1 hp r1⟩⟩
  · cases hf1
theorem ds_setN (i : Nat) {x : Str} {pos' : Pos} (hN : X.N.Nodup) (he : DN X C O e fs) (hi : X.N[i]? = some x := by rfl) (hx : Loc X.env.scope x := by first | exact Or.inl rfl | exact Or.inr rfl) (hO : i ∉ O := by decide)
    (hs : swapsWith e (some (.Name x pos')) pos.line X.env = pure false := by rfl) (hf : X.fn x = true ∨ X.env.scope.names.lookup x = some .local := by first | exact .inl rfl | exact .inr rfl) :
    DSt X C O (i :: O) (.Assign [.Name x pos'] e pos) (dSetN i fs) := PSw (ps_set hN hi hx he hs hf) fun Z σ H ⟨F0, H0, F, ρ, r, S, hf, k⟩ => by
  obtain ⟨ds, e1, e2⟩ := bind_some hf
  cases e2
  exact ⟨F, ρ, ds, S.en, e1, fun p vs F1 H1 s1 hp r1 => k _ F1 _ ((S.step s1).own hO hp r1) s1.ff⟩
/-- x.append(e) -/
theorem ds_app (i : Nat) {x : Str} {p1 p2 p3 : Pos} (he : DE X C O e fe) (hi : X.N[i]? = some x := by rfl) (hv : Vis X.env.scope x := by first | exact Or.inl rfl | exact Or.inr (Or.inl rfl) | exact Or.inr (Or.inr rfl)) (hO : i ∈ O := by decide)
    (hd : (x == ("__debug__" : Str)) = false := by decide) (hcd : (x == ("__classdict__" : Str)) = false := by decide)
    (hbase : attributeBase (.Name x p1) "append" X.env (eval (.Name x p1) X.env) = eval (.Name x p1) X.env := by rfl)
    (hfew : ((backTo p3 (starEach [e] X.env)).all (fun x => !x.1) && (backToKw p3 (keywordEach [] X.env)).all (fun x => x.1.isSome)
      && decide ([e].length + ([] : List Keyword).length + (if ([] : List Keyword).isEmpty then 0 else 1) < 30)) = true := by rfl)
    (hline : (p2.endLine == p3.line) = true := by rfl) (hs : starEach [e] X.env = (false, eval e X.env) :: starEach [] X.env := by rfl) (hplain : (backTo p3 (starEach [] X.env)).any (·.1) = false := by rfl)
    (hsw : swapsWith (.Call (.Attribute (.Name x p1) "append" p2) [e] [] p3) none pos.line X.env = pure false := by rfl) :
    DSt X C O O (.Expr (.Call (.Attribute (.Name x p1) "append" p2) [e] [] p3) pos) (dApp i fe) :=
  PSw (ps_expr (pe_bm PySem.F.plainAttrs_list PySem.F.slot_list_append PySem.F.type_list_append mt_append (pe_var hi hv hd hcd) (pa_cons he pa_nil hs) hbase hfew hline hs hplain) hsw) fun Z σ H ⟨F0, H0, F, ρ, r, S, hf, k⟩ => by
    obtain ⟨d, e1, e2⟩ := bind_some hf
    obtain ⟨y, e3, e4⟩ := bind_some e2
    obtain ⟨ds, e5, e6⟩ := bind_some e4
    obtain rfl := asL_some e5
    split at e6
    · rename_i hz
      cases e6
      obtain ⟨p, vs, ds2, g1, g2, g3, g4, g5⟩ := S.en.ow i _ hO e3
      cases g2
      refine ⟨.ref p, g1, .inl ⟨rfl, vs, SqL.of g3⟩, F, ρ, d, S.en, e1, fun v F1 H1 s1 r1 => ?_⟩
      have S1 := S.step s1
      have hl : RpL X.K C F1 (ds ++ [d]) (vs ++ [v]) := RpL.append (RpL.mono s1.ff _ _ g5) (RpL.one r1)
      exact ⟨p, vs, v, rfl, rfl, s1.hh _ _ g3, Nat.lt_of_lt_of_le (by rw [← g5.len]; exact hz) (szl_ok (Nat.le_refl _)), k σ F1 _ (S1.mut hO e3 g1 hl) s1.ff⟩
    · cases e6
/-- the same, values -/
theorem ds_part (i j : Nat) {x y : Str} {px py pt : Pos} {kt k2 : Nat} {pt2 : Pos} (hc : X.calm = true) (hN : X.N.Nodup) (ha : DE X C O a fe) (hb : DE X C O b ge) (hi : X.N[i]? = some x := by rfl) (hj : X.N[j]? = some y := by rfl)
    (hx : Loc X.env.scope x := by first | exact Or.inl rfl | exact Or.inr rfl) (hy : Loc X.env.scope y := by first | exact Or.inl rfl | exact Or.inr rfl) (hO : i ∉ O := by decide) (hO2 : j ∉ O := by decide)
    (fx : X.fn x = true ∨ X.env.scope.names.lookup x = some .local := by first | exact .inl rfl | exact .inr rfl) (fy : X.fn y = true ∨ X.env.scope.names.lookup y = some .local := by first | exact .inl rfl | exact .inr rfl)
    (hw : swappedStores [.Tuple [.Name x px, .Name y py] kt pt] (.Tuple [a, b] k2 pt2) X.env = pure none := by rfl)
    (hs : swapsWithSole [.Tuple [.Name x px, .Name y py] kt pt] (.Tuple [a, b] k2 pt2) pos.line X.env = pure false := by rfl)
    (h1 : starEach [a, b] X.env = (false, eval a X.env) :: starEach [b] X.env := by rfl) (h2 : starEach [b] X.env = (false, eval b X.env) :: starEach [] X.env := by rfl)
    (g1 : (assignEach [.Name x px, .Name y py] X.env).map (·.2) = assign (.Name x px) X.env :: (assignEach [.Name y py] X.env).map (·.2) := by rfl) (g2 : (assignEach [.Name y py] X.env).map (·.2) = assign (.Name y py) X.env :: (assignEach [] X.env).map (·.2) := by rfl)
    (g3 : (assignEach [.Name x px, .Name y py] X.env).length = 2 := by rfl) (g4 : (assignEach [.Name x px, .Name y py] X.env).findIdx? (·.1) = none := by rfl)
    (g5 : (assignEach [.Tuple [.Name x px, .Name y py] kt pt] X.env).map (·.2) = [assign (.Tuple [.Name x px, .Name y py] kt pt) X.env] := by rfl) :
    DSt X C O O (.Assign [.Tuple [.Name x px, .Name y py] kt pt] (.Tuple [a, b] k2 pt2) pos) (dPar i j fe ge) :=
  PSw (ps_asg (pe_tup (pa_cons ha (pa_cons hb pa_nil h2) h1)) (pg_tup hc (pgs_cons (pg_name hN hi hx fx) (pgs_cons (pg_name hN hj hy fy) pgs_nil g2) g1) g3 g4) hs hw g5) fun Z σ H ⟨F0, H0, F, ρ, r, S, hf, k⟩ => by
  obtain ⟨ds, e1, e2⟩ := bind_some hf
  obtain ⟨d', e3, e4⟩ := bind_some e2
  cases e4
  refine ⟨F, ρ, ds, S.en, e1, fun v F1 H1 s1 r1 => ⟨F1, ρ, d', S.en.step s1, e3, fun u F2 H2 s2 r2 => ?_⟩⟩
  refine ⟨by show 2 ≤ sizeLine; decide, fun T hT => ⟨T, _, rfl, SqT.of upd_same, rfl, v, [u], rfl, u, [], rfl, rfl, ?_⟩⟩
  have SN := ((S.step (s1.trans s2)).set hO (Rp.mono s2.ff _ _ r1)).set hO2 r2
  exact k _ F2 _ (SN.step (Stp.own SN.en.fh hT)) (s1.ff.trans s2.ff)
/-- y = [..] on one line -/
theorem ds_setLc (i : Nat) {y : Str} {py : Pos} {elt tg iter : Expr} {ifs : List Expr} {scope : Scope} {own : List (Str × Nat)} {pos spos : Pos} {it : DFs} {gg : DG} {tt : DB} {ee : DF} {ws : List Nat} (hc : X.calm = true) (hN : X.N.Nodup)
    (hi : DI X C O tg iter it) (ok : BlkOk X.N X.env.scope scope own)
    (hg : ∀ (s : Shared) (H : Hp) (D : Addr) (cl : List (Str × Addr)) (fp : List Addr), DTg (X.blk s H scope (compEnvC scope cl D X.env) fp) C O ws tg gg) (ht : ∀ (s : Shared) (H : Hp) (D : Addr) (cl : List (Str × Addr)) (fp : List Addr), DTs (X.blk s H scope (compEnvC scope cl D X.env) fp) C O ifs tt)
    (he : ∀ (s : Shared) (H : Hp) (D : Addr) (cl : List (Str × Addr)) (fp : List Addr), DE (X.blk s H scope (compEnvC scope cl D X.env) fp) C O elt ee)
    (hy : X.N[i]? = some y := by rfl) (hyl : X.env.scope.names.lookup y = some .local := by rfl)
    (hsw : swapsWith (.ListComp elt [⟨tg, iter, ifs, 0⟩] scope pos) (some (.Name y py)) spos.line X.env = pure true := by exact sw_true rfl rfl rfl (by decide +kernel)) (hO : i ∉ O := by decide)
    (hv : ∀ i ∈ ws, i ∈ own.map (·.2) := by decide) (hs : ∀ x, foldedSetIterable iter X.env x = pure x := by intro _; rfl) :
    DSt X C O O (.Assign [.Name y py] (.ListComp elt [⟨tg, iter, ifs, 0⟩] scope pos) spos) (dSet i (dComp it gg tt ee (own.map (·.2)))) := PSw (ps_setLc hc hN hy hyl hsw hi ok hg ht he hs) fun Z σ H hw => by
  obtain ⟨F0, H0, F, ρ, r, S, hf, k⟩ := hw
  obtain ⟨d, e1, e2⟩ := bind_some hf
  cases e2
  exact comp_rd hv ⟨F, ρ, d, S.en, e1, fun v F1 H1 s1 r1 => k _ F1 H1 ((S.step s1).set hO r1) s1.ff⟩
end
def runD (n a : Nat) (f : DS) : List D → Option D := fun ds => if ds.length = a then (f (ds.map some ++ List.replicate (n - a) none)).bind fun r => match r with
  | .rt d => some d
  | .nx _ => some .non else none
theorem lk_app : ∀ {ds : List D} {r : Nat} {i : Nat} {d : D}, lk (ds.map some ++ List.replicate r none) i = some d → ds[i]? = some d
  | [], r, i, d, h => by
    exfalso
    have z : ∀ (r i : Nat), lk (List.replicate r none) i = none := by
      intro r
      induction r with
      | zero => intro i; rfl
      | succ r ih =>
        intro i
        cases i with
        | zero => rfl
        | succ i => exact ih i
    have h' : lk (List.replicate r none) i = some d := h
    rw [z] at h'
    cases h'
  | x :: ds, r, 0, d, h => h
  | x :: ds, r, i + 1, d, h => by
    rw [List.getElem?_cons_succ]
    exact lk_app (ds := ds) h
theorem start_get : ∀ {vs : List V} {r : List (Option V)} {i : Nat} {v : V}, vs[i]? = some v → (vs.map some ++ r)[i]? = some (some v)
  | [], r, i, v, h => by simp at h
  | x :: vs, r, 0, v, h => by
    have e : x = v := by simpa using h
    subst e
    rfl
  | x :: vs, r, i + 1, v, h => by
    rw [List.getElem?_cons_succ] at h
    show ((some x :: (vs.map some ++ r)))[i + 1]? = _
    rw [List.getElem?_cons_succ]
    exact start_get h
section
variable {P : Program} {w : World} {K : PySem.W.Frag} {mg : Str → Option Value} {base : Heap} {C : Addr}
/-- THE RULE for a pure def -/
theorem fnD {x qual : Str} {st : Stmt} {f : Addr} {fd : FuncData} {N ps : List Str} {k : Nat} {O' : List Nat} {body : DS} (F : Fun K x qual st f fd) (S : FnScope N ps (defScope st)) (hl : ps.length ≤ N.length)
    (h : ∀ (cdv : Value) (A : Around) (outer : List Env) (s : Shared) (H : Hp) (E : XK), Room k (A.deeper (envOfC qual (defScope st) s.heap.objs.size f cdv)) → DSs ((cxOf CX0 P w K mg base N qual (defScope st) f cdv A outer s H E).nox) C [] O' (defBody st) body) :
    FnOk P w K mg base CX0 (k + 1) f fd ps (spD K C (runD N.length ps.length body)) := by
  have ln : ∀ vs H Q E, spD K C (runD N.length ps.length body) vs H Q E → vs.length = ps.length := fun vs H Q E ⟨F, ds, d, fh, r, hm, _⟩ => by
    unfold runD at hm
    split at hm
    · rename_i hz
      rw [← r.len]
      exact hz
    · cases hm
  refine F.ok S ln fun cdv A outer s H vs Q E hr hsp => ⟨_, h cdv A outer s H E hr, ?_⟩
  have lv := ln vs H Q E hsp
  obtain ⟨F1, ds, d, fh, r, hm, g⟩ := hsp
  unfold runD at hm
  split at hm
  · rename_i hz
    obtain ⟨r1, e1, e2⟩ := bind_some hm
    refine ⟨F1, H, F1, _, r1, ⟨⟨fh, ?_, fun i d hi q => ?_, fun i d hi _ => absurd hi (List.not_mem_nil), fun i j d e p hi _ _ _ _ _ => absurd hi (List.not_mem_nil)⟩, Stp.refl fh, fun i d p hi _ _ => absurd hi (List.not_mem_nil)⟩, e1, ?_⟩
    · unfold L2.start
      rw [List.length_append, List.length_append, List.length_map, List.length_map, List.length_replicate, List.length_replicate, lv, hz]
    · have q1 := lk_app q
      obtain ⟨v, h1, h2⟩ := RpL.get r q1
      exact ⟨v, start_get h1, h2⟩
    · cases r1 with
      | nx ρ' =>
        cases e2
        exact fun σ' F' H' S' _ => g .non F' H' S'.sp rfl
      | rt d' =>
        cases e2
        exact fun v F' H' s' r' => g v F' H' s' r'
  · cases hm
end
end DL
namespace DL
open PySem PySem.Spec PyProof.Rows L2
theorem hu65 {k : Nat} {A : Around} (hr : Room k A) : A.units + 65 < cLine := by have := hr.un; omega
theorem bt_len : bootBuiltins "len" = some (.builtin "len") := by decide +kernel
theorem bt_all : bootBuiltins "all" = some (.builtin "all") := by decide +kernel
theorem bt_any : bootBuiltins "any" = some (.builtin "any") := by decide +kernel
theorem bt_min : bootBuiltins "min" = some (.builtin "min") := by decide +kernel
theorem bt_tuple : bootBuiltins "tuple" = some (.type "tuple") := by decide +kernel
theorem bt_int : bootBuiltins "int" = some (.type "int") := by decide +kernel
theorem bt_bool : bootBuiltins "bool" = some (.type "bool") := by decide +kernel
end DL
namespace DL
open PySem PySem.Spec PyProof.Rows L2
theorem RpL.ofGet {K : PySem.W.Frag} {C : Addr} {F : Hp} : ∀ {ds : List D} {vs : List V}, ds.length = vs.length → (∀ (j : Nat) (d : D) (v : V), ds[j]? = some d → vs[j]? = some v → Rp K C F d v) → RpL K C F ds vs
  | [], vs, hl, _ => List.eq_nil_of_length_eq_zero hl.symm
  | d :: ds, vs, hl, h => by
    cases vs with
    | nil => cases hl
    | cons v vs => exact RpL.cons (h 0 d v rfl rfl) (RpL.ofGet (by simpa using hl) fun j d' v' h1 h2 => h (j + 1) d' v' (by simpa using h1) (by simpa using h2))
structure Nst (K : PySem.W.Frag) (C : Addr) (H0 F H : Hp) (p : Addr) (qs : List Addr) (dss : List (List D)) : Prop where
  hp : H p = some (.lst (qs.map V.ref))
  fp : F p = none
  h0 : H0 p = none
  ln : qs.length = dss.length
  at_ : ∀ (j : Nat) (q : Addr) (ds : List D), qs[j]? = some q → dss[j]? = some ds → ∃ vs, H q = some (.lst vs) ∧ F q = none ∧ H0 q = none ∧ RpL K C F ds vs
  nd : ∀ (j k : Nat) (q : Addr), qs[j]? = some q → qs[k]? = some q → j = k
  np : p ∉ qs
structure Sn2 (K : PySem.W.Frag) (C : Addr) (i : Nat) (F0 H0 F H : Hp) (σ : L2.St) (ρ : Rho) : Prop where
  en : En K C [] F H σ (un ρ i)
  sp : Stp F0 H0 F H
  ns : ∃ p qs dss, lk ρ i = some (.lst (dss.map D.lst)) ∧ σ[i]? = some (some (.ref p)) ∧ Nst K C H0 F H p qs dss
section
variable {K : PySem.W.Frag} {C : Addr} {i : Nat} {F0 H0 F H F' H' : Hp} {σ : L2.St} {ρ : Rho}
/-- all is frozen -/
theorem Sn2.freeze (S : Sn2 K C i F0 H0 F H σ ρ) : ∃ F', Same F F' ∧ Sn K C [] F0 H0 F' H σ ρ := by
  obtain ⟨p, qs, dss, e1, e2, N⟩ := S.ns
  have memq : ∀ {q : Addr}, q ∈ qs → ∃ vs ds j, qs[j]? = some q ∧ dss[j]? = some ds ∧ H q = some (.lst vs) ∧ F q = none ∧ H0 q = none ∧ RpL K C F ds vs := fun {q} hq => by
    obtain ⟨j, hj, rfl⟩ := List.getElem_of_mem hq
    have hj2 : j < dss.length := by rw [← N.ln]; exact hj
    obtain ⟨vs, h1, h2, h3, h4⟩ := N.at_ j qs[j] dss[j] (List.getElem?_eq_getElem hj) (List.getElem?_eq_getElem hj2)
    exact ⟨vs, dss[j], j, List.getElem?_eq_getElem hj, List.getElem?_eq_getElem hj2, h1, h2, h3, h4⟩
  let G : Hp := fun a => if a = p ∨ a ∈ qs then H a else F a
  have gin : ∀ {a}, (a = p ∨ a ∈ qs) → G a = H a := fun {a} h => if_pos h
  have gout : ∀ {a}, ¬ (a = p ∨ a ∈ qs) → G a = F a := fun {a} h => if_neg h
  have fin : ∀ {a}, (a = p ∨ a ∈ qs) → F a = none := fun {a} h => by
    rcases h with rfl | h
    · exact N.fp
    · obtain ⟨_, _, _, _, _, _, hf, _⟩ := memq h
      exact hf
  have hin : ∀ {a}, (a = p ∨ a ∈ qs) → H0 a = none := fun {a} h => by
    rcases h with rfl | h
    · exact N.h0
    · obtain ⟨_, _, _, _, _, _, _, hf, _⟩ := memq h
      exact hf
  have sm : Same F G := fun a o e => by
    have hn : ¬ (a = p ∨ a ∈ qs) := fun h => by rw [fin h] at e; cases e
    rw [gout hn]
    exact e
  have gh : Same G H := fun a o e => by
    by_cases h : a = p ∨ a ∈ qs
    · rw [gin h] at e
      exact e
    · rw [gout h] at e
      exact S.en.fh a o e
  refine ⟨G, sm, ⟨gh, ?_, fun j d hj q => ?_, fun j d hj => absurd hj List.not_mem_nil, fun j k d e p hj => absurd hj List.not_mem_nil⟩, ⟨S.sp.ff.trans sm, S.sp.hh, gh, fun a o e => ?_⟩, fun j d p hj => absurd hj List.not_mem_nil⟩
  · rw [S.en.len, un_len]
  · by_cases hji : j = i
    · subst hji
      rw [e1] at q
      cases q
      refine ⟨.ref p, e2, p, _, rfl, (gin (.inl rfl)).trans N.hp, RpL.ofGet (by rw [List.length_map, List.length_map, N.ln]) fun j d v h1 h2 => ?_⟩
      rw [List.getElem?_map] at h1 h2
      obtain ⟨ds, g1, rfl⟩ := Option.map_eq_some_iff.mp h1
      obtain ⟨q, g2, rfl⟩ := Option.map_eq_some_iff.mp h2
      obtain ⟨vs, g3, g4, g5, g6⟩ := N.at_ j q ds g2 g1
      exact ⟨q, vs, rfl, (gin (.inr (List.mem_of_getElem? g2))).trans g3, RpL.mono sm _ _ g6⟩
    · have q' : lk (un ρ i) j = some d := by rw [lk_un_ne hji]; exact q
      obtain ⟨v, h1, h2⟩ := S.en.pl j d List.not_mem_nil q'
      exact ⟨v, h1, Rp.mono sm _ _ h2⟩
  · have hn : ¬ (a = p ∨ a ∈ qs) := fun h => by rw [hin h] at e; cases e
    rw [gout hn]
    exact S.sp.old a o e
/-- what was evaluated meanwhile leaves it as it is -/
theorem Sn2.step (S : Sn2 K C i F0 H0 F H σ ρ) (hh : Same H H') : Sn2 K C i F0 H0 F H' σ ρ := by
  obtain ⟨p, qs, dss, e1, e2, N⟩ := S.ns
  have st : Stp F H F H' := ⟨Same.refl _, hh, S.en.fh.trans hh, fun _ _ _ => rfl⟩
  refine ⟨S.en.step st, S.sp.trans st, p, qs, dss, e1, e2, ⟨hh _ _ N.hp, N.fp, N.h0, N.ln, fun j q ds h1 h2 => ?_, N.nd, N.np⟩⟩
  obtain ⟨vs, g1, g2⟩ := N.at_ j q ds h1 h2
  exact ⟨vs, hh _ _ g1, g2⟩
theorem un_st_ne : ∀ {ρ : Rho} {i j : Nat} {d : D}, j ≠ i → un (st ρ j d) i = st (un ρ i) j d
  | [], _, _, _, _ => rfl
  | _ :: _, 0, 0, _, h => absurd rfl h
  | _ :: _, 0, j + 1, _, _ => rfl
  | _ :: _, i + 1, 0, _, _ => rfl
  | x :: r, i + 1, j + 1, d, h => by
    show x :: un (st r j d) i = x :: st (un r i) j d
    rw [un_st_ne fun z => h (by rw [z])]
/-- a scalar is stored -/
theorem Sn2.set {j : Nat} {d : D} {v : V} (S : Sn2 K C i F0 H0 F H σ ρ) (hj : j ≠ i) (r : Rp K C F d v) : Sn2 K C i F0 H0 F H (σ.set j (some v)) (st ρ j d) := by
  obtain ⟨p, qs, dss, e1, e2, N⟩ := S.ns
  refine ⟨?_, S.sp, p, qs, dss, ?_, ?_, N⟩
  · rw [un_st_ne hj]
    exact S.en.set List.not_mem_nil r
  · rw [lk_st_ne (Ne.symm hj)]
    exact e1
  · rw [List.getElem?_set_ne hj]
    exact e2
end
def endR2 (K : PySem.W.Frag) (C : Addr) (i : Nat) (F0 H0 F : Hp) (Z : Ends) : R → Prop
  | .nx ρ' => ∀ σ' F' H', Sn2 K C i F0 H0 F' H' σ' ρ' → Same F F' → Z.nx σ' H'
  | .rt d => ∀ v F' H', Stp F0 H0 F' H' → Rp K C F' d v → Z.rt v H'
theorem endR2.mono {K : PySem.W.Frag} {C : Addr} {i : Nat} {F0 H0 F F' : Hp} {Z : Ends} {r : R} (h : endR2 K C i F0 H0 F Z r) (s : Same F F') : endR2 K C i F0 H0 F' Z r := by
  cases r with
  | nx ρ' => exact fun σ' F2 H2 S sm => h σ' F2 H2 S (s.trans sm)
  | rt d => exact h
end DL
namespace DL
open PySem PySem.Spec PyProof.Rows L2
end DL
namespace DL
open PySem PySem.Spec PyProof.Rows L2
end DL
namespace DL
open PySem PySem.Spec PyProof.Rows L2
/-- the truth of None, bools and ints -/
def truI : D → Option Bool
  | .non => some false
  | .bl b => some b
  | .int i => some (i != 0)
  | _ => none
def dOrT (f g : DF) : DF := fun ρ => (f ρ).bind fun x => (truI x).bind fun k => if k = true then some x else g ρ
end DL
namespace DL
open PySem PySem.Spec PyProof.Rows L2
end DL
namespace DL
open PySem PySem.Spec PyProof.Rows L2
end DL
namespace DL
open PySem PySem.Spec PyProof.Rows L2
abbrev Pr := Int × List Int
def prD (p : Pr) : D := .tup [.int p.1, .tup (p.2.map .int)]
end DL
namespace DL
open PySem PySem.Spec PyProof.Rows L2
end DL
namespace DL
open PySem PySem.Spec PyProof.Rows L2
inductive Kd
  | l
  | t
def ItrK (k : Kd) (h : Heap) (it a : Addr) (i : Nat) : Prop := match k with
  | .l => h.IsListIter it a i
  | .t => h.IsTupleIter it a i
def obK (k : Kd) (a : Addr) : Obj := match k with
  | .l => { cls := .type "list_iterator", data := .fields #[.ref a, .int 0 0] }
  | .t => { cls := .type "tuple_iterator", data := .fields #[.ref a, .int 0 0] }
theorem ItrK.start {k : Kd} {h : Heap} {it a : Addr} (g : h.get? it = some (obK k a)) : ItrK k h it a 0 := by
  cases k
  · exact ⟨_, g, rfl, rfl⟩
  · exact ⟨_, g, rfl, rfl⟩
theorem ItrK.at {k : Kd} {h h' : Heap} {it a : Addr} {i : Nat} (g : ItrK k h it a i) (f : ∀ o, h.get? it = some o → h'.get? it = some o) : ItrK k h' it a i := by
  cases k
  · exact Heap.IsListIter.at g f
  · exact Heap.IsTupleIter.at g f
section
variable {K : PySem.W.Frag} {C : Addr} {F H : Hp} {a b : Addr} {xs ys : List V} {ds es : List D}
def InK (F : Hp) (k : Kd) (a : Addr) (us : List V) : Prop := (k = Kd.l ∧ F a = some (.lst us)) ∨ (k = Kd.t ∧ F a = some (.tup us))
end
section
variable {X : Cx} {C : Addr} {O : List Nat} {e e2 e3 : Expr} {fs : DFs} {p pos tpos : Pos} {elts : List Expr} {kk : Nat}
theorem InK.mono {F F1 : Hp} {k : Kd} {a : Addr} {us : List V} (h : InK F k a us) (s : Same F F1) : InK F1 k a us := by
  rcases h with ⟨rfl, h⟩ | ⟨rfl, h⟩
  · exact .inl ⟨rfl, s _ _ h⟩
  · exact .inr ⟨rfl, s _ _ h⟩
end
end DL
namespace DL
open PySem PySem.Spec PyProof.Rows L2
def opPer : D → Option D
  | .bell ps => some (.tup (ps.map .int))
  | _ => none
def bellOk (ns : List Int) : Bool := decide (1 ≤ ns.length) && (decide (ns.length ≤ 5) && ns.all fun i => decide (1 ≤ i) && decide (i ≤ 1000))
def opBells : List D → Option D := fun ds => (asInts ds).bind fun ns => if bellOk ns = true then some (.bell ns) else none
/-- __init__ -/
def spInit (C : Addr) : Sp := fun vs H Q _ => ∃ x dx p ns, vs = [.ref x, .ref p] ∧ H x = some (.ins C dx []) ∧ H p = some (.tup (ns.map V.int)) ∧ bellOk ns = true ∧ ∀ H', Same H H' → Q .non (upd H' x (.ins C dx [("row", .ref p)]))
def spStar (sp : Sp) : Sp := fun vs H Q E => ∃ ws rest, vs = ws ++ rest ∧ ws.length = 1 ∧ rest.length ≤ sizeLine ∧ ∀ p, H p = Option.none → sp (ws ++ [V.ref p]) (upd H p (.tup rest)) Q E
/-- what the class must have -/
structure BeC (P : Program) (w : World) (K : PySem.W.Frag) (mg : Str → Option Value) (base : Heap) (C : Addr) : Prop where
  cls : Cls K C
  row : NoAttr K C "row"
  mks : ∃ f, Mk K C f ∧ FnR P w K mg base CX0 4 f (spStar (spInit C)) ∧ mg "Bells" = some (.ref C)
  prop : ∃ p g fd, PropOf K C "periods" p g ∧ FnOk P w K mg base CX0 1 g fd ["self"] (getSp C "row") ∧ Binds K fd ["self"] []
section
variable {X : Cx} {C : Addr} {O : List Nat} {e : Expr} {es : List Expr} {f : DF} {fs : DFs} {p pos : Pos}
theorem de_periods {j : Nat} (B : BeC X.prog X.w X.K X.mg X.base C) (hr : Room j X.A) (he : DE X C O e f) (hk : 2 ≤ j := by decide) (hb : attributeBase e "periods" X.env (eval e X.env) = eval e X.env := by rfl) : DE X C O (.Attribute e "periods" pos) (d1 opPer f) := by
  obtain ⟨p, g, fd, hp, F0, hbi⟩ := B.prop
  refine PEw (pe_prop (E := E0) he B.cls hp F0 (hr.mono hk) hbi .nil pass0 hb) fun σ H Q ⟨F, ρ, d, E, hf, k⟩ => ?_
  obtain ⟨x, q1, q2⟩ := bind_some hf
  refine ⟨F, ρ, x, E, q1, fun v F1 H1 s1 r1 => ?_⟩
  cases x with
  | bell ps =>
    cases q2
    obtain ⟨a, dx, t, rfl, ha, ht⟩ := r1
    exact ⟨a, dx, _, rfl, s1.fh _ _ ha, a, dx, _, .ref t, rfl, s1.fh _ _ ha, rfl, k _ F1 H1 s1 ⟨t, _, rfl, ht, RpL.ofInts ps⟩⟩
  | _ => cases q2
theorem made_rd {K : PySem.W.Frag} {F H H' : Hp} {x dx p : Addr} {ns : List Int} (fh : Same F H) (hx : H x = none) (hdx : H dx = none) (hne : dx ≠ x) (hp : (upd (upd H dx (.own x)) x (.ins C dx [])) p = none)
    (s : Same (upd (upd (upd H dx (.own x)) x (.ins C dx [])) p (.tup (ns.map V.int))) H') :
    ∃ F2, Stp F H F2 (upd H' x (.ins C dx [("row", .ref p)])) ∧ Rp K C F2 (.bell ns) (.ref x) := by
  have px : p ≠ x := fun e => by rw [e, upd_same] at hp; cases hp
  have pd : p ≠ dx := fun e => by rw [e, upd_ne hne, upd_same] at hp; cases hp
  have hp' : H p = none := by rw [upd_ne px, upd_ne pd] at hp; exact hp
  have hh : Same H H' := fun b o e => s b o (by
    have b1 : b ≠ p := fun z => by rw [z, hp'] at e; cases e
    have b2 : b ≠ x := fun z => by rw [z, hx] at e; cases e
    have b3 : b ≠ dx := fun z => by rw [z, hdx] at e; cases e
    rw [upd_ne b1, upd_ne b2, upd_ne b3]
    exact e)
  have tp : H' p = some (.tup (ns.map V.int)) := s p _ upd_same
  have ne_of : ∀ {b : Addr} {o : HO}, H b = some o → b ≠ x := fun e z => by rw [z, hx] at e; cases e
  have nep : ∀ {b : Addr} {o : HO}, H b = some o → b ≠ p := fun e z => by rw [z, hp'] at e; cases e
  refine ⟨upd (upd F p (.tup (ns.map V.int))) x (.ins C dx [("row", .ref p)]), ⟨fun b o e => ?_, fun b o e => ?_, fun b o e => ?_, fun b o e => ?_⟩, x, dx, p, rfl, upd_same, ?_⟩
  · have e' := fh b o e
    rw [upd_ne (ne_of e'), upd_ne (nep e')]
    exact e
  · rw [upd_ne (ne_of e)]
    exact hh b o e
  · by_cases z : b = x
    · subst z
      rw [upd_same] at e ⊢
      exact e
    · rw [upd_ne z] at e ⊢
      by_cases z2 : b = p
      · subst z2
        rw [upd_same] at e
        rw [← e]
        exact tp
      · rw [upd_ne z2] at e
        exact hh b o (fh b o e)
  · rw [upd_ne (ne_of e), upd_ne (nep e)]
  · rw [upd_ne px, upd_same]
/-- Bells(..) -/
theorem de_bells {j : Nat} (B : BeC X.prog X.w X.K X.mg X.base C) (hr : Room j X.A) (hg : Gl X "Bells") (ha : DA X C O (e :: es) fs) (hk : 5 ≤ j := by decide)
    (he : starEach (e :: es) X.env = (false, eval e X.env) :: starEach es X.env := by rfl) (hpl : (backTo pos (starEach es X.env)).any (·.1) = false := by rfl) :
    DE X C O (.Call (.Name "Bells" p) (e :: es) [] pos) (dL opBells fs) := by
  obtain ⟨f, M, F0, hm⟩ := B.mks
  refine PEw (StX.pe_makeR (E := E0) M F0 (hr.mono hk) hg hm pass0 ha (he := he) (hpl := hpl)) fun σ H Q ⟨F, ρ, d, E, hf, k⟩ => ?_
  obtain ⟨ds, q1, q2⟩ := bind_some hf
  refine ⟨F, ρ, ds, E, q1, fun vs F1 H1 s1 r1 x dx hx hdx hne => ?_⟩
  obtain ⟨ns, q3, q4⟩ := bind_some q2
  by_cases ok : bellOk ns = true
  · rw [if_pos ok] at q4
    cases q4
    have ev := intsRp q3 r1
    subst ev
    have ln : ns.length ≤ 5 := by
      unfold bellOk at ok
      rw [Bool.and_eq_true, Bool.and_eq_true] at ok
      exact of_decide_eq_true ok.2.1
    refine ⟨[.ref x], ns.map V.int, rfl, rfl, by rw [List.length_map, sizeLine_eq]; omega, fun p hp => ⟨x, dx, p, ns, rfl, ?_, upd_same, ok, fun H' same => ⟨rfl, ?_⟩⟩⟩
    · have px : p ≠ x := fun e => by rw [e, upd_same] at hp; cases hp
      rw [upd_ne (Ne.symm px), upd_same]
    · obtain ⟨F2, st, rp⟩ := made_rd (K := X.K) (C := C) s1.fh hx hdx hne hp same
      exact k _ F2 _ (s1.trans st) rp
  · rw [if_neg ok] at q4
    cases q4
end
structure Most (K : PySem.W.Frag) (C : Addr) : Prop where
  ex : ∃ mc u, ClX.CRead K C mc ∧ ClX.CVal K C mc "MOST" (.int 5) u
section
variable {X : Cx} {C : Addr} {O : List Nat} {p pos : Pos}
theorem de_most (M : Most X.K C) (hg : Gl X "Bells") (hm : X.mg "Bells" = some (.ref C)) (hb : attributeBase (.Name "Bells" p) "MOST" X.env (eval (.Name "Bells" p) X.env) = eval (.Name "Bells" p) X.env := by rfl) :
    DE X C O (.Attribute (.Name "Bells" p) "MOST" pos) (dc (.int 5)) :=
  PEw (ClX.pe_cval (pe_glob (v := .ref C) hg hm rfl) hb) fun σ H Q ⟨F, ρ, d, E, hf, k⟩ => by
    cases hf
    obtain ⟨mc, u, r, v⟩ := M.ex
    exact ⟨C, mc, .int 5, u, rfl, r, v, k _ F H (Stp.refl E.fh) rfl⟩
end
section
variable {P : Program} {w : World} {K : PySem.W.Frag} {mg : Str → Option Value} {base : Heap} {C : Addr}
theorem init_ok {st : Stmt} {f : Addr} {fd : FuncData} {N : List Str} {k : Nat} {c : Expr} {ra : List Stmt} {g : DB} {p1 p2 p3 p4 p5 : Pos} (F : Fun K "__init__" "Bells.__init__" st f fd) (S : FnScope N ((["self"] : List Str) ++ [("periods" : Str)]) (defScope st)) (cl : Cls K C) (nr : NoAttr K C "row")
    (hbd : defBody st = [.If c ra [] p1, .Assign [.Attribute (.Name "self" p2) "row" p3] (.Name "periods" p4) p5])
    (hb : ∀ (kV doc pm : Value) (an : Option Addr) (cdv ct : Value) (us rest : List Value), us.length = 1 → bindArgs (PySem.W.fnOf "__init__" "Bells.__init__" (defArgs st) (defBody st) (defScope st) .none kV doc pm an cdv ct) ⟨us ++ rest, []⟩ = (newTuple rest >>= fun t => pure ((["self"] : List Str).zip us ++ [(("periods" : Str), t)])))
    (ht : ∀ (cdv : Value) (A : Around) (outer : List Env) (s : Shared) (H : Hp) (E : XK), Room k (A.deeper (envOfC "Bells.__init__" (defScope st) s.heap.objs.size f cdv)) → DT ((cxOf CX0 P w K mg base N "Bells.__init__" (defScope st) f cdv A outer s H E).nox) C [] c g)
    (hv : ∀ ns, bellOk ns = true → g (none :: some (.tup (ns.map .int)) :: List.replicate (N.length - 2) none) = some false) (h0 : N[0]? = some ("self" : Str)) (h1 : N[1]? = some ("periods" : Str)) (hl : 2 ≤ N.length) (v0 : Vis (defScope st) "self") (v1 : Vis (defScope st) "periods")
    (hs : ∀ env : Env, swapsWith (.Name "periods" p4) (some (.Attribute (.Name "self" p2) "row" p3)) p5.line env = pure false) : FnR P w K mg base CX0 (k + 1) f (spStar (spInit C)) := by
  obtain ⟨oc, od, kV, doc, pm, an, cdv, ct, osl, rfl, lk, hcd⟩ := F.ex
  refine StX.fn_star (ps := ["self"]) (sp := spInit C) lk hcd S (fun _ _ _ _ _ _ _ _ _ _ _ z => z) (fun us rest h => hb kV doc pm an cdv ct us rest h) fun A outer s H vs Q E hr hsp => ?_
  obtain ⟨x, dx, p, ns, rfl, hx, hp, ok, q⟩ := hsp
  refine ⟨_, PSs.nox (hbd ▸ pss_cons (ps_if (ht cdv A outer s H E hr) pss_never pss_nil) (pss_one (ps_fld (pe_var h0 v0) (pe_var h1 v1) (hs _)))), ?_⟩
  refine ⟨fun b => if b = p then some (.tup (ns.map V.int)) else none, none :: some (.tup (ns.map .int)) :: List.replicate (N.length - 2) none, false, ⟨fun b o e => ?_, ?_, fun i d hi e => ?_, fun i d hi _ => absurd hi List.not_mem_nil, fun i j d e p hi _ _ _ _ _ => absurd hi List.not_mem_nil⟩, hv ns ok, fun F' H' st => ?_⟩
  · by_cases z : b = p
    · rw [if_pos z] at e
      rw [z, hp]
      exact e
    · rw [if_neg z] at e
      cases e
  · unfold L2.start
    simp
  · match i, e with
    | 0, e => cases e
    | 1, e =>
      cases e
      exact ⟨.ref p, rfl, p, _, rfl, if_pos rfl, RpL.ofInts ns⟩
    | i + 2, e =>
      exfalso
      have e : DL.lk (List.replicate (N.length - 2) none) i = some d := e
      have : ∀ (r i : Nat), DL.lk (List.replicate r none) i = none := by
        intro r
        induction r with
        | zero => intro i; rfl
        | succ r ih =>
          intro i
          cases i with
          | zero => rfl
          | succ i => exact ih i
      rw [this] at e
      cases e
  · refine ⟨.ref p, rfl, .ref x, rfl, x, C, dx, [], rfl, st.hh x _ hx, cl, nr, by decide, ?_⟩
    exact q H' st.hh
theorem prop_ok {st : Stmt} {p g : Addr} {fd : FuncData} {N : List Str} {p1 p2 p3 : Pos} (F : Fun K "periods" "Bells.periods" st g fd) (S : FnScope N ["self"] (defScope st)) (hN : N[0]? = some ("self" : Str)) (hb : defBody st = [.Return (some (.Attribute (.Name "self" p1) "row" p2)) p3]) (cl : Cls K C) (nr : NoAttr K C "row")
    (hbi : ∀ (kV doc pm : Value) (an : Option Addr) (cdv ct : Value) (us : List Value), us.length = 1 → bindArgs (PySem.W.fnOf "periods" "Bells.periods" (defArgs st) (defBody st) (defScope st) .none kV doc pm an cdv ct) ⟨us, []⟩ = pure ((["self"] : List Str).zip us)) (hp : PropOf K C "periods" p g) :
    ∃ p g fd, PropOf K C "periods" p g ∧ FnOk P w K mg base CX0 1 g fd ["self"] (getSp C "row") ∧ Binds K fd ["self"] [] := by
  have bi := F.binds (ps := ["self"]) hbi
  obtain ⟨oc, od, kV, doc, pm, an, cdv, ct, osl, rfl, lk, hcd⟩ := F.ex
  exact ⟨p, g, _, hp, fn_getter lk hcd S hN hb cl nr, bi⟩
end
end DL
namespace DL
open PySem PySem.Spec PyProof.Rows L2
end DL
namespace DL
open PySem PySem.Spec PyProof.Rows L2
end DL
namespace DL
open PySem PySem.Spec PyProof.Rows L2
end DL
namespace DL
open PySem PySem.Spec PyProof.Rows L2
end DL
namespace DL
open PySem PySem.Spec PyProof.Rows L2
end DL
namespace DL
open PySem PySem.Spec PyProof.Rows L2
theorem hu1 {k : Nat} {A : Around} (hr : Room k A) : A.units + 1 < cLine := by have := hr.un; omega
abbrev KVI := List (List Int × Int)
def valI (kvs : KVI) (k : List Int) : Option Int := (kvs.find? fun p => decide (p.1 = k)).map (·.2)
def putI (kvs : KVI) (k : List Int) (v : Int) : KVI := if (kvs.any fun p => decide (p.1 = k)) = true then kvs.map (fun p => if p.1 = k then (p.1, v) else p) else kvs ++ [(k, v)]
theorem inl_inj : ∀ {a b : List Int}, a.map (Sum.inl : Int → L2.Key) = b.map Sum.inl ↔ a = b
  | [], [] => ⟨fun _ => rfl, fun _ => rfl⟩
  | [], _ :: _ => ⟨fun h => (by cases h), fun h => (by cases h)⟩
  | _ :: _, [] => ⟨fun h => (by cases h), fun h => (by cases h)⟩
  | x :: a, y :: b => by
    rw [List.map_cons, List.map_cons, List.cons.injEq, List.cons.injEq, inl_inj (a := a) (b := b)]
    exact ⟨fun ⟨h, h'⟩ => ⟨Sum.inl.inj h, h'⟩, fun ⟨h, h'⟩ => ⟨by rw [h], h'⟩⟩
theorem valV_enc (k : List Int) : ∀ kvs : KVI, L2.valV (encD kvs) (k.map Sum.inl) = (valI kvs k).map V.int
  | [] => rfl
  | p :: r => by
    have ih := valV_enc k r
    by_cases h : p.1 = k
    · have e1 : valI (p :: r) k = some p.2 := by simp [valI, List.find?_cons, h]
      rw [e1]
      exact L2.valV_pos (p := (p.1.map Sum.inl, V.int p.2)) (r := encD r) (by rw [h])
    · have e1 : valI (p :: r) k = valI r k := by simp [valI, List.find?_cons, h]
      rw [e1, ← ih]
      exact L2.valV_neg (p := (p.1.map Sum.inl, V.int p.2)) (r := encD r) fun z => h (inl_inj.mp z)
theorem any_enc (k : List Int) : ∀ kvs : KVI, ((encD kvs).any fun kv => decide (kv.1 = k.map Sum.inl)) = kvs.any fun p => decide (p.1 = k)
  | [] => rfl
  | p :: r => by
    have ih := any_enc k r
    unfold encD at ih ⊢
    rw [List.map_cons, List.any_cons, List.any_cons, ih]
    have : decide (p.1.map (Sum.inl : Int → L2.Key) = k.map Sum.inl) = decide (p.1 = k) := by
      by_cases h : p.1 = k
      · rw [decide_eq_true h, decide_eq_true (by rw [h])]
      · rw [decide_eq_false h, decide_eq_false fun z => h (inl_inj.mp z)]
    rw [this]
theorem putK_enc (k : List Int) (v : Int) (kvs : KVI) : L2.putK (encD kvs) (k.map Sum.inl) (V.int v) = encD (putI kvs k v) := by
  unfold L2.putK putI
  rw [any_enc]
  split
  · unfold encD
    rw [List.map_map, List.map_map]
    apply List.map_congr_left
    intro p _
    show (if p.1.map Sum.inl = k.map Sum.inl then _ else _) = _
    by_cases h : p.1 = k
    · rw [if_pos (by rw [h])]
      show _ = (fun p : List Int × Int => (p.1.map Sum.inl, V.int p.2)) (if p.1 = k then (p.1, v) else p)
      rw [if_pos h]
    · rw [if_neg fun z => h (inl_inj.mp z)]
      show _ = (fun p : List Int × Int => (p.1.map Sum.inl, V.int p.2)) (if p.1 = k then (p.1, v) else p)
      rw [if_neg h]
  · unfold encD
    rw [List.map_append]
    rfl
theorem kV_map : ∀ ns : List Int, (ns.map (Sum.inl : Int → L2.Key)).map kV = ns.map V.int
  | [] => rfl
  | n :: ns => by
    rw [List.map_cons, List.map_cons, List.map_cons, kV_map ns]
    rfl
def asKey : D → Option (List Int)
  | .tup ds => asInts ds
  | _ => none
theorem key_at {K : PySem.W.Frag} {C : Addr} {F H : Hp} {d : D} {ns : List Int} {v : V} (h : asKey d = some ns) (r : Rp K C F d v) (fh : Same F H) : ∃ b, v = .ref b ∧ H b = some (.tup ((ns.map Sum.inl).map kV)) := by
  cases d with
  | tup ds =>
    obtain ⟨a, xs, rfl, ha, hl⟩ := r
    have e := intsRp h hl
    subst e
    exact ⟨a, rfl, by rw [kV_map]; exact fh _ _ ha⟩
  | _ => cases h
def HasD (i : Nat) (σ : L2.St) (H0 F H : Hp) (kvs : KVI) : Prop := ∃ p, σ[i]? = some (some (.ref p)) ∧ H p = some (.dT (encD kvs)) ∧ F p = none ∧ H0 p = none
abbrev D3 := Rho → KVI → Option (Rho × KVI)
def t3 (K : PySem.W.Frag) (C : Addr) (i : Nat) (f : D3) : TS := fun Z σ H => ∃ F0 H0 F ρ kvs r, Sn K C [] F0 H0 F H σ ρ ∧ lk ρ i = none ∧ HasD i σ H0 F H kvs ∧ f ρ kvs = some r ∧
  ∀ σ' F' H', Sn K C [] F0 H0 F' H' σ' r.1 → lk r.1 i = none → HasD i σ' H0 F' H' r.2 → Same F F' → Z.nx σ' H'
theorem HasD.step {i : Nat} {σ : L2.St} {H0 F H F' H' : Hp} {kvs : KVI} (h : HasD i σ H0 F H kvs) (s : Stp F H F' H') : HasD i σ H0 F' H' kvs := by
  obtain ⟨p, h1, h2, h3, h4⟩ := h
  exact ⟨p, h1, s.hh _ _ h2, (s.old _ _ h2).trans h3, h4⟩
theorem HasD.slot {i j : Nat} {σ : L2.St} {H0 F H : Hp} {kvs : KVI} {v : Option V} (h : HasD i σ H0 F H kvs) (hj : j ≠ i) : HasD i (σ.set j v) H0 F H kvs := by
  obtain ⟨p, h1, h2, h3, h4⟩ := h
  exact ⟨p, by rw [List.getElem?_set_ne hj]; exact h1, h2, h3, h4⟩
def c3Set (j : Nat) (f : DF) : D3 := fun ρ kvs => (f ρ).bind fun d => some (st ρ j d, kvs)
def c3Put (k1 k2 df : DF) : D3 := fun ρ kvs => (k2 ρ).bind fun a => (asKey a).bind fun na => (df ρ).bind fun b => (asI b).bind fun nb => (k1 ρ).bind fun c => (asKey c).bind fun nc => if kvs.length < 100000 then some (ρ, putI kvs nc ((valI kvs na).getD nb)) else none
def c3Seq (f g : D3) : D3 := fun ρ kvs => (f ρ kvs).bind fun r => g r.1 r.2
def c3Nx : D3 := fun ρ kvs => some (ρ, kvs)
def for3 (g : DG) (b : D3) : List D → Rho → KVI → Option (Rho × KVI)
  | [], ρ, kvs => some (ρ, kvs)
  | d :: r, ρ, kvs => (g d ρ).bind fun ρ' => (b ρ' kvs).bind fun x => for3 g b r x.1 x.2
def c3For (it : DFs) (g : DG) (b : D3) : D3 := fun ρ kvs => (it ρ).bind fun ds => for3 g b ds ρ kvs
/-- i = {}, then what fills it -/
def dDic (i : Nat) (f : D3) : DS := fun ρ => if i < ρ.length then (f (un ρ i) []).bind fun r => some (.nx (st r.1 i (.ext (.dic r.2)))) else none
section
variable {X : Cx} {C : Addr} {i : Nat} {s : Stmt} {ss : List Stmt} {f g : D3} {pos : Pos}
theorem p3_set (j : Nat) {x : Str} {pos' : Pos} {e : Expr} {fe : DF} (hN : X.N.Nodup) (he : DE X C [] e fe) (hij : j ≠ i := by decide) (hf : X.fn x = true ∨ X.env.scope.names.lookup x = some NameKind.local := by first | exact Or.inl rfl | exact Or.inr rfl | assumption) (hi : X.N[j]? = some x := by rfl) (hx : Loc X.env.scope x := by first | exact Or.inl rfl | exact Or.inr rfl)
    (hs : swapsWithSole [.Name x pos'] e pos.line X.env = pure false := by rfl) (hw : swappedStores [.Name x pos'] e X.env = pure none := by rfl) : PS X (.Assign [.Name x pos'] e pos) (t3 X.K C i (c3Set j fe)) :=
  PSw (ps_asg he (pg_name hN hi hx hf) hs hw) fun Z σ H ⟨F0, H0, F, ρ, kvs, r, S, hn, hd, hf, k⟩ => by
    obtain ⟨d, e1, e2⟩ := bind_some hf
    cases e2
    refine ⟨F, ρ, d, S.en, e1, fun v F1 H1 s1 r1 => ?_⟩
    exact k _ F1 H1 ((S.step s1).set List.not_mem_nil r1) (by rw [lk_st_ne (Ne.symm hij)]; exact hn) ((hd.step s1).slot hij) s1.ff
theorem p3_put {x : Str} {p1 p2 p3 cp ap : Pos} {e1 e2 e3 : Expr} {k1 k2 df : DF} (hu : X.A.units + 1 < cLine) (h1 : DE X C [] e1 k1) (h2 : DE X C [] e2 k2) (h3 : DE X C [] e3 df) (hN : X.N[i]? = some x := by rfl) (hv : Vis X.env.scope x := by first | exact Or.inl rfl | exact Or.inr (Or.inl rfl) | exact Or.inr (Or.inr rfl))
    (hd1 : (x == ("__debug__" : Str)) = false := by decide) (hd2 : (x == ("__classdict__" : Str)) = false := by decide) (m : M2 X (.Name x p2) "get" ap e2 e3 cp := by exact ⟨rfl, rfl, rfl, rfl⟩)
    (hs : swapsWith (.Call (.Attribute (.Name x p2) "get" ap) [e2, e3] [] cp) (some (.Subscript (.Name x p1) e1 p3)) pos.line X.env = pure false := by rfl) :
    PS X (.Assign [.Subscript (.Name x p1) e1 p3] (.Call (.Attribute (.Name x p2) "get" ap) [e2, e3] [] cp) pos) (t3 X.K C i (c3Put k1 k2 df)) :=
  PSw (ps_dput hu (pe_var hN hv hd1 hd2) h1 (pe_dget2 hu (pe_var hN hv hd1 hd2) h2 h3 m) hs) fun Z σ H ⟨F0, H0, F, ρ, kvs, r, S, hn, hd, hf, k⟩ => by
    obtain ⟨a, q1, hf⟩ := bind_some hf
    obtain ⟨na, q2, hf⟩ := bind_some hf
    obtain ⟨b, q3, hf⟩ := bind_some hf
    obtain ⟨nb, q4, hf⟩ := bind_some hf
    obtain ⟨c, q5, hf⟩ := bind_some hf
    obtain ⟨nc, q6, hf⟩ := bind_some hf
    split at hf
    · rename_i hz
      cases hf
      obtain ⟨p, g1, g2, g3, g4⟩ := hd
      refine ⟨.ref p, g1, p, rfl, .inr ⟨_, .inl g2⟩, F, ρ, a, S.en, q1, fun va F1 H1 s1 r1 => ?_⟩
      refine ⟨F1, ρ, b, S.en.step s1, q3, fun vb F2 H2 s2 r2 => ?_⟩
      obtain rfl := asI_some q4
      have e2 : vb = .int nb := r2
      subst e2
      obtain ⟨ba, rfl, hba⟩ := key_at q2 (Rp.mono s2.ff _ _ r1) s2.fh
      refine ⟨_, DGet.t (s2.hh _ _ (s1.hh _ _ g2)) hba, .ref p, g1, F2, ρ, c, S.en.step (s1.trans s2), q5, fun vc F3 H3 s3 r3 => ?_⟩
      have s13 := s1.trans (s2.trans s3)
      obtain ⟨bc, rfl, hbc⟩ := key_at q6 r3 s3.fh
      have hp3 := s13.hh _ _ g2
      refine ⟨p, _, rfl, DPut.t hp3 hbc (by unfold encD; rw [List.length_map, sizeLine_eq]; omega), ?_⟩
      rw [valV_enc]
      have ev : ((valI kvs na).map V.int).getD (.int nb) = .int ((valI kvs na).getD nb) := by cases valI kvs na <;> rfl
      rw [ev, putK_enc]
      have hF3 : F3 p = none := (s13.old _ _ g2).trans g3
      have hh3 : Same H0 H3 := S.sp.hh.trans s13.hh
      refine k σ F3 _ ⟨⟨fun b o e => ?_, (S.en.step s13).len, (S.en.step s13).pl, fun j d hj => absurd hj List.not_mem_nil, (S.en.step s13).ap⟩, ⟨S.sp.ff.trans s13.ff, fun b o e => ?_, fun b o e => ?_, (S.sp.trans s13).old⟩, fun j d q hj => absurd hj List.not_mem_nil⟩ hn ⟨p, g1, upd_same, hF3, g4⟩ s13.ff
      · rw [upd_ne (ne_of_none e hF3)]
        exact s13.fh b o e
      · rw [upd_ne (ne_of_none e g4)]
        exact hh3 b o e
      · rw [upd_ne (ne_of_none e hF3)]
        exact s13.fh b o e
    · cases hf
theorem p3_nil : PSs X [] (t3 X.K C i c3Nx) := PSsw pss_nil fun Z σ H ⟨F0, H0, F, ρ, kvs, r, S, hn, hd, hf, k⟩ => by
  cases hf
  exact k σ F H S hn hd (Same.refl _)
theorem p3_cons (h1 : PS X s (t3 X.K C i f)) (h2 : PSs X ss (t3 X.K C i g)) : PSs X (s :: ss) (t3 X.K C i (c3Seq f g)) := PSsw (pss_cons h1 h2) fun Z σ H ⟨F0, H0, F, ρ, kvs, r, S, hn, hd, hf, k⟩ => by
  obtain ⟨r1, e1, e2⟩ := bind_some hf
  exact ⟨F0, H0, F, ρ, kvs, r1, S, hn, hd, e1, fun σ' F' H' S' hn' hd' sm => ⟨F0, H0, F', r1.1, r1.2, r, S', hn', hd', e2, fun σ2 F2 H2 S2 hn2 hd2 sm2 => k σ2 F2 H2 S2 hn2 hd2 (sm.trans sm2)⟩⟩
theorem p3_for {tg iter : Expr} {body : List Stmt} {it : DFs} {ws : List Nat} {gg : DG} (hp : PassesOwn (model X.prog X.w) X.A X.env X.xe) (hc : X.calm = true) (hi : DI X C [] tg iter it) (hg : DTg X C [] ws tg gg) (hb : PSs X body (t3 X.K C i f)) (hw : i ∉ ws := by decide)
    (hgn : ∀ d ρ ρ', gg d ρ = some ρ' → lk ρ i = none → lk ρ' i = none)
    (hs : ∀ x, foldedSetIterable iter X.env x = pure x := by intro _; rfl) : PS X (.For tg iter body [] pos) (t3 X.K C i (c3For it gg f)) := PSw (ps_for hp hc hi hg hb hs) fun Z σ H ⟨F0, H0, F, ρ, kvs, r, S, hn, hd, hf, k⟩ => by
  obtain ⟨ds, e1, e2⟩ := bind_some hf
  refine ⟨F, ρ, ds, S.en, e1, fun J F1 H1 s1 jd => ?_⟩
  refine ⟨fun u m σ H => m = ds.length - u ∧ u ≤ ds.length ∧ ∃ F2 ρ kvs, Sn X.K C [] F0 H0 F2 H σ ρ ∧ lk ρ i = none ∧ HasD i σ H0 F2 H kvs ∧ Same F1 F2 ∧ for3 gg f (ds.drop u) ρ kvs = some r, ⟨ds.length, rfl, Nat.zero_le _, F1, ρ, kvs, S.step s1, hn, hd.step s1, Same.refl _, e2⟩, fun u m σ2 H2 ⟨em, hu, F2, ρ2, kvs2, S2, hn2, hd2, sm, hw2⟩ => ?_⟩
  subst em
  by_cases hlt : u < ds.length
  · right
    obtain ⟨_, jg⟩ := jd u F2 H2 sm S2.en.fh
    obtain ⟨go, yl⟩ := jg ds[u] (List.getElem?_eq_getElem hlt)
    rw [List.drop_eq_getElem_cons hlt] at hw2
    unfold for3 at hw2
    obtain ⟨ρ3, c1, c2⟩ := bind_some hw2
    obtain ⟨r3, c3, c4⟩ := bind_some c2
    refine ⟨go, fun σ H => (ds.length - (u + 1)) = ds.length - (u + 1) ∧ u + 1 ≤ ds.length ∧ ∃ F2 ρ kvs, Sn X.K C [] F0 H0 F2 H σ ρ ∧ lk ρ i = none ∧ HasD i σ H0 F2 H kvs ∧ Same F1 F2 ∧ for3 gg f (ds.drop (u + 1)) ρ kvs = some r, fun σ' H' q => ⟨_, by omega, q⟩, fun x H3 y => ?_⟩
    obtain ⟨F3, s3, r3'⟩ := yl x H3 y
    refine ⟨F3, ρ2, ds[u], ρ3, S2.en.step s3, r3', c1, fun σ4 E4 bar kp => ⟨F0, H0, F3, ρ3, kvs2, r3, (S2.step s3).keep E4 kp, hgn _ _ _ c1 hn2, ?_, c3, fun σ' F' H' S' hn' hd' sm' => ⟨rfl, hlt, F', r3.1, r3.2, S', hn', hd', sm.trans (s3.ff.trans sm'), c4⟩⟩⟩
    obtain ⟨p, g1, g2⟩ := hd2.step s3
    exact ⟨p, by rw [bar.2 i hw]; exact g1, g2⟩
  · left
    have ei : u = ds.length := by omega
    subst ei
    obtain ⟨js, _⟩ := jd ds.length F2 H2 sm S2.en.fh
    rw [List.drop_length] at hw2
    cases hw2
    exact ⟨js rfl, k σ2 F2 H2 S2 hn2 hd2 (s1.ff.trans sm)⟩
theorem gN_none {j : Nat} (h : j ≠ i) : ∀ d ρ ρ', gN j d ρ = some ρ' → lk ρ i = none → lk ρ' i = none := fun d ρ ρ' e q => by
  cases e
  rw [lk_st_ne (Ne.symm h)]
  exact q
/-- i = {} and the statement that fills it -/
theorem dss_dic {x : Str} {p1 p2 p3 : Pos} {O' : List Nat} {h : DS} (hN : X.N.Nodup) (h1 : PS X s (t3 X.K C i f)) (h2 : DSs X C [] O' ss h) (hf : X.fn x = true ∨ X.env.scope.names.lookup x = some NameKind.local := by first | exact Or.inl rfl | exact Or.inr rfl | assumption) (hi : X.N[i]? = some x := by rfl) (hx : Loc X.env.scope x := by first | exact Or.inl rfl | exact Or.inr rfl)
    (hs : swapsWithSole [.Name x p1] (.Dict [] [] p2) p3.line X.env = pure false := by rfl) (hw : swappedStores [.Name x p1] (.Dict [] [] p2) X.env = pure none := by rfl) :
    DSs X C [] O' (.Assign [.Name x p1] (.Dict [] [] p2) p3 :: s :: ss) (dSeq (dDic i f) h) := PSsw (pss_cons (ps_asg pe_dnewT (pg_name hN hi hx hf) hs hw) (pss_cons h1 h2)) fun Z σ H ⟨F0, H0, F, ρ, r, S, hf, k⟩ => by
  obtain ⟨r1, e1, e2⟩ := bind_some hf
  unfold dDic at e1
  split at e1
  · rename_i hl
    obtain ⟨r2, e3, e4⟩ := bind_some e1
    cases e4
    intro p hp
    have E := S.en.unset (i := i)
    have hil : i < σ.length := by rw [S.en.len]; exact hl
    have fp : F p = none := S.en.fh.free hp
    have h0p : H0 p = none := S.sp.hh.free hp
    have s1 : Stp F H F (upd H p (.dT [])) := Stp.own S.en.fh hp
    refine ⟨F0, H0, F, un ρ i, [], r2, ⟨⟨s1.fh, by rw [List.length_set, un_len]; exact S.en.len, fun j d hj q => ?_, fun j d hj => absurd hj List.not_mem_nil, fun j k d e p hj => absurd hj List.not_mem_nil⟩, S.sp.trans s1, fun j d q hj => absurd hj List.not_mem_nil⟩, lk_un_same, ⟨p, List.getElem?_set_self hil, upd_same, fp, h0p⟩, e3, fun σ' F' H' S' hn' hd' sm' => ?_⟩
    · by_cases hji : j = i
      · subst hji
        rw [lk_un_same] at q
        cases q
      · rw [lk_un_ne hji] at q
        rw [List.getElem?_set_ne (Ne.symm hji)]
        exact S.en.pl j d List.not_mem_nil q
    · obtain ⟨q, g1, g2, g3, g4⟩ := hd'
      have sm2 : Same F' (upd F' q (.dT (encD r2.2))) := same_upd g3
      refine ⟨F0, H0, upd F' q (.dT (encD r2.2)), st r2.1 i (.ext (.dic r2.2)), r, ⟨⟨fun b o e => ?_, by rw [st_len]; exact S'.en.len, fun j d hj z => ?_, fun j d hj => absurd hj List.not_mem_nil, fun j k d e p hj => absurd hj List.not_mem_nil⟩, ⟨S'.sp.ff.trans sm2, S'.sp.hh, fun b o e => ?_, fun b o e => ?_⟩, fun j d q hj => absurd hj List.not_mem_nil⟩, e2, k.mono (sm'.trans sm2)⟩
      · by_cases z : b = q
        · subst z
          rw [upd_same] at e
          rw [← e]
          exact g2
        · rw [upd_ne z] at e
          exact S'.en.fh b o e
      · by_cases hji : j = i
        · subst hji
          have := lk_st_same z
          subst this
          exact ⟨.ref q, g1, q, rfl, upd_same⟩
        · rw [lk_st_ne hji] at z
          obtain ⟨v, y1, y2⟩ := S'.en.pl j d List.not_mem_nil z
          exact ⟨v, y1, Rp.mono sm2 _ _ y2⟩
      · by_cases z : b = q
        · subst z
          rw [upd_same] at e
          rw [← e]
          exact g2
        · rw [upd_ne z] at e
          exact S'.en.fh b o e
      · rw [upd_ne (ne_of_none e g4)]
        exact S'.sp.old b o e
  · cases e1
def opDget : D → D → Option D
  | .ext (.dic kvs), k => (asKey k).bind fun n => (valI kvs n).bind fun v => some (.int v)
  | _, _ => none
def opDin : D → D → Option D
  | k, .ext (.dic kvs) => (asKey k).bind fun n => some (.bl (valI kvs n).isSome)
  | _, _ => none
def opDnin : D → D → Option D
  | k, .ext (.dic kvs) => (asKey k).bind fun n => some (.bl (!(valI kvs n).isSome))
  | _, _ => none
variable {O : List Nat} {a b : Expr} {fa fb : DF}
theorem de_dget (hu : X.A.units + 1 < cLine) (ha : DE X C O a fa) (hb : DE X C O b fb) (hs : NoSl b := by exact fun _ _ => rfl) : DE X C O (.Subscript a b pos) (d2 opDget fa fb) := PEw (pe_dget hu ha hb hs) fun σ H Q ⟨F, ρ, d, E, hf, k⟩ => by
  obtain ⟨x, h1, hf⟩ := bind_some hf
  obtain ⟨y, h2, hf⟩ := bind_some hf
  refine ⟨F, ρ, x, E, h1, fun v F1 H1 s1 r1 => ⟨F1, ρ, y, E.step s1, h2, fun u F2 H2 s2 r2 => ?_⟩⟩
  match x, hf, r1 with
  | .ext (.dic kvs), hf, r1 =>
    obtain ⟨n, h3, hf⟩ := bind_some hf
    obtain ⟨w, h4, hf⟩ := bind_some hf
    cases hf
    obtain ⟨p, rfl, hp⟩ := r1
    obtain ⟨q, rfl, hq⟩ := key_at h3 r2 s2.fh
    have g := DGet.t (s2.fh _ _ (s2.ff _ _ hp)) hq
    rw [valV_enc, h4] at g
    exact ⟨p, _, rfl, g, k _ F2 H2 (s1.trans s2) rfl⟩
theorem pc_dinD (hu : X.A.units + 1 < cLine) (ha : DE X C O a fa) (hb : DE X C O b fb) : PC X .In a b (tD X.K C O (d2 opDin fa fb)) := by
  refine ⟨fun pins s σ H Q I hw => (pc_din hu ha hb).run pins s σ H Q I ?_⟩
  obtain ⟨F, ρ, d, E, hf, k⟩ := hw
  obtain ⟨x, h1, hf⟩ := bind_some hf
  obtain ⟨y, h2, hf⟩ := bind_some hf
  refine ⟨F, ρ, x, E, h1, fun v F1 H1 s1 r1 => ⟨F1, ρ, y, E.step s1, h2, fun u F2 H2 s2 r2 => ?_⟩⟩
  match y, hf, r2 with
  | .ext (.dic kvs), hf, r2 =>
    have hf : (asKey x).bind (fun n => some (D.bl (valI kvs n).isSome)) = some d := by cases x <;> exact hf
    obtain ⟨n, h3, hf⟩ := bind_some hf
    cases hf
    obtain ⟨p, rfl, hp⟩ := r2
    obtain ⟨q, rfl, hq⟩ := key_at h3 (Rp.mono s2.ff _ _ r1) s2.fh
    have g := DGet.t (s2.fh _ _ hp) hq
    refine ⟨p, _, rfl, g, ?_⟩
    rw [valV_enc, Option.isSome_map]
    exact k _ F2 H2 (s1.trans s2) rfl
theorem pc_dninD (hu : X.A.units + 1 < cLine) (ha : DE X C O a fa) (hb : DE X C O b fb) : PC X .NotIn a b (tD X.K C O (d2 opDnin fa fb)) := by
  refine ⟨fun pins s σ H Q I hw => (pc_dnotin hu ha hb).run pins s σ H Q I ?_⟩
  obtain ⟨F, ρ, d, E, hf, k⟩ := hw
  obtain ⟨x, h1, hf⟩ := bind_some hf
  obtain ⟨y, h2, hf⟩ := bind_some hf
  refine ⟨F, ρ, x, E, h1, fun v F1 H1 s1 r1 => ⟨F1, ρ, y, E.step s1, h2, fun u F2 H2 s2 r2 => ?_⟩⟩
  match y, hf, r2 with
  | .ext (.dic kvs), hf, r2 =>
    have hf : (asKey x).bind (fun n => some (D.bl (!(valI kvs n).isSome))) = some d := by cases x <;> exact hf
    obtain ⟨n, h3, hf⟩ := bind_some hf
    cases hf
    obtain ⟨p, rfl, hp⟩ := r2
    obtain ⟨q, rfl, hq⟩ := key_at h3 (Rp.mono s2.ff _ _ r1) s2.fh
    have g := DGet.t (s2.fh _ _ hp) hq
    refine ⟨p, _, rfl, g, ?_⟩
    rw [valV_enc, Option.isSome_map]
    exact k _ F2 H2 (s1.trans s2) rfl
theorem tB_bV {K : PySem.W.Frag} {f : DF} : ∀ σ H Q, tDT K C O (bV f) σ H Q → tB (tD K C O f) σ H Q := fun σ H Q ⟨F, ρ, t, E, hf, k⟩ => by
  obtain ⟨d, h1, h2⟩ := bind_some hf
  refine ⟨F, ρ, d, E, h1, fun v F' H' s' r' => ?_⟩
  obtain rfl := asB_some h2
  exact ⟨t, r', k F' H' s'⟩
theorem dt_din (hu : X.A.units + 1 < cLine) (ha : DE X C O a fa) (hb : DE X C O b fb) (h1 : behindInMarks .In b = false := by first | exact nomark _ | rfl | with_unfolding_all rfl) : DT X C O (.Compare a [.In] [b] pos) (bV (d2 opDin fa fb)) := PTw (pt_cmp (pc_dinD hu ha hb) h1) tB_bV
theorem dt_dnin (hu : X.A.units + 1 < cLine) (ha : DE X C O a fa) (hb : DE X C O b fb) (h1 : behindInMarks .NotIn b = false := by first | exact nomark _ | rfl | with_unfolding_all rfl) : DT X C O (.Compare a [.NotIn] [b] pos) (bV (d2 opDnin fa fb)) := PTw (pt_cmp (pc_dninD hu ha hb) h1) tB_bV
end
end DL
namespace Mi
open DL
def m_gcd_b1 : DS := (dPar 0 1 (dv 1) (d2 opMod (dv 0) (dv 1)))
def m_gcd : List D → Option D := runD 2 2 ((dSeq (dWhile (bV (d2 opGt (dv 1) (dc (.int 0)))) m_gcd_b1)
    (dRet (dv 0))))
def m_lcm : List D → Option D := runD 2 2 ((dRet (d2 opMul (d2 opFdiv (dv 0) (dL m_gcd (dcons (dv 0) (dcons (dv 1) dnil)))) (dv 1))))
def m_law_cell : List D → Option D := runD 2 2 ((dSeq (dIfS (bV (d2 opLt (dv 1) (dL opLen (dcons (dv 0) dnil)))) (dRet (d2 opIx (dv 0) (dv 1))) dNx)
    (dSeq (dIfS (bV (d2 opEq (dL opLen (dcons (dv 0) dnil)) (dc (.int 0)))) (dRet (d2 opAdd (d2 opMul (dc (.int 7919)) (dv 1)) (dc (.int 101)))) dNx)
    (dRet (d2 opAdd (d2 opMod (d2 opIx (dv 0) (d2 opMod (dv 1) (dL opLen (dcons (dv 0) dnil)))) (dc (.int 1000003))) (d2 opMul (dc (.int 7919)) (dv 1)))))))
def m_law_digits_b1 : DS := (dSeq (dSet 9 (d2 opMul (d2 opMod (dv 5) (d2 opIx (dv 4) (d2 opMod (dv 8) (dc (.int 8))))) (d2 opAdd (dc (.int 48271)) (d2 opMul (d2 opMul (dc (.int 2)) (dv 8)) (dv 8)))))
    (dSeq (dSet 9 (d2 opAdd (d2 opAdd (dv 9) (d2 opMul (d2 opMul (dc (.int 7919)) (d2 opAdd (dv 8) (dc (.int 1)))) (d2 opAdd (dv 8) (dc (.int 1))))) (d2 opMul (dc (.int 104729)) (dv 1))))
    (dSeq (dSet 9 (d2 opMod (dv 9) (d2 opIx (dv 4) (d2 opMod (d2 opAdd (d2 opMul (dc (.int 3)) (dv 8)) (dv 1)) (dc (.int 8))))))
    (dSeq (dSet 9 (d2 opMod (d2 opMul (d2 opMul (dv 9) (dv 9)) (dv 9)) (d2 opIx (dv 4) (d2 opMod (d2 opAdd (dv 8) (dc (.int 5))) (dc (.int 8))))))
    (dSeq (dIfS (bV (d2 opGt (dv 6) (dc (.int 0)))) (dSet 9 (dv 6)) dNx)
    (dSeq (dApp 7 (d2 opMod (dv 9) (dv 3)))
    (dSet 6 (d2 opFdiv (dv 6) (dv 3)))))))))
def m_law_digits : List D → Option D := runD 10 4 ((dSeq (dSet 4 (dL opTup (dcons (dc (.int 2147483647)) (dcons (dc (.int 2147483629)) (dcons (dc (.int 2147483587)) (dcons (dc (.int 2147483579)) (dcons (dc (.int 2147483563)) (dcons (dc (.int 2147483549)) (dcons (dc (.int 2147483543)) (dcons (dc (.int 2147483497)) dnil))))))))))
    (dSeq (dSet 5 (dL m_law_cell (dcons (dv 0) (dcons (dv 1) dnil))))
    (dSeq (dSet 6 (dIf (bV (d2 opGe (dv 5) (d2 opPow (dc (.int 10)) (dc (.int 18))))) (dv 5) (dc (.int 0))))
    (dSeq (dSetN 7 (nLst dnil))
    (dSeq (dFor (iRng1 (dcons (dv 2) dnil)) (gN 8) m_law_digits_b1)
    (dRet (dv 7))))))))
def m_law_gcd_b1 : DS := (dPar 0 1 (dv 1) (d2 opMod (dv 0) (dv 1)))
def m_law_gcd : List D → Option D := runD 2 2 ((dSeq (dWhile (bV (d2 opGt (dv 1) (dc (.int 0)))) m_law_gcd_b1)
    (dRet (dv 0))))
def m_law_lcm : List D → Option D := runD 2 2 ((dRet (d2 opFdiv (d2 opMul (dv 0) (dv 1)) (dL m_law_gcd (dcons (dv 0) (dcons (dv 1) dnil))))))
end Mi
namespace Mi
open DL
end Mi
namespace Mi
open DL
end Mi
namespace Mi
open DL
end Mi
namespace Mi
open DL
end Mi
namespace Mi
open DL
end Mi
namespace Mi
open DL
end Mi
namespace Mi
open DL
end Mi
namespace Mi
open DL
end Mi
namespace Mi
open DL
end Mi
namespace Mi
open DL
end Mi
namespace Mi
open DL
end Mi
namespace Mi
open DL
end Mi
namespace Mi
open DL
end Mi
namespace Mi
open DL
def m_is_integer : List D → Option D := runD 3 3 ((dRet (dAnd (d1 (opIsi "int") (dv 0)) (dAnd (dNot (d1 (opIsi "bool") (dv 0))) (dCh opLe opLe (dv 1) (dv 0) (dv 2))))))
def m_meetings_c1 : DF := (dComp (iSeq (dv 1)) (gT (gsCons (gN 3) (gsCons (gN 4) gsNil))) bYes (dL opTup (dcons (d2 opAdd (dv 3) (dc (.int 1))) (dcons (dL m_lcm (dcons (dv 4) (dcons (dv 2) dnil))) dnil))) [3, 4])
def m_meetings_b1 : DS := (dSet 1 (d2 opAdd (dv 1) m_meetings_c1))
def m_meetings : List D → Option D := runD 5 1 ((dSeq (dSet 1 (dL opLst (dcons (dL opTup (dcons (dc (.int 0)) (dcons (dc (.int 1)) dnil))) dnil)))
    (dSeq (dFor (iSeq (d1 opPer (dv 0))) (gN 2) m_meetings_b1)
    (dRet (dv 1)))))
def m_choose_b1 : DS := (dSet 2 (d2 opFdiv (d2 opMul (dv 2) (d2 opSub (dv 0) (dv 3))) (d2 opAdd (dv 3) (dc (.int 1)))))
def m_choose : List D → Option D := runD 4 2 ((dSeq (dSet 2 (dc (.int 1)))
    (dSeq (dFor (iRng1 (dcons (dv 1) dnil)) (gN 3) m_choose_b1)
    (dRet (dv 2)))))
def m_just_to_b1 : DS := (dIfS (bV (d2 opGe (dv 4) (dv 1))) (dSet 3 (d2 opAdd (dv 3) (d2 opMul (d2 opMul (d2 opAdd (d2 opFdiv (dv 2) (dv 5)) (dc (.int 1))) (dL m_choose (dcons (dv 4) (dcons (dv 1) dnil)))) (dIf (bV (d2 opEq (d2 opMod (d2 opSub (dv 4) (dv 1)) (dc (.int 2))) (dc (.int 0)))) (dc (.int 1)) (d1 opNeg (dc (.int 1))))))) dNx)
def m_just_to : List D → Option D := runD 6 3 ((dSeq (dSet 3 (dc (.int 0)))
    (dSeq (dFor (iSeq (dv 0)) (gT (gsCons (gN 4) (gsCons (gN 5) gsNil))) m_just_to_b1)
    (dRet (dv 3)))))
def m_count_just : List D → Option D := runD 5 4 ((dSeq (dSet 4 (dL m_meetings (dcons (dv 0) dnil)))
    (dRet (dIf (bV (d2 opLe (dv 2) (dv 3))) (d2 opSub (dL m_just_to (dcons (dv 4) (dcons (dv 1) (dcons (dv 3) dnil)))) (dL m_just_to (dcons (dv 4) (dcons (dv 1) (dcons (d2 opSub (dv 2) (dc (.int 1))) dnil))))) (dc (.int 0))))))
def m_law_bells_b1 : DS := (dSet 2 (d2 opAdd (dv 2) (dL opTup (dcons (d2 opAdd (dc (.int 1)) (d2 opMod (d2 opIx (dv 0) (d2 opAdd (dc (.int 1)) (dv 3))) (d2 opIx (dL opLst (dcons (dc (.int 6)) (dcons (dc (.int 12)) (dcons (dv 1) dnil)))) (d2 opMod (d2 opIx (dv 0) (dc (.int 7))) (dc (.int 3)))))) dnil))))
def m_law_bells : List D → Option D := runD 4 2 ((dSeq (dSet 2 (dL opTup dnil))
    (dSeq (dFor (iRng1 (dcons (d2 opAdd (dc (.int 1)) (d2 opMod (d2 opIx (dv 0) (dc (.int 0))) (dc (.int 5)))) dnil)) (gN 3) m_law_bells_b1)
    (dRet (dv 2)))))
def m_law_tower : List D → Option D := runD 1 1 ((dSeq (dIfS (bV (d2 opEq (dL opLen (dcons (dv 0) dnil)) (dc (.int 1)))) (dRet (dL opBells (dcons (d2 opIx (dv 0) (dc (.int 0))) dnil))) dNx)
    (dSeq (dIfS (bV (d2 opEq (dL opLen (dcons (dv 0) dnil)) (dc (.int 2)))) (dRet (dL opBells (dcons (d2 opIx (dv 0) (dc (.int 0))) (dcons (d2 opIx (dv 0) (dc (.int 1))) dnil)))) dNx)
    (dSeq (dIfS (bV (d2 opEq (dL opLen (dcons (dv 0) dnil)) (dc (.int 3)))) (dRet (dL opBells (dcons (d2 opIx (dv 0) (dc (.int 0))) (dcons (d2 opIx (dv 0) (dc (.int 1))) (dcons (d2 opIx (dv 0) (dc (.int 2))) dnil))))) dNx)
    (dSeq (dIfS (bV (d2 opEq (dL opLen (dcons (dv 0) dnil)) (dc (.int 4)))) (dRet (dL opBells (dcons (d2 opIx (dv 0) (dc (.int 0))) (dcons (d2 opIx (dv 0) (dc (.int 1))) (dcons (d2 opIx (dv 0) (dc (.int 2))) (dcons (d2 opIx (dv 0) (dc (.int 3))) dnil)))))) dNx)
    (dRet (dL opBells (dcons (d2 opIx (dv 0) (dc (.int 0))) (dcons (d2 opIx (dv 0) (dc (.int 1))) (dcons (d2 opIx (dv 0) (dc (.int 2))) (dcons (d2 opIx (dv 0) (dc (.int 3))) (dcons (d2 opIx (dv 0) (dc (.int 4))) dnil))))))))))))
def m_law_ringing_c1 : DF := (dComp (iEn (dcons (dv 0) dnil)) (gT (gsCons (gN 2) (gsCons (gN 3) gsNil))) (bV (d2 opEq (d2 opMod (dL opInt (dcons (dv 1) dnil)) (dv 3)) (dc (.int 0)))) (dv 2) [2, 3])
def m_law_ringing : List D → Option D := runD 4 2 ((dRet (dL opTuple (dcons m_law_ringing_c1 dnil))))
def m_init_c1 : DF := (dComp (iSeq (dv 1)) (gN 2) bYes (dL m_is_integer (dcons (dv 2) (dcons (dc (.int 1)) (dcons (dc (.int 1000)) dnil)))) [2])
def m_init_t : DB := (bOr (bNot (bV (dCh opLe opLe (dc (.int 1)) (dL opLen (dcons (dv 1) dnil)) (dc (.int 5))))) (bNot (bV (dL opAll (dcons m_init_c1 dnil)))))
end Mi
namespace Mi
open DL
end Mi
namespace Mi
open DL
def m_first_with_b1 : DS := (dSet 3 (dL m_lcm (dcons (dv 3) (dcons (d2 opIx (d1 opPer (dv 0)) (dv 4)) dnil))))
def m_first_with_c1 : DF := (dComp (iEn (dcons (d1 opPer (dv 0)) dnil)) (gT (gsCons (gN 4) (gsCons (gN 8) gsNil))) (bV (d2 opNotIn (dv 4) (dv 1))) (dv 8) [4, 8])
def m_first_with_c2 : DF := (dComp (iSeq (dv 5)) (gN 8) bYes (d2 opFdiv (dv 8) (dL m_gcd (dcons (dv 8) (dcons (dv 3) dnil)))) [8])
def m_first_with_c3 : DF := (dComp (iSeq (dv 6)) (gN 9) bYes (d2 opEq (d2 opMod (dv 7) (dv 9)) (dc (.int 0))) [9])
def m_first_with_b2 : DS := (dAug 7 (dc (.int 1)))
def m_first_with : List D → Option D := runD 10 3 ((dSeq (dSet 3 (dc (.int 1)))
    (dSeq (dFor (iSeq (dv 1)) (gN 4) m_first_with_b1)
    (dSeq (dSet 5 m_first_with_c1)
    (dSeq (dSet 6 m_first_with_c2)
    (dSeq (dIfS (bV (d2 opIn (dc (.int 1)) (dv 6))) (dRet (dc .non)) dNx)
    (dSeq (dSet 7 (d2 opFdiv (d2 opSub (d2 opAdd (dv 2) (dv 3)) (dc (.int 1))) (dv 3)))
    (dSeq (dWhile (bV (dL opAny (dcons m_first_with_c3 dnil))) m_first_with_b2)
    (dRet (d2 opMul (dv 7) (dv 3)))))))))))
end Mi
namespace Mi
open DL
end Mi
namespace Mi
open DL
end Mi
namespace Mi
open DL
def m_law_sets_2_c1 : DF := (dComp (iSeq (dv 1)) (gN 3) bYes (d2 opAdd (dv 3) (dL opTup (dcons (dv 2) dnil))) [3])
def m_law_sets_2_b1 : DS := (dSet 1 (d2 opAdd (dv 1) m_law_sets_2_c1))
def m_law_sets_2 : List D → Option D := runD 4 1 ((dSeq (dSet 1 (dL opLst (dcons (dL opTup dnil) dnil)))
    (dSeq (dFor (iRng1 (dcons (dv 0) dnil)) (gN 2) m_law_sets_2_b1)
    (dRet (dv 1)))))
def m_law_long_b1 : DS := (dSet 2 (dL m_law_lcm (dcons (dv 2) (dcons (d2 opIx (dv 0) (dv 3)) dnil))))
def m_law_long_c1 : DF := (dComp (iEn (dcons (dv 0) dnil)) (gT (gsCons (gN 3) (gsCons (gN 5) gsNil))) (bV (d2 opNotIn (dv 3) (dv 1))) (dv 5) [3, 5])
def m_law_long_c2 : DF := (dComp (iSeq (dv 4)) (gN 5) (bV (d2 opEq (d2 opMod (dv 2) (dv 5)) (dc (.int 0)))) (dc (.int 1)) [5])
def m_law_long : List D → Option D := runD 6 2 ((dSeq (dSet 2 (dc (.int 1)))
    (dSeq (dFor (iSeq (dv 1)) (gN 3) m_law_long_b1)
    (dSeq (dSet 4 m_law_long_c1)
    (dRet (dL opTup (dcons (dv 2) (dcons (d2 opNe m_law_long_c2 (dL opLst dnil)) dnil))))))))
def m_k28_d1 : D3 := (c3Seq (c3Set 8 (dL m_law_ringing (dcons (dv 3) (dcons (dv 7) dnil))))
    (c3Seq (c3Put (dv 8) (dv 8) (dv 7))
    c3Nx))
def m_k28_c1 : DF := (dComp (iRng2 (dcons (dc (.int 1)) (dcons (dc (.int 9)) dnil))) (gN 14) bYes (d2 opSub (dv 9) (d2 opMul (dv 14) (dv 10))) [14])
def m_k28_c2 : DF := (dComp (iSeq (dv 12)) (gN 7) (bAnd (bV (d2 opGe (dv 7) (dv 5))) (bV (d2 opEq (dL m_law_ringing (dcons (dv 3) (dcons (dv 7) dnil))) (dv 8)))) (dc (.int 1)) [7])
def m_k28_b1 : DS := (dSeq (dAsg (gT (gsCons (gN 9) (gsCons (gT (gsCons (gN 10) (gsCons (gN 11) gsNil))) gsNil))) (dL opTup (dcons (dL m_first_with (dcons (dv 4) (dcons (dv 8) (dcons (dv 5) dnil)))) (dcons (dL m_law_long (dcons (dv 3) (dcons (dv 8) dnil))) dnil))))
    (dSeq (dIfS (bOr (bV (d2 opNe (d2 opIs (dv 9) (dc .non)) (dv 11))) (bAnd (bV (d2 opDin (dv 8) (dv 6))) (bV (d2 opNe (dv 9) (d2 opDget (dv 6) (dv 8)))))) (dRet (dc (.bl false))) dNx)
    (dIfS (bAnd (bV (d2 opIsNot (dv 9) (dc .non))) (bV (d2 opDnin (dv 8) (dv 6)))) (dSeq (dIfS (bOr (bV (d2 opLt (dv 9) (d2 opAdd (dv 5) (dc (.int 500))))) (bV (d2 opNe (dL m_law_ringing (dcons (dv 3) (dcons (dv 9) dnil))) (dv 8)))) (dRet (dc (.bl false))) dNx)
    (dSeq (dSet 12 m_k28_c1)
    (dIfS (bV (d2 opNe m_k28_c2 (dL opLst dnil))) (dRet (dc (.bl false))) dNx))) dNx)))
def m_k28_b2 : DS := (dSeq (dSet 2 (dL m_law_digits (dcons (dv 0) (dcons (dv 1) (dcons (dc (.int 40)) (dcons (dc (.int 27720)) dnil))))))
    (dSeq (dSet 3 (dL m_law_bells (dcons (dv 2) (dcons (dc (.int 40)) dnil))))
    (dSeq (dPar 4 5 (dL m_law_tower (dcons (dv 3) dnil)) (d2 opMod (d2 opIx (dv 2) (dc (.int 10))) (dc (.int 200))))
    (dSeq (dDic 6 (c3For (iRng2 (dcons (dv 5) (dcons (d2 opAdd (dv 5) (dc (.int 500))) dnil))) (gN 7) m_k28_d1))
    (dSeq (dFor (iSeq (dL m_law_sets_2 (dcons (dL opLen (dcons (dv 3) dnil)) dnil))) (gN 8) m_k28_b1)
    (dSeq (dSet 8 (d2 opIx (dL m_law_sets_2 (dcons (dL opLen (dcons (dv 3) dnil)) dnil)) (d2 opMod (d2 opIx (dv 2) (dc (.int 12))) (dL opLen (dcons (dL m_law_sets_2 (dcons (dL opLen (dcons (dv 3) dnil)) dnil)) dnil)))))
    (dSeq (dSet 13 (d2 opSub (d2 opPow (dc (.int 10)) (dc (.int 15))) (d2 opIx (dv 2) (dc (.int 13)))))
    (dSeq (dSet 9 (dL m_first_with (dcons (dv 4) (dcons (dv 8) (dcons (dv 13) dnil)))))
    (dIfS (bV (d2 opIsNot (dv 9) (dc .non))) (dSeq (dIfS (bOr (bV (d2 opLt (dv 9) (dv 13))) (bV (d2 opNe (dL m_law_ringing (dcons (dv 3) (dcons (dv 9) dnil))) (dv 8)))) (dRet (dc (.bl false))) dNx)
    (dSeq (dIfS (bAnd (bV (d2 opLe (dv 9) (d2 opPow (dc (.int 10)) (dc (.int 15))))) (bV (d2 opNe (dL m_count_just (dcons (dv 4) (dcons (dL opLen (dcons (dv 8) dnil)) (dcons (dv 9) (dcons (dv 9) dnil))))) (dc (.int 1))))) (dRet (dc (.bl false))) dNx)
    (dIfS (bV (d2 opNe (dL m_first_with (dcons (dv 4) (dcons (dv 8) (dcons (dL opMin (dcons (dv 9) (dcons (d2 opPow (dc (.int 10)) (dc (.int 15))) dnil))) dnil)))) (dv 9))) (dRet (dc (.bl false))) dNx))) dNx)))))))))
def m_k28_c3 : DF := (dComp (iSeq (dL opTup (dcons (dL opTup (dcons (dc (.int 0)) dnil)) (dcons (dL opTup (dcons (dc (.int 1)) dnil)) (dcons (dL opTup (dcons (dc (.int 0)) (dcons (dc (.int 1)) dnil))) (dcons (dL opTup dnil) dnil)))))) (gN 8) bYes (dL m_first_with (dcons (dL opBells (dcons (dc (.int 4)) (dcons (dc (.int 6)) dnil))) (dcons (dv 8) (dcons (dc (.int 1)) dnil)))) [8])
def m_k28 : List D → Option D := runD 15 1 ((dSeq (dFor (iRng1 (dcons (dc (.int 8)) dnil)) (gN 1) m_k28_b2)
    (dSeq (dIfS (bV (d2 opNe m_k28_c3 (dL opLst (dcons (dc (.int 4)) (dcons (dc (.int 6)) (dcons (dc (.int 12)) (dcons (dc (.int 1)) dnil))))))) (dRet (dc (.bl false))) dNx)
    (dSeq (dIfS (bOr (bV (d2 opIsNot (dL m_first_with (dcons (dL opBells (dcons (dc (.int 4)) (dcons (dc (.int 8)) dnil))) (dcons (dL opTup (dcons (dc (.int 1)) dnil)) (dcons (dc (.int 0)) dnil)))) (dc .non))) (bV (d2 opIsNot (dL m_first_with (dcons (dL opBells (dcons (dc (.int 1)) dnil)) (dcons (dL opTup dnil) (dcons (dc (.int 0)) dnil)))) (dc .non)))) (dRet (dc (.bl false))) dNx)
    (dRet (d2 opEq (dL m_first_with (dcons (dL opBells (dcons (dc (.int 4)) (dcons (dc (.int 6)) dnil))) (dcons (dL opTup dnil) (dcons (dc (.int 0)) dnil)))) (dc (.int 1))))))))
end Mi
namespace Mi
open DL
def bnd {α β : Type} (x : Option α) (f : α → Option β) : Option β := x.bind f
@[simp] theorem bnd_some {α β : Type} (x : α) (f : α → Option β) : bnd (some x) f = f x := (rfl)
@[simp] theorem bnd_none {α β : Type} (f : α → Option β) : bnd none f = none := (rfl)
section
variable {ρ : Rho} {x y z : D}
@[simp] theorem p_dc : dc x ρ = some x := (rfl)
@[simp] theorem p_dv (i : Nat) : dv i ρ = lk ρ i := (rfl)
@[simp] theorem lk_z (a : Option D) (r : Rho) : lk (a :: r) 0 = a := (rfl)
@[simp] theorem lk_s (a : Option D) (r : Rho) (n : Nat) : lk (a :: r) (n + 1) = lk r n := (rfl)
@[simp] theorem st_z (a : Option D) (r : Rho) : st (a :: r) 0 x = some x :: r := (rfl)
@[simp] theorem st_s (a : Option D) (r : Rho) (n : Nat) : st (a :: r) (n + 1) x = a :: st r n x := (rfl)
@[simp] theorem un_z (a : Option D) (r : Rho) : un (a :: r) 0 = none :: r := (rfl)
@[simp] theorem un_s (a : Option D) (r : Rho) (n : Nat) : un (a :: r) (n + 1) = a :: un r n := (rfl)
@[simp] theorem wipe_n : wipeR ρ [] = ρ := (rfl)
@[simp] theorem wipe_c (v : Nat) (vs : List Nat) : wipeR ρ (v :: vs) = un (wipeR ρ vs) v := (rfl)
@[simp] theorem p_d2 (op : D → D → Option D) (f g : DF) : d2 op f g ρ = bnd (f ρ) fun x => bnd (g ρ) fun y => op x y := (rfl)
@[simp] theorem p_d1 (op : D → Option D) (f : DF) : d1 op f ρ = bnd (f ρ) op := (rfl)
@[simp] theorem p_dnil : dnil ρ = some [] := (rfl)
@[simp] theorem p_dcons (f : DF) (g : DFs) : dcons f g ρ = bnd (f ρ) fun x => bnd (g ρ) fun xs => some (x :: xs) := (rfl)
@[simp] theorem p_dL (op : List D → Option D) (f : DFs) : dL op f ρ = bnd (f ρ) op := (rfl)
@[simp] theorem p_asB (b : Bool) : asB (.bl b) = some b := (rfl)
@[simp] theorem p_asI (b : Int) : asI (.int b) = some b := (rfl)
@[simp] theorem p_asL (b : List D) : asL (.lst b) = some b := (rfl)
@[simp] theorem p_asSeqL (b : List D) : asSeq (.lst b) = some b := (rfl)
@[simp] theorem p_asSeqT (b : List D) : asSeq (.tup b) = some b := (rfl)
@[simp] theorem p_bV (f : DF) : bV f ρ = bnd (f ρ) asB := (rfl)
@[simp] theorem p_dB (g : DB) : dB g ρ = bnd (g ρ) fun b => some (.bl b) := (rfl)
@[simp] theorem p_bAnd (g h : DB) : bAnd g h ρ = bnd (g ρ) fun b => if b = true then h ρ else some false := (rfl)
@[simp] theorem p_bOr (g h : DB) : bOr g h ρ = bnd (g ρ) fun b => if b = true then some true else h ρ := (rfl)
@[simp] theorem p_bNot (g : DB) : bNot g ρ = bnd (g ρ) fun b => some (!b) := (rfl)
@[simp] theorem p_dIf (g : DB) (f h : DF) : dIf g f h ρ = bnd (g ρ) fun b => if b = true then f ρ else h ρ := (rfl)
@[simp] theorem p_dAnd (f g : DF) : dAnd f g ρ = bnd (f ρ) fun x => bnd (asB x) fun b => if b = true then g ρ else some (.bl false) := (rfl)
@[simp] theorem p_dOr (f g : DF) : dOr f g ρ = bnd (f ρ) fun x => bnd (asB x) fun b => if b = true then some (.bl true) else g ρ := (rfl)
@[simp] theorem p_dNot (f : DF) : dNot f ρ = bnd (f ρ) fun x => bnd (asB x) fun b => some (.bl (!b)) := (rfl)
@[simp] theorem p_dCh (o o' : D → D → Option D) (f g h : DF) : dCh o o' f g h ρ = bnd (f ρ) fun x => bnd (g ρ) fun y => bnd (o x y) fun z => bnd (asB z) fun k => if k = true then bnd (h ρ) fun w => o' y w else some (.bl false) := (rfl)
@[simp] theorem p_bYes : bYes ρ = some true := (rfl)
@[simp] theorem p_gN (i : Nat) : gN i x ρ = some (st ρ i x) := (rfl)
@[simp] theorem p_gT (h : DGs) (ds : List D) : gT h (.tup ds) ρ = h ds ρ := (rfl)
@[simp] theorem p_gsNil : gsNil [] ρ = some ρ := (rfl)
@[simp] theorem p_gsCons (g : DG) (h : DGs) (r : List D) : gsCons g h (x :: r) ρ = bnd (g x ρ) (h r) := (rfl)
@[simp] theorem p_dNx : dNx ρ = some (.nx ρ) := (rfl)
@[simp] theorem p_dRet (f : DF) : dRet f ρ = bnd (f ρ) fun d => some (.rt d) := (rfl)
@[simp] theorem p_dSet (i : Nat) (f : DF) : dSet i f ρ = bnd (f ρ) fun d => some (.nx (st ρ i d)) := (rfl)
@[simp] theorem p_dIfS (t : DB) (f g : DS) : dIfS t f g ρ = bnd (t ρ) fun b => if b = true then f ρ else g ρ := (rfl)
@[simp] theorem p_dAsg (g : DG) (f : DF) : dAsg g f ρ = bnd (f ρ) fun d => bnd (g d ρ) fun ρ' => some (.nx ρ') := (rfl)
@[simp] theorem p_dPar (i j : Nat) (f g : DF) : dPar i j f g ρ = bnd (f ρ) fun x => bnd (g ρ) fun y => some (.nx (st (st ρ i x) j y)) := (rfl)
@[simp] theorem p_dAug (i : Nat) (f : DF) : dAug i f ρ = bnd (lk ρ i) fun x => bnd (asI x) fun a => bnd (f ρ) fun y => bnd (asI y) fun b => some (.nx (st ρ i (.int (a + b)))) := (rfl)
@[simp] theorem p_dApp (i : Nat) (f : DF) : dApp i f ρ = bnd (f ρ) fun d => bnd (lk ρ i) fun x => bnd (asL x) fun ds => if ds.length < 16777216 then some (.nx (st ρ i (.lst (ds ++ [d])))) else none := (rfl)
@[simp] theorem p_dSetIx (i : Nat) (k f : DF) : dSetIx i k f ρ = bnd (f ρ) fun d => bnd (k ρ) fun j => bnd (asI j) fun n => bnd (lk ρ i) fun x => bnd (asL x) fun ds => bnd (ixNat ds.length n) fun m => some (.nx (st ρ i (.lst (ds.set m d)))) := (rfl)
@[simp] theorem p_nLst (f : DFs) : nLst f ρ = bnd (f ρ) fun ds => if ds.length ≤ 100000 then some ds else none := (rfl)
@[simp] theorem p_nRep (f g : DF) : nRep f g ρ = bnd (f ρ) fun x => bnd (asL x) fun ds => bnd (g ρ) fun y => bnd (asI y) fun k => if k ≤ 16777216 ∧ -16777216 ≤ k ∧ ds.length * k.toNat ≤ 16777216 then some (List.replicate k.toNat ds).flatten else none := (rfl)
@[simp] theorem p_nOf (f : DF) : nOf f ρ = bnd (f ρ) asSeq := (rfl)
@[simp] theorem p_dSetN (i : Nat) (f : DFs) : dSetN i f ρ = bnd (f ρ) fun ds => some (.nx (st ρ i (.lst ds))) := (rfl)
@[simp] theorem p_dParN1 (i j : Nat) (f : DFs) (g : DF) : dParN1 i j f g ρ = bnd (f ρ) fun ds => bnd (g ρ) fun y => some (.nx (st (st ρ i (.lst ds)) j y)) := (rfl)
@[simp] theorem p_dParNN (i j : Nat) (f g : DFs) : dParNN i j f g ρ = bnd (f ρ) fun ds => bnd (g ρ) fun es => some (.nx (st (st ρ i (.lst ds)) j (.lst es))) := (rfl)
@[simp] theorem p_iSeq (f : DF) : iSeq f ρ = bnd (f ρ) asSeq := (rfl)
@[simp] theorem p_iRng1 (f : DFs) : iRng1 f ρ = bnd (f ρ) opRng1 := (rfl)
@[simp] theorem p_iRng2 (f : DFs) : iRng2 f ρ = bnd (f ρ) opRng2 := (rfl)
@[simp] theorem p_oNo : oNo ρ = some none := (rfl)
@[simp] theorem p_oIx (f : DF) : oIx f ρ = bnd (f ρ) fun d => bnd (asIx d) fun i => some (some i) := (rfl)
@[simp] theorem p_dSl (f : DF) (l u : DOx) : dSl f l u ρ = bnd (f ρ) fun x => bnd (l ρ) fun lo => bnd (u ρ) fun hi => opSl lo hi x := (rfl)
@[simp] theorem p_asIx (i : Int) : asIx (.int i) = some i := (rfl)
@[simp] theorem p_opTup (ds : List D) : opTup ds = if ds.length ≤ 100000 then some (.tup ds) else none := (rfl)
@[simp] theorem p_opLst (ds : List D) : opLst ds = if ds.length ≤ 100000 then some (.lst ds) else none := (rfl)
@[simp] theorem p_lenT (ds : List D) : opLen [.tup ds] = some (.int ds.length) := (rfl)
@[simp] theorem p_lenL (ds : List D) : opLen [.lst ds] = some (.int ds.length) := (rfl)
@[simp] theorem p_lenS (ds : List Int) : opLen [.scr ds] = some (.int ds.length) := (rfl)
@[simp] theorem p_tupT (ds : List D) : opTuple [.tup ds] = some (.tup ds) := (rfl)
@[simp] theorem p_tupL (ds : List D) : opTuple [.lst ds] = some (.tup ds) := (rfl)
@[simp] theorem p_add (a b : Int) : opAdd (.int a) (.int b) = some (.int (a + b)) := (rfl)
@[simp] theorem p_sub (a b : Int) : opSub (.int a) (.int b) = some (.int (a - b)) := (rfl)
@[simp] theorem p_mul (a b : Int) : opMul (.int a) (.int b) = if mulOk a b = true then some (.int (a * b)) else none := (rfl)
@[simp] theorem p_lt (a b : Int) : opLt (.int a) (.int b) = some (.bl (decide (a < b))) := (rfl)
@[simp] theorem p_le (a b : Int) : opLe (.int a) (.int b) = some (.bl (decide (a ≤ b))) := (rfl)
@[simp] theorem p_gt (a b : Int) : opGt (.int a) (.int b) = some (.bl (decide (b < a))) := (rfl)
@[simp] theorem p_ge (a b : Int) : opGe (.int a) (.int b) = some (.bl (decide (b ≤ a))) := (rfl)
@[simp] theorem p_eqI (a b : Int) : opEq (.int a) (.int b) = some (.bl (decide (a = b))) := by
  by_cases h : a = b <;> simp [opEq, okD, eqD, h]
@[simp] theorem p_neI (a b : Int) : opNe (.int a) (.int b) = some (.bl (!decide (a = b))) := by
  by_cases h : a = b <;> simp [opNe, okD, eqD, h]
theorem dec_cast {p q : Prop} [Decidable p] [Decidable q] (h : p ↔ q) : some (D.bl (decide p)) = some (D.bl (decide q)) := by simp only [h]
@[simp high] theorem p_eqN (a b : Nat) : opEq (.int (a : Int)) (.int (b : Int)) = some (.bl (decide (a = b))) := by rw [p_eqI]; exact dec_cast (by omega)
@[simp high] theorem p_neN (a b : Nat) : opNe (.int (a : Int)) (.int (b : Int)) = some (.bl (!decide (a = b))) := by
  rw [p_neI]
  have : ((a : Int) = (b : Int)) ↔ a = b := by omega
  simp only [this]
@[simp high] theorem p_ltN (a b : Nat) : opLt (.int (a : Int)) (.int (b : Int)) = some (.bl (decide (a < b))) := by rw [p_lt]; exact dec_cast (by omega)
@[simp high] theorem p_leN (a b : Nat) : opLe (.int (a : Int)) (.int (b : Int)) = some (.bl (decide (a ≤ b))) := by rw [p_le]; exact dec_cast (by omega)
@[simp high] theorem p_gtN (a b : Nat) : opGt (.int (a : Int)) (.int (b : Int)) = some (.bl (decide (b < a))) := by rw [p_gt]; exact dec_cast (by omega)
@[simp high] theorem p_geN (a b : Nat) : opGe (.int (a : Int)) (.int (b : Int)) = some (.bl (decide (b ≤ a))) := by rw [p_ge]; exact dec_cast (by omega)
@[simp] theorem p_isN (d : D) : opIs d .non = some (.bl (isNone d)) := by cases d <;> rfl
@[simp] theorem p_isnN (d : D) : opIsNot d .non = some (.bl (!isNone d)) := by cases d <;> rfl
@[simp] theorem p_isB (a b : Bool) : opIs (.bl a) (.bl b) = some (.bl (decide (a = b))) := (rfl)
@[simp] theorem p_isnB (a b : Bool) : opIsNot (.bl a) (.bl b) = some (.bl (!decide (a = b))) := (rfl)
@[simp] theorem p_isNone_n : isNone .non = true := (rfl)
@[simp] theorem p_isNone_i (i : Int) : isNone (.int i) = false := (rfl)
@[simp] theorem p_isNone_t (i : List D) : isNone (.tup i) = false := (rfl)
@[simp] theorem p_isNone_l (i : List D) : isNone (.lst i) = false := (rfl)
@[simp] theorem p_appL (a b : List D) : opAdd (.lst a) (.lst b) = if a.length + b.length ≤ 16777216 then some (.lst (a ++ b)) else none := (rfl)
@[simp] theorem p_appT (a b : List D) : opAdd (.tup a) (.tup b) = if a.length + b.length ≤ 16777216 then some (.tup (a ++ b)) else none := (rfl)
end
theorem b_mc {α β : Type} (f : α → β) (a : α) (l : List α) : List.map f (a :: l) = f a :: List.map f l := (rfl)
theorem b_mn {α β : Type} (f : α → β) : List.map f [] = [] := (rfl)
theorem b_ac {α : Type} (a : α) (l r : List α) : (a :: l) ++ r = a :: (l ++ r) := (rfl)
theorem b_an {α : Type} (r : List α) : ([] : List α) ++ r = r := (rfl)
theorem b_rs {α : Type} (n : Nat) (a : α) : List.replicate (n + 1) a = a :: List.replicate n a := (rfl)
theorem b_rz {α : Type} (a : α) : List.replicate 0 a = [] := (rfl)
theorem b_lc {α : Type} (a : α) (l : List α) : (a :: l).length = l.length + 1 := (rfl)
theorem b_ln {α : Type} : ([] : List α).length = 0 := (rfl)
theorem b_it {α : Type} (a b : α) : (if True then a else b) = a := by simp
theorem b_if {α : Type} (a b : α) : (if False then a else b) = b := by simp
theorem b_itt {α : Type} (a b : α) : (if true = true then a else b) = a := by simp
theorem b_iff {α : Type} (a b : α) : (if false = true then a else b) = b := by simp
theorem mod_i {a : Int} {b : Nat} (h : 0 < b) : opMod (.int a) (.int b) = some (.int (a % b)) := by
  have h' : (0 : Int) < b := by omega
  simp only [opMod, if_pos h']
theorem mul_i {a b : Int} (h : -18446744073709551616 < b) (h2 : b < 18446744073709551616) : opMul (.int a) (.int b) = some (.int (a * b)) := by
  have : mulOk a b = true := by simp [mulOk, h, h2]
  simp only [opMul, if_pos this]
theorem mul_j {a b : Int} (h : -18446744073709551616 < a) (h2 : a < 18446744073709551616) : opMul (.int a) (.int b) = some (.int (a * b)) := by
  have : mulOk a b = true := by simp [mulOk, h, h2]
  simp only [opMul, if_pos this]
theorem mod_n {a b : Nat} (h : 0 < b) : opMod (.int a) (.int b) = some (.int ((a % b : Nat) : Int)) := by
  have h' : (0 : Int) < b := by omega
  simp only [opMod, if_pos h']
  try rfl
theorem div_n {a b : Nat} (h : 0 < b) (h2 : b < 18446744073709551616) : opFdiv (.int a) (.int b) = some (.int ((a / b : Nat) : Int)) := by
  have h' : (0 : Int) < b := by omega
  have h3 : (b : Int) < 18446744073709551616 := by omega
  simp only [opFdiv, if_pos (And.intro h' h3)]
  try rfl
theorem mulOk_r {a b : Nat} (h : b < 18446744073709551616) : mulOk a b = true := by
  have h3 : (b : Int) < 18446744073709551616 := by omega
  have h4 : (-18446744073709551616 : Int) < b := by omega
  simp [mulOk, h3, h4]
theorem mul_n {a b : Nat} (h : b < 18446744073709551616) : opMul (.int a) (.int b) = some (.int ((a * b : Nat) : Int)) := by
  simp [mulOk_r h]
theorem ixN {n i : Nat} (h : i < n) : ixNat n (i : Int) = some i := by
  have h1 : (0 : Int) ≤ i := by omega
  have h2 : (i : Int) < n := by omega
  simp [ixNat, h2]
theorem ixT {xs : List D} {i : Nat} {d : D} (h : xs[i]? = some d) : opIx (.tup xs) (.int i) = some d := by
  have hl : i < xs.length := by
    apply Classical.byContradiction
    intro q
    rw [List.getElem?_eq_none (by omega)] at h
    cases h
  simp [opIx, ixN hl, h]
theorem ixL {xs : List D} {i : Nat} {d : D} (h : xs[i]? = some d) : opIx (.lst xs) (.int i) = some d := by
  have hl : i < xs.length := by
    apply Classical.byContradiction
    intro q
    rw [List.getElem?_eq_none (by omega)] at h
    cases h
  simp [opIx, ixN hl, h]
theorem rng1 {n : Nat} (h : n < 4611686018427387904) : opRng1 [.int n] = some ((List.range n).map fun (i : Nat) => D.int i) := by
  have h1 : (-4611686018427387904 : Int) ≤ n := by omega
  have h2 : (n : Int) < 4611686018427387904 := by omega
  simp [opRng1, h1, h2, rngD]
theorem enum_range {m : Nat} (f : Nat → D) : enumD ((List.range m).map f) = (List.range m).map fun i => .tup [.int (i : Nat), f i] := by
  unfold enumD
  apply List.ext_getElem
  · simp
  · intro i h1 h2
    simp
theorem p_iEnT {fs : DFs} {ρ : Rho} {xs : List D} (h : fs ρ = some [.tup xs]) : iEn fs ρ = some (enumD xs) := by simp [iEn, h]
theorem seq_nx {f g : DS} {ρ ρ' : Rho} (h : f ρ = some (.nx ρ')) : dSeq f g ρ = g ρ' := by simp [dSeq, h]
@[simp] theorem p_dSeq (f g : DS) (ρ : Rho) : dSeq f g ρ = bnd (f ρ) fun r => match r with
  | .nx ρ' => g ρ'
  | .rt d => some (.rt d) := (rfl)
theorem run_rt {n a : Nat} {f : DS} {ds : List D} {d : D} (hl : ds.length = a) (h : f (ds.map some ++ List.replicate (n - a) none) = some (.rt d)) : runD n a f ds = some d := by
  simp [runD, hl, h]
theorem for_eq {it : DFs} {g : DG} {b : DS} {ρ : Rho} {ds : List D} (h : it ρ = some ds) : dFor it g b ρ = forL g b ds ρ := by simp [dFor, h]
theorem for_fold {α β : Type} {g : DG} {b : DS} (e : α → D) (P : β → Rho → Prop) (f : β → α → β) : ∀ (xs : List α) (a : β) (ρ : Rho),
    (∀ x ∈ xs, ∀ a ρ, P a ρ → ∃ ρ1, g (e x) ρ = some ρ1 ∧ ∃ ρ2, b ρ1 = some (.nx ρ2) ∧ P (f a x) ρ2) → P a ρ → ∃ ρ', forL g b (xs.map e) ρ = some (.nx ρ') ∧ P (xs.foldl f a) ρ'
  | [], a, ρ, _, h => ⟨ρ, rfl, h⟩
  | x :: xs, a, ρ, hs, h => by
    obtain ⟨ρ1, h1, ρ2, h2, h3⟩ := hs x List.mem_cons_self a ρ h
    obtain ⟨ρ', h4, h5⟩ := for_fold e P f xs (f a x) ρ2 (fun y hy => hs y (List.mem_cons_of_mem _ hy)) h3
    exact ⟨ρ', by simp [forL, h1, h2, h4], h5⟩
/-- by an invariant of what is done so far -/
theorem for_pre {α : Type} {g : DG} {b : DS} (e : α → D) (P : List α → Rho → Prop) (xs : List α) {ρ : Rho} (hs : ∀ l x r, xs = l ++ x :: r → ∀ ρ, P l ρ → ∃ ρ1, g (e x) ρ = some ρ1 ∧ ∃ ρ2, b ρ1 = some (.nx ρ2) ∧ P (l ++ [x]) ρ2) (h : P [] ρ) :
    ∃ ρ', forL g b (xs.map e) ρ = some (.nx ρ') ∧ P xs ρ' := by
  have gen : ∀ (r l : List α) (ρ : Rho), xs = l ++ r → P l ρ → ∃ ρ', forL g b (r.map e) ρ = some (.nx ρ') ∧ P xs ρ' := by
    intro r
    induction r with
    | nil =>
      intro l ρ q hp
      rw [List.append_nil] at q
      subst q
      exact ⟨ρ, rfl, hp⟩
    | cons x r ih =>
      intro l ρ q hp
      obtain ⟨ρ1, h1, ρ2, h2, h3⟩ := hs l x r q ρ hp
      obtain ⟨ρ', h4, h5⟩ := ih (l ++ [x]) ρ2 (by rw [q]; simp) h3
      exact ⟨ρ', by rw [List.map_cons]; simp [forL, h1, h2, h4], h5⟩
  exact gen xs [] ρ rfl h
/-- over a range, by an invariant -/
theorem for_range {g : DG} {b : DS} (e : Nat → D) (P : Nat → Rho → Prop) (n : Nat) (hs : ∀ i, i < n → ∀ ρ, P i ρ → ∃ ρ1, g (e i) ρ = some ρ1 ∧ ∃ ρ2, b ρ1 = some (.nx ρ2) ∧ P (i + 1) ρ2) {ρ : Rho} (h : P 0 ρ) :
    ∃ ρ', forL g b ((List.range n).map e) ρ = some (.nx ρ') ∧ P n ρ' := by
  have gen : ∀ (k s : Nat) (ρ : Rho), s + k = n → P s ρ → ∃ ρ', forL g b ((List.range' s k).map e) ρ = some (.nx ρ') ∧ P n ρ' := by
    intro k
    induction k with
    | zero =>
      intro s ρ e hp
      have : s = n := by omega
      subst this
      exact ⟨ρ, rfl, hp⟩
    | succ k ih =>
      intro s ρ e' hp
      obtain ⟨ρ1, h1, ρ2, h2, h3⟩ := hs s (by omega) ρ hp
      obtain ⟨ρ', h4, h5⟩ := ih (s + 1) ρ2 (by omega) h3
      refine ⟨ρ', ?_, h5⟩
      rw [List.range'_succ, List.map_cons]
      simp [forL, h1, h2, h4]
  rw [List.range_eq_range']
  exact gen n 0 ρ (by omega) h
/-- no one returns -/
theorem for_all {α : Type} {g : DG} {b : DS} (e : α → D) (P : Rho → Prop) (xs : List α) (ρ : Rho) (hs : ∀ x ∈ xs, ∀ ρ, P ρ → ∃ ρ1, g (e x) ρ = some ρ1 ∧ ∃ ρ2, b ρ1 = some (.nx ρ2) ∧ P ρ2) (h : P ρ) :
    ∃ ρ', forL g b (xs.map e) ρ = some (.nx ρ') ∧ P ρ' :=
  for_fold e (fun (_ : Unit) ρ => P ρ) (fun a _ => a) xs () ρ (fun x hx _ ρ hP => hs x hx ρ hP) h
theorem while_m {t : DB} {b : DS} (P : Nat → Rho → Prop) (Q : Rho → Prop) (hs : ∀ k ρ, P k ρ → ∃ c, t ρ = some c ∧ (c = true → ∃ k' ρ', k' < k ∧ b ρ = some (.nx ρ') ∧ P k' ρ') ∧ (c = false → Q ρ)) :
    ∀ (n k : Nat) (ρ : Rho), k < n → P k ρ → ∃ ρ', whileN t b n ρ = some (.nx ρ') ∧ Q ρ'
  | 0, k, ρ, hk, _ => by omega
  | n + 1, k, ρ, hk, h => by
    obtain ⟨c, h1, h2, h3⟩ := hs k ρ h
    cases c with
    | false => exact ⟨ρ, by simp [whileN, h1], h3 rfl⟩
    | true =>
      obtain ⟨k', ρ', h4, h5, h6⟩ := h2 rfl
      obtain ⟨ρ2, h7, h8⟩ := while_m P Q hs n k' ρ' (by omega) h6
      exact ⟨ρ2, by simp [whileN, h1, h5, h7], h8⟩
theorem dWhile_m {t : DB} {b : DS} (P : Nat → Rho → Prop) (Q : Rho → Prop) {k : Nat} {ρ : Rho} (h : P k ρ) (hk : k < 1000000000000000000000000000000) (hs : ∀ k ρ, P k ρ → ∃ c, t ρ = some c ∧ (c = true → ∃ k' ρ', k' < k ∧ b ρ = some (.nx ρ') ∧ P k' ρ') ∧ (c = false → Q ρ)) :
    ∃ ρ', dWhile t b ρ = some (.nx ρ') ∧ Q ρ' := by
  unfold dWhile
  exact while_m P Q hs FUEL k ρ (by unfold FUEL; exact hk) h
theorem compL_map {α : Type} {g : DG} {t : DB} {e : DF} {ρ : Rho} (en : α → D) (p : α → Bool) (q : α → D) : ∀ (xs : List α),
    (∀ x ∈ xs, ∃ ρ1, g (en x) ρ = some ρ1 ∧ t ρ1 = some (p x) ∧ (p x = true → e ρ1 = some (q x))) → compL g t e ρ (xs.map en) = some ((xs.filter p).map q)
  | [], _ => rfl
  | x :: xs, hs => by
    obtain ⟨ρ1, h1, h2, h3⟩ := hs x List.mem_cons_self
    have ih := compL_map en p q xs fun y hy => hs y (List.mem_cons_of_mem _ hy)
    cases hp : p x with
    | true => simp [compL, h1, h2, hp, h3 hp, ih]
    | false => simp [compL, h1, h2, hp, ih]
theorem compL_all {α : Type} {g : DG} {e : DF} {ρ : Rho} (en : α → D) (q : α → D) (xs : List α)
    (hs : ∀ x ∈ xs, ∃ ρ1, g (en x) ρ = some ρ1 ∧ e ρ1 = some (q x)) : compL g bYes e ρ (xs.map en) = some (xs.map q) := by
  rw [compL_map en (fun _ => true) q xs fun x hx => by
    obtain ⟨ρ1, h1, h2⟩ := hs x hx
    exact ⟨ρ1, h1, rfl, fun _ => h2⟩]
  rw [List.filter_eq_self.mpr (fun _ _ => rfl)]
/-- a comprehension, without an if -/
theorem comp_all {α : Type} {it : DFs} {g : DG} {e : DF} {vs : List Nat} {ρ : Rho} (en : α → D) (q : α → D) (xs : List α) (hi : it ρ = some (xs.map en)) (hl : xs.length ≤ 16777216)
    (hs : ∀ x ∈ xs, ∃ ρ1, g (en x) (wipeR ρ vs) = some ρ1 ∧ e ρ1 = some (q x)) : dComp it g bYes e vs ρ = some (.lst (xs.map q)) := by
  unfold dComp
  rw [hi]
  simp only [Option.bind_some]
  rw [compL_all en q xs hs]
  simp [lstOk, hl]
theorem comp_if {α : Type} {it : DFs} {g : DG} {t : DB} {e : DF} {vs : List Nat} {ρ : Rho} (en : α → D) (p : α → Bool) (q : α → D) (xs : List α) (hi : it ρ = some (xs.map en)) (hl : xs.length ≤ 16777216)
    (hs : ∀ x ∈ xs, ∃ ρ1, g (en x) (wipeR ρ vs) = some ρ1 ∧ t ρ1 = some (p x) ∧ (p x = true → e ρ1 = some (q x))) : dComp it g t e vs ρ = some (.lst ((xs.filter p).map q)) := by
  unfold dComp
  rw [hi]
  simp only [Option.bind_some]
  rw [compL_map en p q xs hs]
  have : (xs.filter p).length ≤ 16777216 := Nat.le_trans (List.length_filter_le p xs) hl
  simp [lstOk, this]
theorem asBls_map {α : Type} (p : α → Bool) : ∀ xs : List α, asBls (xs.map fun x => .bl (p x)) = some (xs.map p)
  | [] => rfl
  | x :: xs => by simp [asBls, asBls_map p xs]
theorem asInts_map {α : Type} (p : α → Int) : ∀ xs : List α, asInts (xs.map fun x => .int (p x)) = some (xs.map p)
  | [] => rfl
  | x :: xs => by simp [asInts, asInts_map p xs]
theorem okDs_map {α : Type} {n : Nat} (f : α → D) : ∀ l : List α, (∀ x ∈ l, okD n (f x) = true) → okDs n (l.map f) = true
  | [], _ => rfl
  | x :: l, h => by
    rw [List.map_cons]
    unfold okDs
    rw [h x List.mem_cons_self, okDs_map f l fun y hy => h y (List.mem_cons_of_mem _ hy)]
    rfl
theorem opEq_ok {d e : D} (h1 : okD 60 d = true) (h2 : okD 60 e = true) : opEq d e = some (.bl (eqD d e)) := by simp [opEq, h1, h2]
theorem opNe_ok {d e : D} (h1 : okD 60 d = true) (h2 : okD 60 e = true) : opNe d e = some (.bl (!eqD d e)) := by simp [opNe, h1, h2]
@[simp] theorem p_eqB (a b : Bool) : opEq (.bl a) (.bl b) = some (.bl (decide (a = b))) := by cases a <;> cases b <;> rfl
@[simp] theorem p_neB (a b : Bool) : opNe (.bl a) (.bl b) = some (.bl (!decide (a = b))) := by cases a <;> cases b <;> rfl
mutual
def sameD : D → D → Bool
  | .non, .non => true
  | .bl a, .bl b => a == b
  | .int i, .int j => i == j
  | .str x, .str y => decide (x = y)
  | .tup xs, .tup ys => sameDs xs ys
  | .lst xs, .lst ys => sameDs xs ys
  | _, _ => false
def sameDs : List D → List D → Bool
  | [], [] => true
  | x :: xs, y :: ys => sameD x y && sameDs xs ys
  | _, _ => false
end
mutual
theorem sameD_eq : ∀ (x y : D), sameD x y = true → x = y
  | .non, y, h => by cases y <;> first | rfl | (simp [sameD] at h)
  | .bl a, y, h => by cases y <;> simp [sameD] at h <;> rw [h]
  | .int a, y, h => by cases y <;> simp [sameD] at h <;> rw [h]
  | .str a, y, h => by cases y <;> simp [sameD] at h <;> rw [h]
  | .tup a, y, h => by
    cases y <;> simp [sameD] at h
    rw [sameDs_eq _ _ h]
  | .lst a, y, h => by
    cases y <;> simp [sameD] at h
    rw [sameDs_eq _ _ h]
  | .bell a, y, h => by cases y <;> simp [sameD] at h
  | .scr a, y, h => by cases y <;> simp [sameD] at h
theorem sameDs_eq : ∀ (x y : List D), sameDs x y = true → x = y
  | [], [], _ => rfl
  | [], _ :: _, h => by simp [sameDs] at h
  | _ :: _, [], h => by simp [sameDs] at h
  | x :: xs, y :: ys, h => by
    simp only [sameDs, Bool.and_eq_true] at h
    rw [sameD_eq x y h.1, sameDs_eq xs ys h.2]
end
def sameO : Option D → D → Bool
  | some x, y => sameD x y
  | none, _ => false
theorem sameO_eq {x : Option D} {y : D} (h : sameO x y = true) : x = some y := by
  cases x with
  | none => cases h
  | some x => rw [sameD_eq x y h]
end Mi
namespace Mi
open DL
def eO : Option Nat → D
  | none => .non
  | some n => .int n
def eV (m : Nat) (f : Nat → Nat) : D := .tup ((List.range m).map fun i => .int (f i))
def eR (w : Nat) (f : Nat → Option Nat) : D := .tup ((List.range w).map fun j => eO (f j))
def eT (m w : Nat) (T : Nat → Nat → Option Nat) : D := .tup ((List.range m).map fun i => eR w (T i))
def eL (l : List Nat) : D := .lst (l.map fun n => .int (n : Nat))
@[simp] theorem len_eT (m w : Nat) (T : Nat → Nat → Option Nat) : opLen [eT m w T] = some (.int m) := by simp [eT]
@[simp] theorem len_eR (w : Nat) (T : Nat → Option Nat) : opLen [eR w T] = some (.int w) := by simp [eR]
@[simp] theorem len_eV (w : Nat) (T : Nat → Nat) : opLen [eV w T] = some (.int w) := by simp [eV]
@[simp] theorem isNone_eO (x : Option Nat) : isNone (eO x) = x.isNone := by cases x <;> rfl
@[simp] theorem seq_eT (m w : Nat) (T : Nat → Nat → Option Nat) : asSeq (eT m w T) = some ((List.range m).map fun i => eR w (T i)) := rfl
@[simp] theorem seq_eR (w : Nat) (T : Nat → Option Nat) : asSeq (eR w T) = some ((List.range w).map fun j => eO (T j)) := rfl
@[simp] theorem seq_eV (w : Nat) (T : Nat → Nat) : asSeq (eV w T) = some ((List.range w).map fun j => .int (T j)) := rfl
@[simp] theorem seq_eL (l : List Nat) : asSeq (eL l) = some (l.map fun n => .int (n : Nat)) := rfl
@[simp] theorem eO_some (n : Nat) : eO (some n) = .int n := rfl
@[simp] theorem eO_none : eO none = .non := rfl
theorem gcd_step {a b : Nat} (h : 0 < b) : Nat.gcd b (a % b) = Nat.gcd a b := by
  rw [Nat.gcd_comm b, ← Nat.gcd_rec, Nat.gcd_comm]
theorem gcd_loop (ds : DF) {a b : Nat} (hb : b < 1000000000000000000000000000000) :
    ∃ ρ', dWhile (bV (d2 opGt (dv 1) (dc (.int 0)))) m_gcd_b1 [some (.int a), some (.int b)] = some (.nx ρ') ∧ ρ' = [some (.int (Nat.gcd a b)), some (.int 0)] := by
  refine dWhile_m (fun k ρ => ∃ x y : Nat, ρ = [some (.int x), some (.int y)] ∧ y = k ∧ Nat.gcd x y = Nat.gcd a b) _ (k := b) ⟨a, b, rfl, rfl, rfl⟩ hb ?_
  rintro k ρ ⟨x, y, rfl, rfl, hg⟩
  refine ⟨decide (0 < y), by simp, ?_, ?_⟩
  · intro h
    have h := of_decide_eq_true h
    refine ⟨x % y, [some (.int y), some (.int ((x % y : Nat) : Int))], Nat.mod_lt _ h, by simp [m_gcd_b1, mod_n h], y, x % y, rfl, rfl, ?_⟩
    rw [gcd_step h, hg]
  · intro h
    have h := of_decide_eq_false h
    have : y = 0 := by omega
    subst this
    rw [Nat.gcd_zero_right] at hg
    rw [hg]
    rfl
theorem gcd_m {a b : Nat} (hb : b < 1000000000000000000000000000000) : m_gcd [.int a, .int b] = some (.int (Nat.gcd a b)) := by
  obtain ⟨ρ', h, e⟩ := gcd_loop (dv 0) (a := a) hb
  refine run_rt rfl ?_
  show dSeq _ _ [some (.int a), some (.int b)] = _
  rw [seq_nx h, e]
  simp
theorem lgcd_m {a b : Nat} (hb : b < 1000000000000000000000000000000) : m_law_gcd [.int a, .int b] = some (.int (Nat.gcd a b)) := by
  rw [show m_law_gcd = m_gcd from rfl]
  exact gcd_m hb
theorem div_gcd_mul {a b : Nat} (hg0 : 0 < Nat.gcd a b) : a / a.gcd b * b = a.lcm b := by
  unfold Nat.lcm
  rw [Nat.mul_comm, ← Nat.mul_div_assoc _ (Nat.gcd_dvd_left a b), Nat.mul_comm]
theorem lcm_m {a b : Nat} (ha : 0 < a) (hb : b < 18446744073709551616) (hg : Nat.gcd a b < 18446744073709551616) : m_lcm [.int a, .int b] = some (.int (Nat.lcm a b)) := by
  have hg0 : 0 < Nat.gcd a b := Nat.gcd_pos_of_pos_left _ ha
  have h1 := mul_n (a := a / Nat.gcd a b) hb
  have h2 := gcd_m (a := a) (b := b) (by omega)
  have h3 := div_n (a := a) hg0 hg
  refine run_rt rfl ?_
  rw [div_gcd_mul hg0] at h1
  simp only [p_dRet, p_d2, p_dL, p_dcons, p_dnil, p_dv, lk_z, lk_s, List.map_cons, List.map_nil, List.cons_append, bnd_some, h1, h2, h3]
theorem llcm_m {a b : Nat} (ha : 0 < a) (hb : b < 18446744073709551616) (hg : Nat.gcd a b < 18446744073709551616) : m_law_lcm [.int a, .int b] = some (.int (Nat.lcm a b)) := by
  have hg0 : 0 < Nat.gcd a b := Nat.gcd_pos_of_pos_left _ ha
  have h1 := mul_n (a := a) hb
  have h2 := lgcd_m (a := a) (b := b) (by omega)
  have h3 := div_n (a := a * b) hg0 hg
  refine run_rt rfl ?_
  simp only [p_dRet, p_d2, p_dL, p_dcons, p_dnil, p_dv, lk_z, lk_s, List.map_cons, List.map_nil, List.cons_append, bnd_some, h1, h2, h3]
  rfl
def gStep (f : Nat → Option Nat) (g j : Nat) : Nat := match f j with
  | none => g
  | some e => Nat.gcd e g
def gRow (w : Nat) (f : Nat → Option Nat) : Nat := (List.range w).foldl (gStep f) 0
def kpRow (w : Nat) (T : Nat → Nat → Option Nat) (i : Nat) : List (Nat × Nat) := ((List.range w).filter fun j => (T i j).isSome).map fun j => (i, j)
def kp (m w : Nat) (T : Nat → Nat → Option Nat) : List (Nat × Nat) := (List.range m).flatMap (kpRow w T)
abbrev gR (w : Nat) (T : Nat → Nat → Option Nat) (i : Nat) : Nat := gRow w (T i)
end Mi
namespace Mi
open DL
theorem cell_m {ns : List Int} (h : ns.length ≤ 63) {i : Nat} (hi : i ≤ 1000) : ∃ c : Int, m_law_cell [.scr ns, .int i] = some (.int c) := by
  have ix : ∀ j : Nat, j < ns.length → ∃ c, opIx (.scr ns) (.int j) = some (.int c) := fun j hj => ⟨ns[j], by simp [opIx, ixN hj, List.getElem?_eq_getElem hj]⟩
  by_cases h1 : i < ns.length
  · obtain ⟨c, hc⟩ := ix i h1
    have h2 : ((i : Int) < (ns.length : Int)) := by omega
    exact ⟨c, run_rt rfl (by simp only [bnd_some, bnd_none, p_dc, p_dv, lk_z, lk_s, st_z, st_s, un_z, un_s, wipe_n, wipe_c, p_d2, p_d1, p_dnil, p_dcons, p_dL, p_asB, p_asI, p_asL, p_asSeqL, p_asSeqT, p_bV, p_dB, p_bAnd, p_bOr, p_bNot, p_dIf, p_dAnd, p_dOr, p_dNot, p_dCh, p_bYes, p_gN, p_gT, p_gsNil, p_gsCons, p_dNx, p_dRet, p_dSet, p_dIfS, p_dAsg, p_dPar, p_dAug, p_dApp, p_dSetIx, p_nLst, p_nRep, p_nOf, p_dSetN, p_dParN1, p_dParNN, p_iSeq, p_iRng1, p_iRng2, p_oNo, p_oIx, p_dSl, p_asIx, p_opTup, p_opLst, p_lenT, p_lenL, p_lenS, p_tupT, p_tupL, p_add, p_sub, p_mul, p_lt, p_le, p_gt, p_ge, p_eqI, p_neI, p_isN, p_isnN, p_isB, p_isnB, p_isNone_n, p_isNone_i, p_isNone_t, p_isNone_l, p_appL, p_appT, b_mc, b_mn, b_ac, b_an, b_rs, b_rz, b_lc, b_ln, b_it, b_if, b_itt, b_iff, p_dSeq, p_eqB, p_neB, len_eT, len_eR, len_eV, isNone_eO, seq_eT, seq_eR, seq_eV, seq_eL, eO_some, eO_none, ↓p_eqN, ↓p_neN, ↓p_ltN, ↓p_leN, ↓p_gtN, ↓p_geN, decide_eq_true h1, hc])⟩
  · have h2 : ¬ ((i : Int) < (ns.length : Int)) := by omega
    by_cases h3 : ns.length = 0
    · have h4 : (ns.length : Int) = 0 := by omega
      have h5 := mul_j (a := 7919) (b := i) (by decide) (by decide)
      exact ⟨_, run_rt rfl (by simp only [bnd_some, bnd_none, p_dc, p_dv, lk_z, lk_s, st_z, st_s, un_z, un_s, wipe_n, wipe_c, p_d2, p_d1, p_dnil, p_dcons, p_dL, p_asB, p_asI, p_asL, p_asSeqL, p_asSeqT, p_bV, p_dB, p_bAnd, p_bOr, p_bNot, p_dIf, p_dAnd, p_dOr, p_dNot, p_dCh, p_bYes, p_gN, p_gT, p_gsNil, p_gsCons, p_dNx, p_dRet, p_dSet, p_dIfS, p_dAsg, p_dPar, p_dAug, p_dApp, p_dSetIx, p_nLst, p_nRep, p_nOf, p_dSetN, p_dParN1, p_dParNN, p_iSeq, p_iRng1, p_iRng2, p_oNo, p_oIx, p_dSl, p_asIx, p_opTup, p_opLst, p_lenT, p_lenL, p_lenS, p_tupT, p_tupL, p_add, p_sub, p_mul, p_lt, p_le, p_gt, p_ge, p_eqI, p_neI, p_isN, p_isnN, p_isB, p_isnB, p_isNone_n, p_isNone_i, p_isNone_t, p_isNone_l, p_appL, p_appT, b_mc, b_mn, b_ac, b_an, b_rs, b_rz, b_lc, b_ln, b_it, b_if, b_itt, b_iff, p_dSeq, p_eqB, p_neB, len_eT, len_eR, len_eV, isNone_eO, seq_eT, seq_eR, seq_eV, seq_eL, eO_some, eO_none, ↓p_eqN, ↓p_neN, ↓p_ltN, ↓p_leN, ↓p_gtN, ↓p_geN, decide_eq_false h1, decide_eq_true h4, h5]; rfl)⟩
    · have h4 : ¬ (ns.length : Int) = 0 := by omega
      have h5 := mul_j (a := 7919) (b := i) (by decide) (by decide)
      have h6 := mod_n (a := i) (b := ns.length) (by omega)
      obtain ⟨c, hc⟩ := ix (i % ns.length) (Nat.mod_lt _ (by omega))
      have h7 := mod_i (a := c) (b := 1000003) (by decide)
      exact ⟨_, run_rt rfl (by simp only [bnd_some, bnd_none, p_dc, p_dv, lk_z, lk_s, st_z, st_s, un_z, un_s, wipe_n, wipe_c, p_d2, p_d1, p_dnil, p_dcons, p_dL, p_asB, p_asI, p_asL, p_asSeqL, p_asSeqT, p_bV, p_dB, p_bAnd, p_bOr, p_bNot, p_dIf, p_dAnd, p_dOr, p_dNot, p_dCh, p_bYes, p_gN, p_gT, p_gsNil, p_gsCons, p_dNx, p_dRet, p_dSet, p_dIfS, p_dAsg, p_dPar, p_dAug, p_dApp, p_dSetIx, p_nLst, p_nRep, p_nOf, p_dSetN, p_dParN1, p_dParNN, p_iSeq, p_iRng1, p_iRng2, p_oNo, p_oIx, p_dSl, p_asIx, p_opTup, p_opLst, p_lenT, p_lenL, p_lenS, p_tupT, p_tupL, p_add, p_sub, p_mul, p_lt, p_le, p_gt, p_ge, p_eqI, p_neI, p_isN, p_isnN, p_isB, p_isnB, p_isNone_n, p_isNone_i, p_isNone_t, p_isNone_l, p_appL, p_appT, b_mc, b_mn, b_ac, b_an, b_rs, b_rz, b_lc, b_ln, b_it, b_if, b_itt, b_iff, p_dSeq, p_eqB, p_neB, len_eT, len_eR, len_eV, isNone_eO, seq_eT, seq_eR, seq_eV, seq_eL, eO_some, eO_none, ↓p_eqN, ↓p_neN, ↓p_ltN, ↓p_leN, ↓p_gtN, ↓p_geN, decide_eq_false h1, decide_eq_false h4, h5, h6, hc]; erw [h7]; simp only [bnd_some, bnd_none, p_dc, p_dv, lk_z, lk_s, st_z, st_s, un_z, un_s, wipe_n, wipe_c, p_d2, p_d1, p_dnil, p_dcons, p_dL, p_asB, p_asI, p_asL, p_asSeqL, p_asSeqT, p_bV, p_dB, p_bAnd, p_bOr, p_bNot, p_dIf, p_dAnd, p_dOr, p_dNot, p_dCh, p_bYes, p_gN, p_gT, p_gsNil, p_gsCons, p_dNx, p_dRet, p_dSet, p_dIfS, p_dAsg, p_dPar, p_dAug, p_dApp, p_dSetIx, p_nLst, p_nRep, p_nOf, p_dSetN, p_dParN1, p_dParNN, p_iSeq, p_iRng1, p_iRng2, p_oNo, p_oIx, p_dSl, p_asIx, p_opTup, p_opLst, p_lenT, p_lenL, p_lenS, p_tupT, p_tupL, p_add, p_sub, p_mul, p_lt, p_le, p_gt, p_ge, p_eqI, p_neI, p_isN, p_isnN, p_isB, p_isnB, p_isNone_n, p_isNone_i, p_isNone_t, p_isNone_l, p_appL, p_appT, b_mc, b_mn, b_ac, b_an, b_rs, b_rz, b_lc, b_ln, b_it, b_if, b_itt, b_iff, p_dSeq, p_eqB, p_neB, len_eT, len_eR, len_eV, isNone_eO, seq_eT, seq_eR, seq_eV, seq_eL, eO_some, eO_none, ↓p_eqN, ↓p_neN, ↓p_ltN, ↓p_leN, ↓p_gtN, ↓p_geN]; rfl)⟩
theorem mod_z {a b : Int} (h : 0 < b) : opMod (.int a) (.int b) = some (.int (a % b)) := by simp only [opMod, if_pos h]
theorem div_z {a b : Int} (h : 0 < b) (h3 : b < 18446744073709551616) : opFdiv (.int a) (.int b) = some (.int (a / b)) := by simp only [opFdiv, if_pos (And.intro h h3)]
def prD : List D := [.int 2147483647, .int 2147483629, .int 2147483587, .int 2147483579, .int 2147483563, .int 2147483549, .int 2147483543, .int 2147483497]
theorem prime_ix {r : Nat} (h : r < 8) : ∃ p : Int, opIx (.tup prD) (.int r) = some (.int p) ∧ 0 < p ∧ p < 4294967296 := by
  have : r = 0 ∨ r = 1 ∨ r = 2 ∨ r = 3 ∨ r = 4 ∨ r = 5 ∨ r = 6 ∨ r = 7 := by omega
  rcases this with e | e | e | e | e | e | e | e <;> subst e <;> exact ⟨_, rfl, by decide, by decide⟩
theorem pIx {k : Nat} {x : D} (h : opIx (.tup prD) (.int (k % 8 : Nat)) = some x) : (bnd (opMod (.int k) (.int 8)) fun y => opIx (.tup prD) y) = some x := by
  have : opMod (.int k) (.int 8) = some (.int (k % 8 : Nat)) := mod_n (b := 8) (by decide)
  rw [this]
  simp only [bnd_some, bnd_none, p_dc, p_dv, lk_z, lk_s, st_z, st_s, un_z, un_s, wipe_n, wipe_c, p_d2, p_d1, p_dnil, p_dcons, p_dL, p_asB, p_asI, p_asL, p_asSeqL, p_asSeqT, p_bV, p_dB, p_bAnd, p_bOr, p_bNot, p_dIf, p_dAnd, p_dOr, p_dNot, p_dCh, p_bYes, p_gN, p_gT, p_gsNil, p_gsCons, p_dNx, p_dRet, p_dSet, p_dIfS, p_dAsg, p_dPar, p_dAug, p_dApp, p_dSetIx, p_nLst, p_nRep, p_nOf, p_dSetN, p_dParN1, p_dParNN, p_iSeq, p_iRng1, p_iRng2, p_oNo, p_oIx, p_dSl, p_asIx, p_opTup, p_opLst, p_lenT, p_lenL, p_lenS, p_tupT, p_tupL, p_add, p_sub, p_mul, p_lt, p_le, p_gt, p_ge, p_eqI, p_neI, p_isN, p_isnN, p_isB, p_isnB, p_isNone_n, p_isNone_i, p_isNone_t, p_isNone_l, p_appL, p_appT, b_mc, b_mn, b_ac, b_an, b_rs, b_rz, b_lc, b_ln, b_it, b_if, b_itt, b_iff, p_dSeq, p_eqB, p_neB, len_eT, len_eR, len_eV, isNone_eO, seq_eT, seq_eR, seq_eV, seq_eL, eO_some, eO_none, ↓p_eqN, ↓p_neN, ↓p_ltN, ↓p_leN, ↓p_gtN, ↓p_geN, h]
theorem dig_body {s : D} {i k : Nat} {c base r cell : Int} {ds : List Nat} (x : Option D) (hi : i ≤ 1000) (hk : k ≤ 1000) (hd : ds.length ≤ 1000) (hb0 : 0 < base) (hb : base < 18446744073709551616) :
    ∃ d : Nat, (d : Int) < base ∧ ∃ r' m : Int, m_law_digits_b1 [some s, some (.int i), some (.int c), some (.int base), some (.tup prD), some (.int cell), some (.int r), some (eL ds), some (.int k), x] =
      some (.nx [some s, some (.int i), some (.int c), some (.int base), some (.tup prD), some (.int cell), some (.int r'), some (eL (ds ++ [d])), some (.int k), some (.int m)]) := by
  obtain ⟨p1, e1, a1, b1⟩ := prime_ix (r := k % 8) (by omega)
  obtain ⟨p2, e2, a2, b2⟩ := prime_ix (r := (3 * k + i) % 8) (by omega)
  obtain ⟨p3, e3, a3, b3⟩ := prime_ix (r := (k + 5) % 8) (by omega)
  have f1 := pIx e1
  have f2 := pIx e2
  have f3 := pIx e3
  have c2 : (((3 * k + i : Nat) : Int)) = 3 * (k : Int) + i := by omega
  have c3 : (((k + 5 : Nat) : Int)) = (k : Int) + 5 := by omega
  rw [c2] at f2
  rw [c3] at f3
  have g1 := mod_z (a := cell) a1
  have u0 : (0 : Int) ≤ k := by omega
  have v0 : (k : Int) ≤ 1000 := by omega
  have m1 := mul_j (a := 2) (b := k) (by decide) (by decide)
  have m2 := mul_i (a := 2 * (k : Int)) (b := k) (by omega) (by omega)
  have w1 := Int.emod_nonneg cell (b := p1) (by omega)
  have w2 := Int.emod_lt_of_pos cell a1
  have m3 := mul_j (a := cell % p1) (b := 48271 + 2 * (k : Int) * k) (by omega) (by omega)
  have m4 := mul_j (a := 7919) (b := (k : Int) + 1) (by decide) (by decide)
  have m5 := mul_i (a := 7919 * ((k : Int) + 1)) (b := (k : Int) + 1) (by omega) (by omega)
  have m6 := mul_j (a := 104729) (b := (i : Int)) (by decide) (by decide)
  have m7 := mul_j (a := 3) (b := (k : Int)) (by decide) (by decide)
  generalize hz : cell % p1 * (48271 + 2 * (k : Int) * k) = z at m3
  generalize hy : z + 7919 * ((k : Int) + 1) * ((k : Int) + 1) + 104729 * i = y
  have g2 := mod_z (a := y) a2
  have w3 := Int.emod_nonneg y (b := p2) (by omega)
  have w4 := Int.emod_lt_of_pos y a2
  generalize hx : y % p2 = q at g2 w3 w4
  have m8 := mul_j (a := q) (b := q) (by omega) (by omega)
  have m9 := mul_i (a := q * q) (b := q) (by omega) (by omega)
  have g3 := mod_z (a := q * q * q) a3
  have g5 := fun t => div_z (a := t) hb0 hb
  have g6 : ∀ t : Int, ∃ d : Nat, (d : Int) < base ∧ opMod (.int t) (.int base) = some (.int d) := fun t => by
    have h1 := Int.emod_nonneg t (b := base) (by omega)
    have h2 := Int.emod_lt_of_pos t hb0
    exact ⟨(t % base).toNat, by omega, by rw [mod_z hb0, Int.toNat_of_nonneg h1]⟩
  have hl : (ds.map fun n : Nat => D.int n).length < 16777216 := by rw [List.length_map]; omega
  unfold m_law_digits_b1
  by_cases hr : 0 < r
  · obtain ⟨d, hd1, hd2⟩ := g6 r
    refine ⟨d, hd1, r / base, r, ?_⟩
    simp only [bnd_some, bnd_none, p_dc, p_dv, lk_z, lk_s, st_z, st_s, un_z, un_s, wipe_n, wipe_c, p_d2, p_d1, p_dnil, p_dcons, p_dL, p_asB, p_asI, p_asL, p_asSeqL, p_asSeqT, p_bV, p_dB, p_bAnd, p_bOr, p_bNot, p_dIf, p_dAnd, p_dOr, p_dNot, p_dCh, p_bYes, p_gN, p_gT, p_gsNil, p_gsCons, p_dNx, p_dRet, p_dSet, p_dIfS, p_dAsg, p_dPar, p_dAug, p_dApp, p_dSetIx, p_nLst, p_nRep, p_nOf, p_dSetN, p_dParN1, p_dParNN, p_iSeq, p_iRng1, p_iRng2, p_oNo, p_oIx, p_dSl, p_asIx, p_opTup, p_opLst, p_lenT, p_lenL, p_lenS, p_tupT, p_tupL, p_add, p_sub, p_mul, p_lt, p_le, p_gt, p_ge, p_eqI, p_neI, p_isN, p_isnN, p_isB, p_isnB, p_isNone_n, p_isNone_i, p_isNone_t, p_isNone_l, p_appL, p_appT, b_mc, b_mn, b_ac, b_an, b_rs, b_rz, b_lc, b_ln, b_it, b_if, b_itt, b_iff, p_dSeq, p_eqB, p_neB, len_eT, len_eR, len_eV, isNone_eO, seq_eT, seq_eR, seq_eV, seq_eL, eO_some, eO_none, ↓p_eqN, ↓p_neN, ↓p_ltN, ↓p_leN, ↓p_gtN, ↓p_geN, f1, g1, m1, m2, m3, m4, m5, m6, hy, m7, f2, g2, m8, m9, f3, g3, decide_eq_true hr, hd2, g5, eL, if_pos hl, List.map_append]
  · obtain ⟨d, hd1, hd2⟩ := g6 (q * q * q % p3)
    refine ⟨d, hd1, r / base, q * q * q % p3, ?_⟩
    simp only [bnd_some, bnd_none, p_dc, p_dv, lk_z, lk_s, st_z, st_s, un_z, un_s, wipe_n, wipe_c, p_d2, p_d1, p_dnil, p_dcons, p_dL, p_asB, p_asI, p_asL, p_asSeqL, p_asSeqT, p_bV, p_dB, p_bAnd, p_bOr, p_bNot, p_dIf, p_dAnd, p_dOr, p_dNot, p_dCh, p_bYes, p_gN, p_gT, p_gsNil, p_gsCons, p_dNx, p_dRet, p_dSet, p_dIfS, p_dAsg, p_dPar, p_dAug, p_dApp, p_dSetIx, p_nLst, p_nRep, p_nOf, p_dSetN, p_dParN1, p_dParNN, p_iSeq, p_iRng1, p_iRng2, p_oNo, p_oIx, p_dSl, p_asIx, p_opTup, p_opLst, p_lenT, p_lenL, p_lenS, p_tupT, p_tupL, p_add, p_sub, p_mul, p_lt, p_le, p_gt, p_ge, p_eqI, p_neI, p_isN, p_isnN, p_isB, p_isnB, p_isNone_n, p_isNone_i, p_isNone_t, p_isNone_l, p_appL, p_appT, b_mc, b_mn, b_ac, b_an, b_rs, b_rz, b_lc, b_ln, b_it, b_if, b_itt, b_iff, p_dSeq, p_eqB, p_neB, len_eT, len_eR, len_eV, isNone_eO, seq_eT, seq_eR, seq_eV, seq_eL, eO_some, eO_none, ↓p_eqN, ↓p_neN, ↓p_ltN, ↓p_leN, ↓p_gtN, ↓p_geN, f1, g1, m1, m2, m3, m4, m5, m6, hy, m7, f2, g2, m8, m9, f3, g3, decide_eq_false hr, hd2, g5, eL, if_pos hl, List.map_append]
theorem digits_m {ns : List Int} (h : ns.length ≤ 63) {i count : Nat} {base : Int} (hi : i ≤ 1000) (hc : count ≤ 1000) (hb0 : 0 < base) (hb : base < 18446744073709551616) :
    ∃ ds : List Nat, ds.length = count ∧ (∀ d ∈ ds, (d : Int) < base) ∧ m_law_digits [.scr ns, .int i, .int count, .int base] = some (eL ds) := by
  obtain ⟨c, hcell⟩ := cell_m h hi
  have hgo : ∀ r : Int, ∃ ds : List Nat, ds.length = count ∧ (∀ d ∈ ds, (d : Int) < base) ∧ ∃ ρ', lk ρ' 7 = some (eL ds) ∧ forL (gN 8) m_law_digits_b1 ((List.range count).map fun i : Nat => D.int i) [some (.scr ns), some (.int i), some (.int count), some (.int base), some (.tup prD), some (.int c), some (.int r), some (.lst []), none, none] = some (.nx ρ') := by
    intro r
    obtain ⟨ρ', h1, ds, h2, h3, r', x, y, h4⟩ := for_range (g := gN 8) (b := m_law_digits_b1) (fun i : Nat => D.int i)
      (fun (k : Nat) (ρ : Rho) => ∃ ds : List Nat, ds.length = k ∧ (∀ d ∈ ds, (d : Int) < base) ∧ ∃ (r : Int) (x y : Option D), ρ = [some (.scr ns), some (.int i), some (.int count), some (.int base), some (.tup prD), some (.int c), some (.int r), some (eL ds), x, y]) count (by
        rintro k hk ρ ⟨ds, hl, hds, r, x, y, rfl⟩
        obtain ⟨d, hd, r', m, e⟩ := dig_body (s := .scr ns) (i := i) (k := k) (c := count) (base := base) (r := r) (cell := c) (ds := ds) y hi (by omega) (by omega) hb0 hb
        refine ⟨_, rfl, _, e, ds ++ [d], by simp [hl], ?_, r', _, _, rfl⟩
        intro z hz
        rcases List.mem_append.mp hz with q | q
        · exact hds z q
        · rw [List.mem_singleton.mp q]
          exact hd) (ρ := [some (.scr ns), some (.int i), some (.int count), some (.int base), some (.tup prD), some (.int c), some (.int r), some (.lst []), none, none]) ⟨[], rfl, by simp, r, none, none, rfl⟩
    exact ⟨ds, h2, h3, ρ', by rw [h4]; rfl, h1⟩
  have hp : opPow (.int 10) (.int 18) = some (.int 1000000000000000000) := rfl
  have hn : (iRng1 (dcons (dv 2) dnil)) = (iRng1 (dcons (dv 2) dnil)) := rfl
  have hr : ∀ r : Int, dFor (iRng1 (dcons (dv 2) dnil)) (gN 8) m_law_digits_b1 [some (.scr ns), some (.int i), some (.int count), some (.int base), some (.tup prD), some (.int c), some (.int r), some (.lst []), none, none] = forL (gN 8) m_law_digits_b1 ((List.range count).map fun i : Nat => D.int i) [some (.scr ns), some (.int i), some (.int count), some (.int base), some (.tup prD), some (.int c), some (.int r), some (.lst []), none, none] := by
    intro r
    exact for_eq (by simp only [bnd_some, bnd_none, p_dc, p_dv, lk_z, lk_s, st_z, st_s, un_z, un_s, wipe_n, wipe_c, p_d2, p_d1, p_dnil, p_dcons, p_dL, p_asB, p_asI, p_asL, p_asSeqL, p_asSeqT, p_bV, p_dB, p_bAnd, p_bOr, p_bNot, p_dIf, p_dAnd, p_dOr, p_dNot, p_dCh, p_bYes, p_gN, p_gT, p_gsNil, p_gsCons, p_dNx, p_dRet, p_dSet, p_dIfS, p_dAsg, p_dPar, p_dAug, p_dApp, p_dSetIx, p_nLst, p_nRep, p_nOf, p_dSetN, p_dParN1, p_dParNN, p_iSeq, p_iRng1, p_iRng2, p_oNo, p_oIx, p_dSl, p_asIx, p_opTup, p_opLst, p_lenT, p_lenL, p_lenS, p_tupT, p_tupL, p_add, p_sub, p_mul, p_lt, p_le, p_gt, p_ge, p_eqI, p_neI, p_isN, p_isnN, p_isB, p_isnB, p_isNone_n, p_isNone_i, p_isNone_t, p_isNone_l, p_appL, p_appT, b_mc, b_mn, b_ac, b_an, b_rs, b_rz, b_lc, b_ln, b_it, b_if, b_itt, b_iff, p_dSeq, p_eqB, p_neB, len_eT, len_eR, len_eV, isNone_eO, seq_eT, seq_eR, seq_eV, seq_eL, eO_some, eO_none, ↓p_eqN, ↓p_neN, ↓p_ltN, ↓p_leN, ↓p_gtN, ↓p_geN, rng1 (n := count) (by omega)])
  by_cases h1 : (1000000000000000000 : Int) ≤ c
  · obtain ⟨ds, h2, h3, ρ', h4, h5⟩ := hgo c
    refine ⟨ds, h2, h3, run_rt rfl ?_⟩
    have h6 := (hr c).trans h5
    unfold prD at h6
    simp only [bnd_some, bnd_none, p_dc, p_dv, lk_z, lk_s, st_z, st_s, un_z, un_s, wipe_n, wipe_c, p_d2, p_d1, p_dnil, p_dcons, p_dL, p_asB, p_asI, p_asL, p_asSeqL, p_asSeqT, p_bV, p_dB, p_bAnd, p_bOr, p_bNot, p_dIf, p_dAnd, p_dOr, p_dNot, p_dCh, p_bYes, p_gN, p_gT, p_gsNil, p_gsCons, p_dNx, p_dRet, p_dSet, p_dIfS, p_dAsg, p_dPar, p_dAug, p_dApp, p_dSetIx, p_nLst, p_nRep, p_nOf, p_dSetN, p_dParN1, p_dParNN, p_iSeq, p_iRng1, p_iRng2, p_oNo, p_oIx, p_dSl, p_asIx, p_opTup, p_opLst, p_lenT, p_lenL, p_lenS, p_tupT, p_tupL, p_add, p_sub, p_mul, p_lt, p_le, p_gt, p_ge, p_eqI, p_neI, p_isN, p_isnN, p_isB, p_isnB, p_isNone_n, p_isNone_i, p_isNone_t, p_isNone_l, p_appL, p_appT, b_mc, b_mn, b_ac, b_an, b_rs, b_rz, b_lc, b_ln, b_it, b_if, b_itt, b_iff, p_dSeq, p_eqB, p_neB, len_eT, len_eR, len_eV, isNone_eO, seq_eT, seq_eR, seq_eV, seq_eL, eO_some, eO_none, ↓p_eqN, ↓p_neN, ↓p_ltN, ↓p_leN, ↓p_gtN, ↓p_geN, hcell, hp, decide_eq_true h1, Nat.reduceLeDiff, Nat.reduceAdd, Nat.reduceSub, h6, h4]
  · obtain ⟨ds, h2, h3, ρ', h4, h5⟩ := hgo 0
    refine ⟨ds, h2, h3, run_rt rfl ?_⟩
    have h6 := (hr 0).trans h5
    unfold prD at h6
    simp only [bnd_some, bnd_none, p_dc, p_dv, lk_z, lk_s, st_z, st_s, un_z, un_s, wipe_n, wipe_c, p_d2, p_d1, p_dnil, p_dcons, p_dL, p_asB, p_asI, p_asL, p_asSeqL, p_asSeqT, p_bV, p_dB, p_bAnd, p_bOr, p_bNot, p_dIf, p_dAnd, p_dOr, p_dNot, p_dCh, p_bYes, p_gN, p_gT, p_gsNil, p_gsCons, p_dNx, p_dRet, p_dSet, p_dIfS, p_dAsg, p_dPar, p_dAug, p_dApp, p_dSetIx, p_nLst, p_nRep, p_nOf, p_dSetN, p_dParN1, p_dParNN, p_iSeq, p_iRng1, p_iRng2, p_oNo, p_oIx, p_dSl, p_asIx, p_opTup, p_opLst, p_lenT, p_lenL, p_lenS, p_tupT, p_tupL, p_add, p_sub, p_mul, p_lt, p_le, p_gt, p_ge, p_eqI, p_neI, p_isN, p_isnN, p_isB, p_isnB, p_isNone_n, p_isNone_i, p_isNone_t, p_isNone_l, p_appL, p_appT, b_mc, b_mn, b_ac, b_an, b_rs, b_rz, b_lc, b_ln, b_it, b_if, b_itt, b_iff, p_dSeq, p_eqB, p_neB, len_eT, len_eR, len_eV, isNone_eO, seq_eT, seq_eR, seq_eV, seq_eL, eO_some, eO_none, ↓p_eqN, ↓p_neN, ↓p_ltN, ↓p_leN, ↓p_gtN, ↓p_geN, hcell, hp, decide_eq_false h1, Nat.reduceLeDiff, Nat.reduceAdd, Nat.reduceSub, h6, h4]
end Mi
namespace Mi
open DL
theorem ix_eL {ds : List Nat} {k : Nat} (h : k < ds.length) : opIx (eL ds) (.int k) = some (.int (ds.getD k 0)) := by
  apply ixL
  simp [h]
@[simp] theorem len_eL (ds : List Nat) : opLen [eL ds] = some (.int ds.length) := by simp [eL]
theorem lcm_pos {a b : Nat} (ha : 0 < a) (hb : 0 < b) : 0 < Nat.lcm a b := Nat.lcm_pos ha hb
end Mi
namespace Mi
open DL
structure DvM (M : Nat) (T : Nat → Nat → Option Nat) : Prop where
  pos : 0 < M
  le : M ≤ 1000000000
  dvd : ∀ i j e, T i j = some e → e ∣ M
theorem DvM.bd {M : Nat} {T : Nat → Nat → Option Nat} (h : DvM M T) {i j e : Nat} (q : T i j = some e) : 0 < e ∧ e ≤ 1000000000 := by
  have h1 := h.dvd i j e q
  exact ⟨Nat.pos_of_dvd_of_pos h1 h.pos, Nat.le_trans (Nat.le_of_dvd h.pos h1) h.le⟩
end Mi
namespace Mi
open DL
theorem div_dvd_div {n a b : Nat} (hn : 0 < n) (ha : a ∣ n) (hb : b ∣ n) : n / a ∣ n / b ↔ b ∣ a := by
  obtain ⟨x, hx⟩ := ha
  obtain ⟨y, hy⟩ := hb
  have a0 : 0 < a := Nat.pos_of_ne_zero fun z => by subst z; simp at hx; omega
  have b0 : 0 < b := Nat.pos_of_ne_zero fun z => by subst z; simp at hy; omega
  have x0 : 0 < x := Nat.pos_of_ne_zero fun z => by subst z; simp at hx; omega
  have e1 : n / a = x := by rw [hx]; exact Nat.mul_div_cancel_left x a0
  have e2 : n / b = y := by rw [hy]; exact Nat.mul_div_cancel_left y b0
  rw [e1, e2]
  have e3 : a * x = b * y := hx.symm.trans hy
  constructor
  · rintro ⟨z, hz⟩
    refine ⟨z, Nat.eq_of_mul_eq_mul_right x0 ?_⟩
    rw [e3, hz, Nat.mul_assoc, Nat.mul_comm z x]
  · rintro ⟨z, hz⟩
    refine ⟨z, Nat.eq_of_mul_eq_mul_left b0 ?_⟩
    rw [← e3, hz, Nat.mul_assoc, Nat.mul_comm z x]
theorem div_div_n {n a : Nat} (hn : 0 < n) (ha : a ∣ n) : n / (n / a) = a := Nat.div_div_self ha (by omega)
theorem div_dvd_n {n a : Nat} (ha : a ∣ n) : n / a ∣ n := Nat.div_dvd_of_dvd ha
/-- the greatest common divisor of quotients -/
theorem gcd_div {n a b : Nat} (hn : 0 < n) (ha : a ∣ n) (hb : b ∣ n) : Nat.gcd (n / a) (n / b) = n / Nat.lcm a b := by
  have hl : Nat.lcm a b ∣ n := Nat.lcm_dvd ha hb
  apply Nat.dvd_antisymm
  · have h1 : Nat.gcd (n / a) (n / b) ∣ n := Nat.dvd_trans (Nat.gcd_dvd_left _ _) (div_dvd_n ha)
    rw [← div_div_n hn h1, div_dvd_div hn (div_dvd_n h1) hl]
    apply Nat.lcm_dvd
    · rw [← div_dvd_div hn (div_dvd_n h1) ha, div_div_n hn h1]
      exact Nat.gcd_dvd_left _ _
    · rw [← div_dvd_div hn (div_dvd_n h1) hb, div_div_n hn h1]
      exact Nat.gcd_dvd_right _ _
  · apply Nat.dvd_gcd
    · rw [div_dvd_div hn hl ha]; exact Nat.dvd_lcm_left _ _
    · rw [div_dvd_div hn hl hb]; exact Nat.dvd_lcm_right _ _
end Mi
namespace Mi
open DL
end Mi
namespace Mi
open DL
end Mi
namespace Mi
open DL
end Mi
namespace Mi
open DL
def colE (m w : Nat) (T : Nat → Nat → Option Nat) (j : Nat) : List Nat := ((kp m w T).filter fun p => decide (p.2 = j)).map fun p => (T p.1 p.2).getD 0
end Mi
namespace Mi
open DL
def divs (n : Nat) : List Nat := ((List.range n).filter fun i => decide (n % (i + 1) = 0)).map (· + 1)
def eI (v : List Nat) : D := .tup (v.map fun n => .int (n : Nat))
theorem ix_eI {v : List Nat} {i : Nat} (h : i < v.length) : opIx (eI v) (.int i) = some (.int (v.getD i 0)) := by
  apply ixT
  simp [h]
end Mi
namespace Mi
open DL
structure Cov (m w : Nat) (T : Nat → Nat → Option Nat) : Prop where
  row : ∀ i, i < m → ∃ j, j < w ∧ ∃ e, T i j = some e
  col : ∀ j, j < w → ∃ i, i < m ∧ ∃ e, T i j = some e
def colP (m w : Nat) (T : Nat → Nat → Option Nat) (j : Nat) : List (Nat × Nat) := (kp m w T).filter fun p => decide (p.2 = j)
def good (m w : Nat) (T : Nat → Nat → Option Nat) (v : List Nat) (j : Nat) : List Nat := (divs ((colE m w T j).headD 0)).filter fun one => (colP m w T j).all fun p => decide (Nat.lcm one (v.getD p.1 0) = (T p.1 p.2).getD 0)
end Mi
namespace Mi
open DL
theorem eqD_nil {α : Type} (f : α → D) (l : List α) : eqD (.lst (l.map f)) (.lst []) = l.isEmpty := by cases l <;> rfl
theorem ok_eI (n : Nat) (v : List Nat) : okD (n + 1) (eI v) = true := okDs_map (n := n) _ v fun _ _ => by simp [okD]
theorem ne_nil {α : Type} (f : α → D) (l : List α) (h : ∀ x ∈ l, okD 59 (f x) = true) : opNe (.lst (l.map f)) (.lst []) = some (.bl (!l.isEmpty)) := by
  have h1 : okD 60 (.lst (l.map f)) = true := okDs_map (n := 59) f l h
  rw [opNe_ok h1 rfl, eqD_nil]
theorem getD_rmap (f : Nat → Nat) {n i : Nat} (h : i < n) : ((List.range n).map f).getD i 0 = f i := by
  rw [List.getD_eq_getElem?_getD]
  simp [h]
end Mi
namespace Mi
/-- how often p divides n -/
def ex (p n : Nat) : Nat := if h : 2 ≤ p ∧ 0 < n ∧ n % p = 0 then ex p (n / p) + 1 else 0
termination_by n
decreasing_by exact Nat.div_lt_self h.2.1 h.1
end Mi
namespace Mi
open DL
end Mi
namespace Mi
open DL
/-- two ascending lists with the same members are equal -/
theorem asc_ext : ∀ {a b : List Nat}, a.Pairwise (· < ·) → b.Pairwise (· < ·) → (∀ x, x ∈ a ↔ x ∈ b) → a = b
  | [], [], _, _, _ => rfl
  | [], y :: b, _, _, h => absurd ((h y).mpr List.mem_cons_self) (by simp)
  | x :: a, [], _, _, h => absurd ((h x).mp List.mem_cons_self) (by simp)
  | x :: a, y :: b, ha, hb, h => by
    have ha' := List.pairwise_cons.mp ha
    have hb' := List.pairwise_cons.mp hb
    have e : x = y := by
      rcases List.mem_cons.mp ((h x).mp List.mem_cons_self) with q | q
      · exact q
      · rcases List.mem_cons.mp ((h y).mpr List.mem_cons_self) with q2 | q2
        · exact q2.symm
        · have := ha'.1 y q2
          have := hb'.1 x q
          omega
    subst e
    rw [asc_ext ha'.2 hb'.2 fun z => ?_]
    constructor
    · intro hz
      rcases List.mem_cons.mp ((h z).mp (List.mem_cons_of_mem _ hz)) with q | q
      · have := ha'.1 z hz; omega
      · exact q
    · intro hz
      rcases List.mem_cons.mp ((h z).mpr (List.mem_cons_of_mem _ hz)) with q | q
      · have := hb'.1 z hz; omega
      · exact q
end Mi
namespace Mi
open DL
end Mi
namespace Mi
open DL
theorem inD_eL (p : Nat) : ∀ F : List Nat, inD (.int p) (F.map fun n : Nat => D.int n) = decide (p ∈ F)
  | [] => rfl
  | a :: F => by
    unfold inD
    rw [List.map_cons, List.any_cons]
    have ih := inD_eL p F
    unfold inD at ih
    rw [ih]
    have e : eqD (.int a) (.int p) = decide (a = p) := by
      by_cases h : a = p
      · simp [eqD, h]
      · have : ¬ (a : Int) = (p : Int) := by omega
        simp [eqD, h, this]
    rw [e]
    by_cases h : a = p
    · simp [h]
    · have : ¬ p = a := fun z => h z.symm
      simp [h, this]
theorem ok_eL (n : Nat) (F : List Nat) : okDs n (F.map fun n : Nat => D.int n) = true := okDs_map _ F fun _ _ => by simp [okD]
theorem in_eL (p : Nat) (F : List Nat) : opIn (.int p) (eL F) = some (.bl (decide (p ∈ F))) := by
  have h : okD 60 (.int (p : Int)) = true ∧ okDs 60 (F.map fun n : Nat => D.int n) = true := ⟨rfl, ok_eL _ _⟩
  show (if _ then _ else _) = _
  rw [if_pos h, inD_eL]
end Mi
namespace Mi
open DL
def Tv (T : Nat → Nat → Option Nat) (q : Nat × Nat) : Nat := (T q.1 q.2).getD 1
/-- what the sure parts are: the least numbers with the prime powers that only they can give -/
structure SureI (T : Nat → Nat → Option Nat) (R C : Nat → Nat) (Dn : Nat → Nat × Nat → Prop) (A B : Nat → Nat) : Prop where
  row : ∀ i d, A i ∣ d ↔ ∀ p q, Dn p q → q.1 = i → ex p (C q.2) < ex p (Tv T q) → p ^ ex p (Tv T q) ∣ d
  col : ∀ j d, B j ∣ d ↔ ∀ p q, Dn p q → q.2 = j → ex p (R q.1) < ex p (Tv T q) → p ^ ex p (Tv T q) ∣ d
def upd1 (A : Nat → Nat) (c : Bool) (i x : Nat) : Nat → Nat := fun k => if c = true ∧ k = i then Nat.lcm (A k) x else A k
theorem upd1_dvd (A : Nat → Nat) (c : Bool) (i x k d : Nat) : upd1 A c i x k ∣ d ↔ A k ∣ d ∧ (c = true → k = i → x ∣ d) := by
  unfold upd1
  by_cases h : c = true ∧ k = i
  · rw [if_pos h, Nat.lcm_dvd_iff]
    constructor
    · rintro ⟨a, b⟩; exact ⟨a, fun _ _ => b⟩
    · rintro ⟨a, b⟩; exact ⟨a, b h.1 h.2⟩
  · rw [if_neg h]
    constructor
    · intro a; exact ⟨a, fun h1 h2 => absurd ⟨h1, h2⟩ h⟩
    · intro a; exact a.1
theorem SureI.step {T : Nat → Nat → Option Nat} {R C A B : Nat → Nat} {Dn : Nat → Nat × Nat → Prop} (h : SureI T R C Dn A B) (p : Nat) (q : Nat × Nat) :
    SureI T R C (fun p' q' => Dn p' q' ∨ (p' = p ∧ q' = q)) (upd1 A (decide (ex p (C q.2) < ex p (Tv T q))) q.1 (p ^ ex p (Tv T q))) (upd1 B (decide (ex p (R q.1) < ex p (Tv T q))) q.2 (p ^ ex p (Tv T q))) := by
  constructor
  · intro i d
    rw [upd1_dvd, h.row]
    constructor
    · rintro ⟨h1, h2⟩ p' q' (hd | ⟨rfl, rfl⟩) hi hl
      · exact h1 p' q' hd hi hl
      · exact h2 (decide_eq_true hl) hi.symm
    · intro h1
      exact ⟨fun p' q' hd => h1 p' q' (Or.inl hd), fun h2 h3 => h1 p q (Or.inr ⟨rfl, rfl⟩) h3.symm (of_decide_eq_true h2)⟩
  · intro j d
    rw [upd1_dvd, h.col]
    constructor
    · rintro ⟨h1, h2⟩ p' q' (hd | ⟨rfl, rfl⟩) hi hl
      · exact h1 p' q' hd hi hl
      · exact h2 (decide_eq_true hl) hi.symm
    · intro h1
      exact ⟨fun p' q' hd => h1 p' q' (Or.inl hd), fun h2 h3 => h1 p q (Or.inr ⟨rfl, rfl⟩) h3.symm (of_decide_eq_true h2)⟩
end Mi
namespace Mi
open DL
def CVal (m w : Nat) (T : Nat → Nat → Option Nat) (j d : Nat) : Prop := ∀ i, i < m → ∀ e, T i j = some e → Nat.lcm (gR w T i) d = e
end Mi
namespace Mi
open DL
end Mi
namespace Mi
open DL
end Mi
namespace Mi
open DL
end Mi
namespace Mi
open DL
end Mi
namespace Mi
open DL
end Mi
namespace Mi
open DL
end Mi
namespace Mi
open DL
end Mi
namespace Mi
open DL
end Mi
namespace Mi
open DL
end Mi
namespace Mi
open DL
end Mi
namespace Mi
open DL
end Mi
namespace Mi
open DL
end Mi
namespace Mi
open DL
end Mi
namespace Mi
open DL
@[simp] theorem p_dOrT (f g : DF) (ρ : Rho) : dOrT f g ρ = bnd (f ρ) fun x => bnd (truI x) fun k => if k = true then some x else g ρ := (rfl)
end Mi
namespace Mi
open DL
end Mi
namespace Mi
open DL
end Mi
namespace Mi
open DL
end Mi
namespace Mi
open DL
end Mi
namespace Mi
open DL
/-- T with entries of V put in -/
def Fil (T V T' : Nat → Nat → Option Nat) : Prop := ∀ i j, T' i j = T i j ∨ (T i j = none ∧ T' i j = V i j)
theorem Fil.refl (T V : Nat → Nat → Option Nat) : Fil T V T := fun _ _ => Or.inl rfl
end Mi
namespace Mi
open DL
theorem lk_st_i : ∀ {ρ : Rho} {i : Nat} {d : D}, i < ρ.length → lk (st ρ i d) i = some d
  | [], i, d, h => absurd h (Nat.not_lt_zero i)
  | _ :: _, 0, _, _ => rfl
  | _ :: r, i + 1, d, h => lk_st_i (ρ := r) (i := i) (by simpa using h)
theorem lk_st_o {ρ : Rho} {i j : Nat} {d : D} (h : (j == i) = false) : lk (st ρ i d) j = lk ρ j := lk_st_ne (by simpa using h)
theorem lk_un_o {ρ : Rho} {i j : Nat} (h : (j == i) = false) : lk (un ρ i) j = lk ρ j := lk_un_ne (by simpa using h)
theorem len_st (ρ : Rho) (i : Nat) (d : D) : (st ρ i d).length = ρ.length := st_len ρ i d
theorem len_un (ρ : Rho) (i : Nat) : (un ρ i).length = ρ.length := un_len ρ i
/-- ρ' is ρ but at the slots ws -/
def Ag (ws : List Nat) (ρ ρ' : Rho) : Prop := ρ'.length = ρ.length ∧ ∀ j, j ∉ ws → lk ρ' j = lk ρ j
theorem Ag.refl (ws : List Nat) (ρ : Rho) : Ag ws ρ ρ := ⟨rfl, fun _ _ => rfl⟩
theorem Ag.st {ws : List Nat} {ρ ρ' : Rho} {i : Nat} {d : D} (h : Ag ws ρ ρ') (hi : i ∈ ws) : Ag ws ρ (st ρ' i d) :=
  ⟨(st_len ρ' i d).trans h.1, fun j hj => (lk_st_ne (fun e : j = i => hj (by rw [e]; exact hi))).trans (h.2 j hj)⟩
theorem Ag.trans {ws : List Nat} {a b c : Rho} (h : Ag ws a b) (h' : Ag ws b c) : Ag ws a c := ⟨h'.1.trans h.1, fun j hj => (h'.2 j hj).trans (h.2 j hj)⟩
theorem Ag.mono {ws vs : List Nat} {a b : Rho} (h : Ag ws a b) (hs : ∀ i ∈ ws, i ∈ vs) : Ag vs a b := ⟨h.1, fun j hj => h.2 j fun z => hj (hs j z)⟩
theorem Ag.lk {ws : List Nat} {a b : Rho} (h : Ag ws a b) (j : Nat) (hj : j ∉ ws) {x : Option D} (e : lk a j = x) : DL.lk b j = x := (h.2 j hj).trans e
theorem for_ag {b : DS} {i n : Nat} {ws : List Nat} {ρ : Rho} (e : Nat → D) (hi : i ∈ ws) (hl : i < ρ.length) (hb : ∀ k, k < n → ∀ ρ', Ag ws ρ ρ' → lk ρ' i = some (e k) → ∃ ρ'', b ρ' = some (.nx ρ'') ∧ Ag ws ρ ρ'') :
    ∃ ρ', forL (gN i) b ((List.range n).map e) ρ = some (.nx ρ') ∧ Ag ws ρ ρ' :=
  for_range (g := gN i) e (fun _ ρ' => Ag ws ρ ρ') n (fun k hk ρ' h => ⟨_, rfl, hb k hk _ (h.st hi) (lk_st_i (by rw [h.1]; exact hl))⟩) (Ag.refl ws ρ)
theorem for_agL {α : Type} {b : DS} {i : Nat} {ws : List Nat} {ρ : Rho} (e : α → D) (xs : List α) (hi : i ∈ ws) (hl : i < ρ.length) (hb : ∀ x ∈ xs, ∀ ρ', Ag ws ρ ρ' → lk ρ' i = some (e x) → ∃ ρ'', b ρ' = some (.nx ρ'') ∧ Ag ws ρ ρ'') :
    ∃ ρ', forL (gN i) b (xs.map e) ρ = some (.nx ρ') ∧ Ag ws ρ ρ' :=
  for_all (g := gN i) e (fun ρ' => Ag ws ρ ρ') xs ρ (fun k hk ρ' h => ⟨_, rfl, hb k hk _ (h.st hi) (lk_st_i (by rw [h.1]; exact hl))⟩) (Ag.refl ws ρ)
/-- an invariant besides -/
theorem for_agP {b : DS} {i n : Nat} {ws : List Nat} {ρ : Rho} (e : Nat → D) (P : Nat → Rho → Prop) (hi : i ∈ ws) (hl : i < ρ.length) (h0 : P 0 ρ) (hst : ∀ k ρ' d, P k ρ' → P k (st ρ' i d))
    (hb : ∀ k, k < n → ∀ ρ', Ag ws ρ ρ' → lk ρ' i = some (e k) → P k ρ' → ∃ ρ'', b ρ' = some (.nx ρ'') ∧ Ag ws ρ ρ'' ∧ P (k + 1) ρ'') :
    ∃ ρ', forL (gN i) b ((List.range n).map e) ρ = some (.nx ρ') ∧ Ag ws ρ ρ' ∧ P n ρ' :=
  for_range (g := gN i) e (fun k ρ' => Ag ws ρ ρ' ∧ P k ρ') n (fun k hk ρ' h => ⟨_, rfl, hb k hk _ (h.1.st hi) (lk_st_i (by rw [h.1.1]; exact hl)) (hst k ρ' _ h.2)⟩) ⟨Ag.refl ws ρ, h0⟩
theorem eV_eI (m : Nat) (f : Nat → Nat) : eV m f = eI ((List.range m).map f) := by
  unfold eV eI
  rw [List.map_map]
  rfl
theorem eqDs_ints : ∀ a b : List Nat, eqDs (a.map fun n => D.int (n : Nat)) (b.map fun n => D.int (n : Nat)) = decide (a = b)
  | [], [] => rfl
  | [], _ :: _ => rfl
  | _ :: _, [] => rfl
  | x :: a, y :: b => by
    rw [List.map_cons, List.map_cons]
    unfold eqDs
    rw [eqDs_ints a b]
    have : eqD (.int (x : Int)) (.int (y : Int)) = decide (x = y) := by
      show decide ((x : Int) = y) = _
      exact decide_eq_decide.mpr (by omega)
    rw [this, Bool.eq_iff_iff]
    simp
theorem eq_eI (a b : List Nat) : eqD (eI a) (eI b) = decide (a = b) := by
  show eqDs _ _ = _
  exact eqDs_ints a b
end Mi
namespace Mi
open DL
end Mi
namespace Mi
open DL
theorem size_g (d n : Nat) (k : Int) (hk : k = (n : Int)) (hn : 0 < n) : ∃ m : Nat, 0 < m ∧ m ≤ n ∧ (bnd (opMod (.int d) (.int k)) fun y => opAdd (.int 1) y) = some (.int m) := by
  subst hk
  refine ⟨1 + d % n, by omega, by have := Nat.mod_lt d hn; omega, ?_⟩
  rw [mod_n hn]
  simp only [bnd_some, p_add]
  rfl
end Mi
namespace Mi
open DL
end Mi
namespace Mi
open DL
end Mi
namespace Mi
open DL
end Mi
namespace Mi
open DL
theorem for_agPre {α : Type} {b : DS} {i : Nat} {ws : List Nat} {ρ : Rho} (e : α → D) (P : List α → Rho → Prop) (xs : List α) (hi : i ∈ ws) (hl : i < ρ.length) (h0 : P [] ρ) (hst : ∀ pre ρ' d, P pre ρ' → P pre (st ρ' i d))
    (hb : ∀ pre x r, xs = pre ++ x :: r → ∀ ρ', Ag ws ρ ρ' → lk ρ' i = some (e x) → P pre ρ' → ∃ ρ'', b ρ' = some (.nx ρ'') ∧ Ag ws ρ ρ'' ∧ P (pre ++ [x]) ρ'') :
    ∃ ρ', forL (gN i) b (xs.map e) ρ = some (.nx ρ') ∧ Ag ws ρ ρ' ∧ P xs ρ' :=
  for_pre (g := gN i) e (fun pre ρ' => Ag ws ρ ρ' ∧ P pre ρ') xs (fun pre x r q ρ' h => ⟨_, rfl, hb pre x r q _ (h.1.st hi) (lk_st_i (by rw [h.1.1]; exact hl)) (hst pre ρ' _ h.2)⟩) ⟨Ag.refl ws ρ, h0⟩
end Mi
namespace Mi
open DL
theorem for_agTP {α : Type} {g : DG} {b : DS} {ws : List Nat} {ρ : Rho} (e : α → D) (P : List α → Rho → Prop) (xs : List α) (h0 : P [] ρ)
    (hb : ∀ pre x r, xs = pre ++ x :: r → ∀ ρ', Ag ws ρ ρ' → P pre ρ' → ∃ ρ1, g (e x) ρ' = some ρ1 ∧ ∃ ρ'', b ρ1 = some (.nx ρ'') ∧ Ag ws ρ ρ'' ∧ P (pre ++ [x]) ρ'') :
    ∃ ρ', forL g b (xs.map e) ρ = some (.nx ρ') ∧ Ag ws ρ ρ' ∧ P xs ρ' :=
  for_pre (g := g) e (fun pre ρ' => Ag ws ρ ρ' ∧ P pre ρ') xs (fun pre x r q ρ' h => hb pre x r q ρ' h.1 h.2) ⟨Ag.refl ws ρ, h0⟩
end Mi
namespace Mi
open DL
end Mi
namespace Mi
open DL
end Mi
namespace Mi
open DL
section
variable {m w M : Nat} {T : Nat → Nat → Option Nat} {A B : Nat → Nat} {p : Nat}
def Loc (m w : Nat) (T : Nat → Nat → Option Nat) (p : Nat) (x : Nat → Nat) : Prop := ∀ i j, i < m → j < w → ∀ e, T i j = some e → max (x i) (x (m + j)) = ex p e
end
end Mi
namespace Mi
open DL
theorem getD_rm (f : Nat → Nat) {n i : Nat} (d : Nat) (h : i < n) : ((List.range n).map f).getD i d = f i := by
  rw [List.getD_eq_getElem?_getD]
  simp [h]
theorem ext_getD {a b : List Nat} {n : Nat} (ha : a.length = n) (hb : b.length = n) (h : ∀ i, i < n → a.getD i 0 = b.getD i 0) : a = b := by
  apply List.ext_getElem (by omega)
  intro i h1 h2
  have := h i (by omega)
  rw [List.getD_eq_getElem?_getD, List.getD_eq_getElem?_getD, List.getElem?_eq_getElem h1, List.getElem?_eq_getElem h2] at this
  exact this
end Mi
namespace Mi
open DL
section
variable {m w M : Nat} {T : Nat → Nat → Option Nat} {A B : Nat → Nat}
theorem add_eI (S : List Nat) (a : Nat) (h : S.length ≤ 1000) : opAdd (eI S) (.tup [.int a]) = some (eI (S ++ [a])) := by
  unfold eI
  rw [p_appT, if_pos (by simp; omega)]
  rw [List.map_append]
  rfl
end
end Mi
namespace Mi
open DL
end Mi
namespace Mi
open DL
end Mi
namespace Mi
open DL
end Mi
namespace Mi
open DL
section
variable {m w M : Nat} {T : Nat → Nat → Option Nat} {A B R C : Nat → Nat}
theorem eI_eV {l : List Nat} (h : l.length = w) : eI l = eV w fun j => l.getD j 0 := by
  rw [eV_eI]
  refine congrArg eI (ext_getD h (by simp) fun j hj => ?_)
  rw [getD_rm _ _ hj]
end
end Mi
namespace Mi
open DL
end Mi
namespace Mi
open DL
end Mi
namespace Mi
open DL
end Mi
namespace Mi
open DL
theorem notIn_eI (p : Nat) (F : List Nat) : opNotIn (.int p) (eI F) = some (.bl (decide (p ∉ F))) := by
  have h1 : okDs 60 (F.map fun n : Nat => D.int n) = true := ok_eL 60 F
  show (if okD 60 (.int p) = true ∧ okDs 60 (F.map fun n : Nat => D.int n) = true then some (D.bl (!inD (.int p) (F.map fun n : Nat => D.int n))) else none) = _
  rw [if_pos ⟨rfl, h1⟩, inD_eL]
  simp
end Mi
namespace Mi
open DL
end Mi
namespace Mi
open DL
end Mi
namespace Mi
open DL
end Mi
namespace Mi
open DL
end Mi
namespace Mi
open DL
end Mi
namespace Mi
open DL
end Mi
namespace Mi
open DL
end Mi
namespace Mi
open DL
end Mi
namespace Mi
open DL
section
variable {m m' w M : Nat} {T : Nat → Nat → Option Nat} {A B A' B' : Nat → Nat}
theorem DvM.map (hM : DvM M T) (f : Nat → Nat) : DvM M (fun i j => T (f i) j) := ⟨hM.pos, hM.le, fun i j e he => hM.dvd (f i) j e he⟩
theorem Cov.map {f : Nat → Nat} (hc : Cov m w T) (hf : ∀ i, i < m' → f i < m) (hs : ∀ i, i < m → ∃ k, k < m' ∧ f k = i) : Cov m' w (fun i j => T (f i) j) := ⟨fun i hi => hc.row (f i) (hf i hi), fun j hj => by
  obtain ⟨i, hi, e, he⟩ := hc.col j hj
  obtain ⟨k, hk, rfl⟩ := hs i hi
  exact ⟨k, hk, e, he⟩⟩
end
end Mi
namespace Mi
open DL
end Mi
namespace Mi
open DL
end Mi
namespace Mi
open DL
end Mi
namespace Mi
open DL
end Mi
namespace Mi
open DL
end Mi
namespace Mi
open DL
end Mi
namespace Mi
open DL
end Mi
namespace Mi
open DL
end Mi
namespace Mi
open DL
theorem is_integer_m (i lo hi : Int) : m_is_integer [.int i, .int lo, .int hi] = some (.bl (decide (lo ≤ i) && decide (i ≤ hi))) := by
  have a1 : opIsi "int" (.int i) = some (.bl true) := rfl
  have a2 : opIsi "bool" (.int i) = some (.bl false) := rfl
  refine run_rt rfl ?_
  by_cases q : lo ≤ i
  · simp only [bnd_some, bnd_none, p_dc, p_dv, lk_z, lk_s, st_z, st_s, un_z, un_s, wipe_n, wipe_c, p_d2, p_d1, p_dnil, p_dcons, p_dL, p_asB, p_asI, p_asL, p_asSeqL, p_asSeqT, p_bV, p_dB, p_bAnd, p_bOr, p_bNot, p_dIf, p_dAnd, p_dOr, p_dNot, p_dCh, p_bYes, p_gN, p_gT, p_gsNil, p_gsCons, p_dNx, p_dRet, p_dSet, p_dIfS, p_dAsg, p_dPar, p_dAug, p_dApp, p_dSetIx, p_nLst, p_nRep, p_nOf, p_dSetN, p_dParN1, p_dParNN, p_iSeq, p_iRng1, p_iRng2, p_oNo, p_oIx, p_dSl, p_asIx, p_opTup, p_opLst, p_lenT, p_lenL, p_lenS, p_tupT, p_tupL, p_add, p_sub, p_mul, p_lt, p_le, p_gt, p_ge, p_eqI, p_neI, p_isN, p_isnN, p_isB, p_isnB, p_isNone_n, p_isNone_i, p_isNone_t, p_isNone_l, p_appL, p_appT, b_mc, b_mn, b_ac, b_an, b_rs, b_rz, b_lc, b_ln, b_it, b_if, b_itt, b_iff, p_dSeq, p_eqB, p_neB, len_eT, len_eR, len_eV, isNone_eO, seq_eT, seq_eR, seq_eV, seq_eL, eO_some, eO_none, len_eL, p_dOrT, ↓p_eqN, ↓p_neN, ↓p_ltN, ↓p_leN, ↓p_gtN, ↓p_geN, Nat.reduceSub, a1, a2, dCh, Option.bind_some, p_le, decide_eq_true q, Bool.true_and, Bool.not_false]
  · simp only [bnd_some, bnd_none, p_dc, p_dv, lk_z, lk_s, st_z, st_s, un_z, un_s, wipe_n, wipe_c, p_d2, p_d1, p_dnil, p_dcons, p_dL, p_asB, p_asI, p_asL, p_asSeqL, p_asSeqT, p_bV, p_dB, p_bAnd, p_bOr, p_bNot, p_dIf, p_dAnd, p_dOr, p_dNot, p_dCh, p_bYes, p_gN, p_gT, p_gsNil, p_gsCons, p_dNx, p_dRet, p_dSet, p_dIfS, p_dAsg, p_dPar, p_dAug, p_dApp, p_dSetIx, p_nLst, p_nRep, p_nOf, p_dSetN, p_dParN1, p_dParNN, p_iSeq, p_iRng1, p_iRng2, p_oNo, p_oIx, p_dSl, p_asIx, p_opTup, p_opLst, p_lenT, p_lenL, p_lenS, p_tupT, p_tupL, p_add, p_sub, p_mul, p_lt, p_le, p_gt, p_ge, p_eqI, p_neI, p_isN, p_isnN, p_isB, p_isnB, p_isNone_n, p_isNone_i, p_isNone_t, p_isNone_l, p_appL, p_appT, b_mc, b_mn, b_ac, b_an, b_rs, b_rz, b_lc, b_ln, b_it, b_if, b_itt, b_iff, p_dSeq, p_eqB, p_neB, len_eT, len_eR, len_eV, isNone_eO, seq_eT, seq_eR, seq_eV, seq_eL, eO_some, eO_none, len_eL, p_dOrT, ↓p_eqN, ↓p_neN, ↓p_ltN, ↓p_leN, ↓p_gtN, ↓p_geN, Nat.reduceSub, a1, a2, dCh, Option.bind_some, p_le, decide_eq_false q, Bool.false_and, Bool.not_false]
theorem init_test (ns : List Int) (h : bellOk ns = true) : m_init_t (none :: some (.tup (ns.map .int)) :: List.replicate (3 - 2) none) = some false := by
  unfold bellOk at h
  rw [Bool.and_eq_true, Bool.and_eq_true, decide_eq_true_eq, decide_eq_true_eq] at h
  obtain ⟨h1, h2, h3⟩ := h
  have c1 : m_init_c1 [none, some (.tup (ns.map .int)), none] = some (.lst (ns.map fun i => .bl (decide (1 ≤ i) && decide (i ≤ 1000)))) := by
    unfold m_init_c1
    rw [comp_all (fun i : Int => D.int i) (fun i => .bl (decide (1 ≤ i) && decide (i ≤ 1000))) ns (by simp only [bnd_some, bnd_none, p_dc, p_dv, lk_z, lk_s, st_z, st_s, un_z, un_s, wipe_n, wipe_c, p_d2, p_d1, p_dnil, p_dcons, p_dL, p_asB, p_asI, p_asL, p_asSeqL, p_asSeqT, p_bV, p_dB, p_bAnd, p_bOr, p_bNot, p_dIf, p_dAnd, p_dOr, p_dNot, p_dCh, p_bYes, p_gN, p_gT, p_gsNil, p_gsCons, p_dNx, p_dRet, p_dSet, p_dIfS, p_dAsg, p_dPar, p_dAug, p_dApp, p_dSetIx, p_nLst, p_nRep, p_nOf, p_dSetN, p_dParN1, p_dParNN, p_iSeq, p_iRng1, p_iRng2, p_oNo, p_oIx, p_dSl, p_asIx, p_opTup, p_opLst, p_lenT, p_lenL, p_lenS, p_tupT, p_tupL, p_add, p_sub, p_mul, p_lt, p_le, p_gt, p_ge, p_eqI, p_neI, p_isN, p_isnN, p_isB, p_isnB, p_isNone_n, p_isNone_i, p_isNone_t, p_isNone_l, p_appL, p_appT, b_mc, b_mn, b_ac, b_an, b_rs, b_rz, b_lc, b_ln, b_it, b_if, b_itt, b_iff, p_dSeq, p_eqB, p_neB, len_eT, len_eR, len_eV, isNone_eO, seq_eT, seq_eR, seq_eV, seq_eL, eO_some, eO_none, len_eL, p_dOrT, ↓p_eqN, ↓p_neN, ↓p_ltN, ↓p_leN, ↓p_gtN, ↓p_geN]) (by omega) (by
      intro i _
      have := is_integer_m i 1 1000
      refine ⟨_, rfl, ?_⟩
      simp only [bnd_some, bnd_none, p_dc, p_dv, lk_z, lk_s, st_z, st_s, un_z, un_s, wipe_n, wipe_c, p_d2, p_d1, p_dnil, p_dcons, p_dL, p_asB, p_asI, p_asL, p_asSeqL, p_asSeqT, p_bV, p_dB, p_bAnd, p_bOr, p_bNot, p_dIf, p_dAnd, p_dOr, p_dNot, p_dCh, p_bYes, p_gN, p_gT, p_gsNil, p_gsCons, p_dNx, p_dRet, p_dSet, p_dIfS, p_dAsg, p_dPar, p_dAug, p_dApp, p_dSetIx, p_nLst, p_nRep, p_nOf, p_dSetN, p_dParN1, p_dParNN, p_iSeq, p_iRng1, p_iRng2, p_oNo, p_oIx, p_dSl, p_asIx, p_opTup, p_opLst, p_lenT, p_lenL, p_lenS, p_tupT, p_tupL, p_add, p_sub, p_mul, p_lt, p_le, p_gt, p_ge, p_eqI, p_neI, p_isN, p_isnN, p_isB, p_isnB, p_isNone_n, p_isNone_i, p_isNone_t, p_isNone_l, p_appL, p_appT, b_mc, b_mn, b_ac, b_an, b_rs, b_rz, b_lc, b_ln, b_it, b_if, b_itt, b_iff, p_dSeq, p_eqB, p_neB, len_eT, len_eR, len_eV, isNone_eO, seq_eT, seq_eR, seq_eV, seq_eL, eO_some, eO_none, len_eL, p_dOrT, ↓p_eqN, ↓p_neN, ↓p_ltN, ↓p_leN, ↓p_gtN, ↓p_geN, this])]
  have al : opAll [.lst (ns.map fun i => .bl (decide (1 ≤ i) && decide (i ≤ 1000)))] = some (.bl true) := by
    show (asBls _).bind _ = _
    rw [asBls_map]
    simp only [Option.bind_some]
    have : (ns.map fun i => decide (1 ≤ i) && decide (i ≤ 1000)).all id = true := by
      rw [List.all_map]
      exact h3
    try simp only [this]
    try rfl
  have ln : opLen [.tup (ns.map D.int)] = some (.int (ns.length : Int)) := by simp
  have l1 : opLe (.int 1) (.int (ns.length : Int)) = some (.bl (decide (1 ≤ ns.length))) := p_leN 1 _
  have l2 : opLe (.int (ns.length : Int)) (.int 5) = some (.bl (decide (ns.length ≤ 5))) := p_leN _ 5
  rw [decide_eq_true h1] at l1
  rw [decide_eq_true h2] at l2
  show m_init_t [none, some (.tup (ns.map .int)), none] = some false
  unfold m_init_t
  simp only [bnd_some, bnd_none, p_dc, p_dv, lk_z, lk_s, st_z, st_s, un_z, un_s, wipe_n, wipe_c, p_d2, p_d1, p_dnil, p_dcons, p_dL, p_asB, p_asI, p_asL, p_asSeqL, p_asSeqT, p_bV, p_dB, p_bAnd, p_bOr, p_bNot, p_dIf, p_dAnd, p_dOr, p_dNot, p_dCh, p_bYes, p_gN, p_gT, p_gsNil, p_gsCons, p_dNx, p_dRet, p_dSet, p_dIfS, p_dAsg, p_dPar, p_dAug, p_dApp, p_dSetIx, p_nLst, p_nRep, p_nOf, p_dSetN, p_dParN1, p_dParNN, p_iSeq, p_iRng1, p_iRng2, p_oNo, p_oIx, p_dSl, p_asIx, p_opTup, p_opLst, p_lenT, p_lenL, p_lenS, p_tupT, p_tupL, p_add, p_sub, p_mul, p_lt, p_le, p_gt, p_ge, p_eqI, p_neI, p_isN, p_isnN, p_isB, p_isnB, p_isNone_n, p_isNone_i, p_isNone_t, p_isNone_l, p_appL, p_appT, b_mc, b_mn, b_ac, b_an, b_rs, b_rz, b_lc, b_ln, b_it, b_if, b_itt, b_iff, p_dSeq, p_eqB, p_neB, len_eT, len_eR, len_eV, isNone_eO, seq_eT, seq_eR, seq_eV, seq_eL, eO_some, eO_none, len_eL, p_dOrT, ↓p_eqN, ↓p_neN, ↓p_ltN, ↓p_leN, ↓p_gtN, ↓p_geN, dCh, Option.bind_some, ln, ↓l1, ↓l2, c1, al, Bool.not_true]
  try rfl
def hS : Nat → (Nat → Int) → Int
  | 0, f => f 0
  | r + 1, f => hS r f + hS r fun c => f (c + 1)
def chooseN : Nat → Nat → Nat
  | _, 0 => 1
  | 0, _ + 1 => 0
  | n + 1, k + 1 => chooseN n k + chooseN n (k + 1)
def fJ (k c : Nat) : Int := if k ≤ c then (chooseN c k : Int) * (if (c - k) % 2 = 0 then 1 else -1) else 0
theorem hS_J : ∀ r, r < 6 → ∀ k, k < 6 → hS r (fJ k) = if r = k then 1 else 0 := by decide
/-- the sets of bells: how many, and after how long they meet -/
def meet (ps : List Nat) : List (Nat × Nat) := ps.foldl (fun L p => L ++ L.map fun s => (s.1 + 1, Nat.lcm s.2 p)) [(0, 1)]
theorem meet_snoc (ps : List Nat) (p : Nat) : meet (ps ++ [p]) = meet ps ++ (meet ps).map fun s => (s.1 + 1, Nat.lcm s.2 p) := by
  unfold meet
  rw [List.foldl_append]
  rfl
def ringN (ps : List Nat) (x : Nat) : Nat := (ps.filter fun p => decide (x % p = 0)).length
/-- sums -/
def sumI {α : Type} (L : List α) (g : α → Int) : Int := (L.map g).sum
theorem sumI_append {α : Type} (L M : List α) (g : α → Int) : sumI (L ++ M) g = sumI L g + sumI M g := by
  unfold sumI
  rw [List.map_append, List.sum_append]
theorem sumI_map {α β : Type} (L : List α) (h : α → β) (g : β → Int) : sumI (L.map h) g = sumI L fun a => g (h a) := by
  unfold sumI
  rw [List.map_map]
  rfl
theorem sumI_congr {α : Type} {L : List α} {g h : α → Int} (e : ∀ a ∈ L, g a = h a) : sumI L g = sumI L h := by
  unfold sumI
  rw [List.map_congr_left e]
theorem sumI_add {α : Type} (g h : α → Int) : ∀ L : List α, sumI L (fun a => g a + h a) = sumI L g + sumI L h
  | [] => rfl
  | a :: L => by
    have := sumI_add g h L
    unfold sumI at this ⊢
    rw [List.map_cons, List.map_cons, List.map_cons, List.sum_cons, List.sum_cons, List.sum_cons, this]
    omega
theorem sumI_zero {α : Type} : ∀ L : List α, sumI L (fun _ => 0) = 0
  | [] => rfl
  | a :: L => by
    have := sumI_zero L
    unfold sumI at this ⊢
    rw [List.map_cons, List.sum_cons, this]
    rfl
theorem dvd_mod {l x : Nat} : l ∣ x ↔ x % l = 0 := Nat.dvd_iff_mod_eq_zero
theorem at_time (x : Nat) : ∀ (r ps : List Nat), ps = r.reverse → ∀ f : Nat → Int, sumI (meet ps) (fun s => if s.2 ∣ x then f s.1 else 0) = hS (ringN ps x) f
  | [], ps, e, f => by
    subst e
    show (if 1 ∣ x then f 0 else 0) + 0 = f 0
    rw [if_pos (Nat.one_dvd x)]
    omega
  | p :: r, ps, e, f => by
    subst e
    rw [List.reverse_cons, meet_snoc, sumI_append, sumI_map, at_time x r _ rfl f]
    by_cases q : p ∣ x
    · have e1 : ringN (r.reverse ++ [p]) x = ringN r.reverse x + 1 := by
        unfold ringN
        rw [List.filter_append, List.length_append]
        have : [p].filter (fun p => decide (x % p = 0)) = [p] := by rw [List.filter_cons, decide_eq_true (dvd_mod.mp q)]; rfl
        rw [this]
        rfl
      rw [e1]
      show _ = hS (ringN r.reverse x) f + hS (ringN r.reverse x) fun c => f (c + 1)
      rw [← at_time x r _ rfl fun c => f (c + 1)]
      congr 1
      refine sumI_congr fun s _ => ?_
      have : Nat.lcm s.2 p ∣ x ↔ s.2 ∣ x := by
        rw [Nat.lcm_dvd_iff]
        exact ⟨fun h => h.1, fun h => ⟨h, q⟩⟩
      by_cases z : s.2 ∣ x
      · rw [if_pos z, if_pos (this.mpr z)]
      · rw [if_neg z, if_neg fun h => z (this.mp h)]
    · have e1 : ringN (r.reverse ++ [p]) x = ringN r.reverse x := by
        unfold ringN
        rw [List.filter_append, List.length_append]
        have : [p].filter (fun p => decide (x % p = 0)) = [] := by rw [List.filter_cons, decide_eq_false fun h => q (dvd_mod.mpr h)]; rfl
        rw [this]
        rfl
      rw [e1]
      have : sumI (meet r.reverse) (fun s => if Nat.lcm s.2 p ∣ x then f (s.1 + 1) else 0) = 0 := by
        refine (sumI_congr (h := fun _ => 0) fun s _ => ?_).trans (sumI_zero _)
        rw [if_neg fun h => q ((Nat.lcm_dvd_iff.mp h).2)]
      rw [this]
      omega
/-- multiples up to a time -/
def mulN (t : Int) (l : Nat) : Int := t / (l : Int) + 1
theorem mulN_start {l : Nat} (h : 0 < l) : mulN (-1) l = 0 := by
  unfold mulN
  have : (-1 : Int) / (l : Int) = -1 := by
    rw [show (-1 : Int) = -((1 : Nat) : Int) by rfl]
    have := Int.ediv_emod_unique (a := -1) (b := (l : Int)) (r := (l : Int) - 1) (q := -1) (by omega)
    exact (this.mpr ⟨by omega, by omega, by omega⟩).1
  omega
theorem mulN_step {l : Nat} (h : 0 < l) (T : Nat) : mulN (T : Int) l = mulN ((T : Int) - 1) l + if l ∣ T then 1 else 0 := by
  cases T with
  | zero =>
    have e : ((0 : Nat) : Int) - 1 = -1 := rfl
    rw [e, mulN_start h, if_pos (Nat.dvd_zero l)]
    unfold mulN
    simp
  | succ n =>
    have e : ((n + 1 : Nat) : Int) - 1 = (n : Int) := by omega
    rw [e]
    unfold mulN
    rw [← Int.natCast_ediv, ← Int.natCast_ediv, Nat.succ_div]
    by_cases z : l ∣ n + 1
    · rw [if_pos z, if_pos z]; omega
    · rw [if_neg z, if_neg z]; omega
def upTo (P : Nat → Bool) (T : Nat) : Nat := ((List.range T).filter P).length
theorem upTo_succ (P : Nat → Bool) (T : Nat) : upTo P (T + 1) = upTo P T + if P T = true then 1 else 0 := by
  unfold upTo
  rw [List.range_succ, List.filter_append, List.length_append]
  by_cases z : P T = true
  · rw [if_pos z]
    have : [T].filter P = [T] := by rw [List.filter_cons, if_pos z]; rfl
    rw [this]
    rfl
  · rw [if_neg z]
    have : [T].filter P = [] := by rw [List.filter_cons, if_neg z]; rfl
    rw [this]
    rfl
theorem sum_upTo {L : List (Nat × Nat)} (hL : ∀ s ∈ L, 0 < s.2) (f : Nat → Int) (P : Nat → Bool) (hP : ∀ x, sumI L (fun s => if s.2 ∣ x then f s.1 else 0) = if P x = true then 1 else 0) : ∀ T : Nat, sumI L (fun s => f s.1 * mulN ((T : Int) - 1) s.2) = (upTo P T : Int)
  | 0 => by
    refine (sumI_congr (h := fun _ => 0) fun s hs => ?_).trans (sumI_zero _)
    show f s.1 * mulN (-1) s.2 = 0
    rw [mulN_start (hL s hs), Int.mul_zero]
  | T + 1 => by
    rw [upTo_succ]
    have e : ((T + 1 : Nat) : Int) - 1 = (T : Int) := by omega
    rw [e]
    have : sumI L (fun s => f s.1 * mulN (T : Int) s.2) = sumI L (fun s => f s.1 * mulN ((T : Int) - 1) s.2 + if s.2 ∣ T then f s.1 else 0) := by
      refine sumI_congr fun s hs => ?_
      rw [mulN_step (hL s hs), Int.mul_add]
      by_cases z : s.2 ∣ T
      · rw [if_pos z, if_pos z, Int.mul_one]
      · rw [if_neg z, if_neg z, Int.mul_zero]
    rw [this, sumI_add, sum_upTo hL f P hP T, hP T]
    by_cases z : P T = true
    · rw [if_pos z, if_pos z]; omega
    · rw [if_neg z, if_neg z]; omega
theorem upTo_add (P : Nat → Bool) (lo : Nat) : ∀ m, upTo P (lo + m) = upTo P lo + ((List.range m).filter fun i => P (lo + i)).length
  | 0 => rfl
  | m + 1 => by
    rw [← Nat.add_assoc, upTo_succ, upTo_add P lo m, List.range_succ, List.filter_append, List.length_append]
    by_cases z : P (lo + m) = true
    · have : [m].filter (fun i => P (lo + i)) = [m] := by rw [List.filter_cons, if_pos z]; rfl
      rw [if_pos z, this]
      rfl
    · have : [m].filter (fun i => P (lo + i)) = [] := by rw [List.filter_cons, if_neg z]; rfl
      rw [if_neg z, this]
      rfl
end Mi
namespace Mi
open DL
def eM (s : Nat × Nat) : D := .tup [.int (s.1 : Nat), .int (s.2 : Nat)]
def eB (ps : List Nat) : D := .bell (ps.map fun p : Nat => (p : Int))
structure Pds (ps : List Nat) : Prop where
  one : 1 ≤ ps.length
  five : ps.length ≤ 5
  bd : ∀ p ∈ ps, 0 < p ∧ p ≤ 1000
theorem meet_bd : ∀ (r ps : List Nat), ps = r.reverse → (∀ p ∈ ps, 0 < p ∧ p ≤ 1000) → (meet ps).length = 2 ^ ps.length ∧ ∀ s ∈ meet ps, 0 < s.2 ∧ s.2 ≤ 1000 ^ ps.length ∧ s.1 ≤ ps.length
  | [], ps, e, _ => by
    subst e
    refine ⟨rfl, fun s hs => ?_⟩
    have : s = (0, 1) := by simpa [meet] using hs
    subst this
    exact ⟨by decide, by decide, by decide⟩
  | p :: r, ps, e, hb => by
    subst e
    rw [List.reverse_cons] at hb ⊢
    have hp := hb p (by simp)
    obtain ⟨h1, h2⟩ := meet_bd r _ rfl fun q hq => hb q (by simp only [List.mem_append]; exact .inl hq)
    rw [meet_snoc]
    refine ⟨by rw [List.length_append, List.length_map, h1, List.length_append, List.length_singleton, Nat.pow_succ]; omega, fun s hs => ?_⟩
    rw [List.length_append, List.length_singleton, Nat.pow_succ]
    rcases List.mem_append.mp hs with z | z
    · have := h2 s z
      exact ⟨this.1, Nat.le_trans this.2.1 (Nat.le_mul_of_pos_right _ (by decide)), by omega⟩
    · obtain ⟨t, ht, rfl⟩ := List.mem_map.mp z
      have := h2 t ht
      refine ⟨Nat.lcm_pos this.1 hp.1, ?_, by show t.1 + 1 ≤ _; omega⟩
      exact Nat.le_trans (Nat.le_of_dvd (Nat.mul_pos this.1 hp.1) (Nat.lcm_dvd_mul t.2 p)) (Nat.mul_le_mul this.2.1 hp.2)
theorem meet_pos {ps : List Nat} (h : Pds ps) : ∀ s ∈ meet ps, 0 < s.2 ∧ s.2 < 18446744073709551616 ∧ s.1 < 6 := fun s hs => by
  have := (meet_bd ps.reverse ps (by simp) h.bd).2 s hs
  have h5 : (1000 : Nat) ^ ps.length ≤ 1000 ^ 5 := Nat.pow_le_pow_right (by decide) h.five
  have e5 : (1000 : Nat) ^ 5 = 1000000000000000 := by decide
  have := h.five
  exact ⟨by omega, by omega, by omega⟩
theorem per_m (ps : List Nat) : opPer (eB ps) = some (eI ps) := by
  show some (D.tup ((ps.map fun p : Nat => (p : Int)).map .int)) = _
  rw [List.map_map]
  rfl
theorem meetings_m {ps : List Nat} (h : Pds ps) : m_meetings [eB ps] = some (.lst ((meet ps).map eM)) := by
  obtain ⟨ρ', q1, ag, q2⟩ := for_agPre (b := m_meetings_b1) (i := 2) (ws := [2, 1]) (ρ := st [some (eB ps), none, none, none, none] 1 (.lst [.tup [.int 0, .int 1]])) (fun p : Nat => D.int p) (fun pre ρ' => lk ρ' 1 = some (.lst ((meet pre).map eM))) ps (by decide) (show 2 < 5 by decide) rfl (fun pre ρ' d q => by rw [lk_st_o (by decide)]; exact q) (by
    intro pre p r' e ρ1 ag e2 e1
    have hl : ρ1.length = 5 := ag.1
    have hp := h.bd p (by rw [e]; simp)
    have pl : pre.length + 1 ≤ 5 := by
      have := congrArg List.length e
      have := h.five
      simp at *
      omega
    have mb := meet_bd pre.reverse pre (by simp) fun q hq => h.bd q (by rw [e]; simp only [List.mem_append]; exact .inl hq)
    have l32 : (meet pre).length ≤ 16 := by
      rw [mb.1]
      exact Nat.le_trans (Nat.pow_le_pow_right (by decide) (show pre.length ≤ 4 by omega)) (by decide)
    have c1 : m_meetings_c1 ρ1 = some (.lst (((meet pre).map fun s => (s.1 + 1, Nat.lcm s.2 p)).map eM)) := by
      unfold m_meetings_c1
      rw [comp_all eM (fun s => eM (s.1 + 1, Nat.lcm s.2 p)) (meet pre) (by simp only [bnd_some, bnd_none, p_dc, p_dv, lk_z, lk_s, st_z, st_s, un_z, un_s, wipe_n, wipe_c, p_d2, p_d1, p_dnil, p_dcons, p_dL, p_asB, p_asI, p_asL, p_asSeqL, p_asSeqT, p_bV, p_dB, p_bAnd, p_bOr, p_bNot, p_dIf, p_dAnd, p_dOr, p_dNot, p_dCh, p_bYes, p_gN, p_gT, p_gsNil, p_gsCons, p_dNx, p_dRet, p_dSet, p_dIfS, p_dAsg, p_dPar, p_dAug, p_dApp, p_dSetIx, p_nLst, p_nRep, p_nOf, p_dSetN, p_dParN1, p_dParNN, p_iSeq, p_iRng1, p_iRng2, p_oNo, p_oIx, p_dSl, p_asIx, p_opTup, p_opLst, p_lenT, p_lenL, p_lenS, p_tupT, p_tupL, p_add, p_sub, p_mul, p_lt, p_le, p_gt, p_ge, p_eqI, p_neI, p_isN, p_isnN, p_isB, p_isnB, p_isNone_n, p_isNone_i, p_isNone_t, p_isNone_l, p_appL, p_appT, b_mc, b_mn, b_ac, b_an, b_rs, b_rz, b_lc, b_ln, b_it, b_if, b_itt, b_iff, p_dSeq, p_eqB, p_neB, len_eT, len_eR, len_eV, isNone_eO, seq_eT, seq_eR, seq_eV, seq_eL, eO_some, eO_none, len_eL, p_dOrT, ↓p_eqN, ↓p_neN, ↓p_ltN, ↓p_leN, ↓p_gtN, ↓p_geN, e1]) (by omega) (by
        intro s hs
        have sb := mb.2 s hs
        have lm := lcm_m sb.1 (b := p) (by omega) (Nat.lt_of_le_of_lt (Nat.gcd_le_right _ hp.1) (by omega))
        have ad : opAdd (.int (s.1 : Nat)) (.int 1) = some (.int ((s.1 + 1 : Nat) : Int)) := rfl
        refine ⟨_, by simp only [eM, bnd_some, bnd_none, p_dc, p_dv, lk_z, lk_s, st_z, st_s, un_z, un_s, wipe_n, wipe_c, p_d2, p_d1, p_dnil, p_dcons, p_dL, p_asB, p_asI, p_asL, p_asSeqL, p_asSeqT, p_bV, p_dB, p_bAnd, p_bOr, p_bNot, p_dIf, p_dAnd, p_dOr, p_dNot, p_dCh, p_bYes, p_gN, p_gT, p_gsNil, p_gsCons, p_dNx, p_dRet, p_dSet, p_dIfS, p_dAsg, p_dPar, p_dAug, p_dApp, p_dSetIx, p_nLst, p_nRep, p_nOf, p_dSetN, p_dParN1, p_dParNN, p_iSeq, p_iRng1, p_iRng2, p_oNo, p_oIx, p_dSl, p_asIx, p_opTup, p_opLst, p_lenT, p_lenL, p_lenS, p_tupT, p_tupL, p_add, p_sub, p_mul, p_lt, p_le, p_gt, p_ge, p_eqI, p_neI, p_isN, p_isnN, p_isB, p_isnB, p_isNone_n, p_isNone_i, p_isNone_t, p_isNone_l, p_appL, p_appT, b_mc, b_mn, b_ac, b_an, b_rs, b_rz, b_lc, b_ln, b_it, b_if, b_itt, b_iff, p_dSeq, p_eqB, p_neB, len_eT, len_eR, len_eV, isNone_eO, seq_eT, seq_eR, seq_eV, seq_eL, eO_some, eO_none, len_eL, p_dOrT, ↓p_eqN, ↓p_neN, ↓p_ltN, ↓p_leN, ↓p_gtN, ↓p_geN]; rfl, ?_⟩
        simp only [bnd_some, bnd_none, p_dc, p_dv, lk_z, lk_s, st_z, st_s, un_z, un_s, wipe_n, wipe_c, p_d2, p_d1, p_dnil, p_dcons, p_dL, p_asB, p_asI, p_asL, p_asSeqL, p_asSeqT, p_bV, p_dB, p_bAnd, p_bOr, p_bNot, p_dIf, p_dAnd, p_dOr, p_dNot, p_dCh, p_bYes, p_gN, p_gT, p_gsNil, p_gsCons, p_dNx, p_dRet, p_dSet, p_dIfS, p_dAsg, p_dPar, p_dAug, p_dApp, p_dSetIx, p_nLst, p_nRep, p_nOf, p_dSetN, p_dParN1, p_dParNN, p_iSeq, p_iRng1, p_iRng2, p_oNo, p_oIx, p_dSl, p_asIx, p_opTup, p_opLst, p_lenT, p_lenL, p_lenS, p_tupT, p_tupL, p_add, p_sub, p_mul, p_lt, p_le, p_gt, p_ge, p_eqI, p_neI, p_isN, p_isnN, p_isB, p_isnB, p_isNone_n, p_isNone_i, p_isNone_t, p_isNone_l, p_appL, p_appT, b_mc, b_mn, b_ac, b_an, b_rs, b_rz, b_lc, b_ln, b_it, b_if, b_itt, b_iff, p_dSeq, p_eqB, p_neB, len_eT, len_eR, len_eV, isNone_eO, seq_eT, seq_eR, seq_eV, seq_eL, eO_some, eO_none, len_eL, p_dOrT, ↓p_eqN, ↓p_neN, ↓p_ltN, ↓p_leN, ↓p_gtN, ↓p_geN, lk_st_o, lk_st_i, lk_un_o, len_st, len_un, Nat.reduceBEq, Nat.reduceLT, hl, e2, ↓ad, lm, Nat.reduceAdd, Nat.reduceLeDiff]
        rfl)]
      rw [List.map_map]
      rfl
    have ap : opAdd (.lst ((meet pre).map eM)) (.lst (((meet pre).map fun s => (s.1 + 1, Nat.lcm s.2 p)).map eM)) = some (.lst ((meet (pre ++ [p])).map eM)) := by
      rw [p_appL, if_pos (by simp; omega), ← List.map_append, meet_snoc]
    refine ⟨st ρ1 1 (.lst ((meet (pre ++ [p])).map eM)), ?_, ag.st (by decide), by rw [lk_st_i (by omega)]⟩
    simp only [m_meetings_b1, bnd_some, bnd_none, p_dc, p_dv, lk_z, lk_s, st_z, st_s, un_z, un_s, wipe_n, wipe_c, p_d2, p_d1, p_dnil, p_dcons, p_dL, p_asB, p_asI, p_asL, p_asSeqL, p_asSeqT, p_bV, p_dB, p_bAnd, p_bOr, p_bNot, p_dIf, p_dAnd, p_dOr, p_dNot, p_dCh, p_bYes, p_gN, p_gT, p_gsNil, p_gsCons, p_dNx, p_dRet, p_dSet, p_dIfS, p_dAsg, p_dPar, p_dAug, p_dApp, p_dSetIx, p_nLst, p_nRep, p_nOf, p_dSetN, p_dParN1, p_dParNN, p_iSeq, p_iRng1, p_iRng2, p_oNo, p_oIx, p_dSl, p_asIx, p_opTup, p_opLst, p_lenT, p_lenL, p_lenS, p_tupT, p_tupL, p_add, p_sub, p_mul, p_lt, p_le, p_gt, p_ge, p_eqI, p_neI, p_isN, p_isnN, p_isB, p_isnB, p_isNone_n, p_isNone_i, p_isNone_t, p_isNone_l, p_appL, p_appT, b_mc, b_mn, b_ac, b_an, b_rs, b_rz, b_lc, b_ln, b_it, b_if, b_itt, b_iff, p_dSeq, p_eqB, p_neB, len_eT, len_eR, len_eV, isNone_eO, seq_eT, seq_eR, seq_eV, seq_eL, eO_some, eO_none, len_eL, p_dOrT, ↓p_eqN, ↓p_neN, ↓p_ltN, ↓p_leN, ↓p_gtN, ↓p_geN, e1, c1, ↓ap])
  have per := per_m ps
  have f := (for_eq (it := iSeq (d1 opPer (dv 0))) (ds := ps.map fun p : Nat => D.int p) (ρ := st [some (eB ps), none, none, none, none] 1 (.lst [.tup [.int 0, .int 1]])) (by simp only [bnd_some, bnd_none, p_dc, p_dv, lk_z, lk_s, st_z, st_s, un_z, un_s, wipe_n, wipe_c, p_d2, p_d1, p_dnil, p_dcons, p_dL, p_asB, p_asI, p_asL, p_asSeqL, p_asSeqT, p_bV, p_dB, p_bAnd, p_bOr, p_bNot, p_dIf, p_dAnd, p_dOr, p_dNot, p_dCh, p_bYes, p_gN, p_gT, p_gsNil, p_gsCons, p_dNx, p_dRet, p_dSet, p_dIfS, p_dAsg, p_dPar, p_dAug, p_dApp, p_dSetIx, p_nLst, p_nRep, p_nOf, p_dSetN, p_dParN1, p_dParNN, p_iSeq, p_iRng1, p_iRng2, p_oNo, p_oIx, p_dSl, p_asIx, p_opTup, p_opLst, p_lenT, p_lenL, p_lenS, p_tupT, p_tupL, p_add, p_sub, p_mul, p_lt, p_le, p_gt, p_ge, p_eqI, p_neI, p_isN, p_isnN, p_isB, p_isnB, p_isNone_n, p_isNone_i, p_isNone_t, p_isNone_l, p_appL, p_appT, b_mc, b_mn, b_ac, b_an, b_rs, b_rz, b_lc, b_ln, b_it, b_if, b_itt, b_iff, p_dSeq, p_eqB, p_neB, len_eT, len_eR, len_eV, isNone_eO, seq_eT, seq_eR, seq_eV, seq_eL, eO_some, eO_none, len_eL, p_dOrT, ↓p_eqN, ↓p_neN, ↓p_ltN, ↓p_leN, ↓p_gtN, ↓p_geN, per]; rfl)).trans q1
  refine run_rt rfl ?_
  generalize eB ps = bb at f
  simp only [bnd_some, bnd_none, p_dc, p_dv, lk_z, lk_s, st_z, st_s, un_z, un_s, wipe_n, wipe_c, p_d2, p_d1, p_dnil, p_dcons, p_dL, p_asB, p_asI, p_asL, p_asSeqL, p_asSeqT, p_bV, p_dB, p_bAnd, p_bOr, p_bNot, p_dIf, p_dAnd, p_dOr, p_dNot, p_dCh, p_bYes, p_gN, p_gT, p_gsNil, p_gsCons, p_dNx, p_dRet, p_dSet, p_dIfS, p_dAsg, p_dPar, p_dAug, p_dApp, p_dSetIx, p_nLst, p_nRep, p_nOf, p_dSetN, p_dParN1, p_dParNN, p_iSeq, p_iRng1, p_iRng2, p_oNo, p_oIx, p_dSl, p_asIx, p_opTup, p_opLst, p_lenT, p_lenL, p_lenS, p_tupT, p_tupL, p_add, p_sub, p_mul, p_lt, p_le, p_gt, p_ge, p_eqI, p_neI, p_isN, p_isnN, p_isB, p_isnB, p_isNone_n, p_isNone_i, p_isNone_t, p_isNone_l, p_appL, p_appT, b_mc, b_mn, b_ac, b_an, b_rs, b_rz, b_lc, b_ln, b_it, b_if, b_itt, b_iff, p_dSeq, p_eqB, p_neB, len_eT, len_eR, len_eV, isNone_eO, seq_eT, seq_eR, seq_eV, seq_eL, eO_some, eO_none, len_eL, p_dOrT, ↓p_eqN, ↓p_neN, ↓p_ltN, ↓p_leN, ↓p_gtN, ↓p_geN] at f
  simp only [bnd_some, bnd_none, p_dc, p_dv, lk_z, lk_s, st_z, st_s, un_z, un_s, wipe_n, wipe_c, p_d2, p_d1, p_dnil, p_dcons, p_dL, p_asB, p_asI, p_asL, p_asSeqL, p_asSeqT, p_bV, p_dB, p_bAnd, p_bOr, p_bNot, p_dIf, p_dAnd, p_dOr, p_dNot, p_dCh, p_bYes, p_gN, p_gT, p_gsNil, p_gsCons, p_dNx, p_dRet, p_dSet, p_dIfS, p_dAsg, p_dPar, p_dAug, p_dApp, p_dSetIx, p_nLst, p_nRep, p_nOf, p_dSetN, p_dParN1, p_dParNN, p_iSeq, p_iRng1, p_iRng2, p_oNo, p_oIx, p_dSl, p_asIx, p_opTup, p_opLst, p_lenT, p_lenL, p_lenS, p_tupT, p_tupL, p_add, p_sub, p_mul, p_lt, p_le, p_gt, p_ge, p_eqI, p_neI, p_isN, p_isnN, p_isB, p_isnB, p_isNone_n, p_isNone_i, p_isNone_t, p_isNone_l, p_appL, p_appT, b_mc, b_mn, b_ac, b_an, b_rs, b_rz, b_lc, b_ln, b_it, b_if, b_itt, b_iff, p_dSeq, p_eqB, p_neB, len_eT, len_eR, len_eV, isNone_eO, seq_eT, seq_eR, seq_eV, seq_eL, eO_some, eO_none, len_eL, p_dOrT, ↓p_eqN, ↓p_neN, ↓p_ltN, ↓p_leN, ↓p_gtN, ↓p_geN, Nat.reduceSub, Nat.reduceAdd, Nat.reduceLeDiff, f, q2]
theorem div_it {t : Int} {l : Nat} (h : 0 < l) (h2 : l < 18446744073709551616) : opFdiv (.int t) (.int (l : Nat)) = some (.int (t / (l : Int))) := by
  have h' : (0 : Int) < l := by omega
  have h3 : (l : Int) < 18446744073709551616 := by omega
  simp only [opFdiv, if_pos (And.intro h' h3)]
theorem mul_it {a b : Int} (h1 : -18446744073709551616 < b) (h2 : b < 18446744073709551616) : opMul (.int a) (.int b) = some (.int (a * b)) := by
  have : mulOk a b = true := by simp [mulOk, h1, h2]
  rw [p_mul, if_pos this]
theorem sumI_snoc {α : Type} (L : List α) (x : α) (g : α → Int) : sumI (L ++ [x]) g = sumI L g + g x := by
  rw [sumI_append]
  show sumI L g + (g x + 0) = _
  omega
theorem choose_all : ∀ c < 6, ∀ k < 6, k ≤ c → sameO (m_choose [.int (c : Nat), .int (k : Nat)]) (.int (chooseN c k : Nat)) = true := by decide +kernel
theorem choose_small : ∀ c < 6, ∀ k < 6, chooseN c k < 100 := by decide
theorem just_to_m {L : List (Nat × Nat)} (hL : ∀ s ∈ L, 0 < s.2 ∧ s.2 < 18446744073709551616 ∧ s.1 < 6) {k : Nat} (hk : k < 6) (t : Int) : m_just_to [.lst (L.map eM), .int (k : Nat), .int t] = some (.int (sumI L fun s => fJ k s.1 * mulN t s.2)) := by
  obtain ⟨ρ', q1, ag, q2⟩ := for_agTP (g := gT (gsCons (gN 4) (gsCons (gN 5) gsNil))) (b := m_just_to_b1) (ws := [4, 5, 3]) (ρ := st [some (.lst (L.map eM)), some (.int (k : Nat)), some (.int t), none, none, none] 3 (.int 0)) eM (fun pre ρ' => lk ρ' 3 = some (.int (sumI pre fun s => fJ k s.1 * mulN t s.2))) L rfl (by
    intro pre s r' e ρ1 ag e2
    have hl : ρ1.length = 6 := ag.1
    have sb := hL s (by rw [e]; simp)
    have a1 := ag.lk 1 (by decide) (x := some (.int (k : Nat))) rfl
    have a2 := ag.lk 2 (by decide) (x := some (.int t)) rfl
    have dd := div_it (t := t) sb.1 sb.2.1
    have ad : opAdd (.int (t / (s.2 : Int))) (.int 1) = some (.int (mulN t s.2)) := rfl
    have gt : opGe (.int (s.1 : Nat)) (.int (k : Nat)) = some (.bl (decide (k ≤ s.1))) := p_geN _ _
    have ng : opNeg (.int 1) = some (.int (-1)) := rfl
    rw [sumI_snoc]
    refine ⟨st (st ρ1 4 (.int (s.1 : Nat))) 5 (.int (s.2 : Nat)), by simp only [eM, bnd_some, bnd_none, p_dc, p_dv, lk_z, lk_s, st_z, st_s, un_z, un_s, wipe_n, wipe_c, p_d2, p_d1, p_dnil, p_dcons, p_dL, p_asB, p_asI, p_asL, p_asSeqL, p_asSeqT, p_bV, p_dB, p_bAnd, p_bOr, p_bNot, p_dIf, p_dAnd, p_dOr, p_dNot, p_dCh, p_bYes, p_gN, p_gT, p_gsNil, p_gsCons, p_dNx, p_dRet, p_dSet, p_dIfS, p_dAsg, p_dPar, p_dAug, p_dApp, p_dSetIx, p_nLst, p_nRep, p_nOf, p_dSetN, p_dParN1, p_dParNN, p_iSeq, p_iRng1, p_iRng2, p_oNo, p_oIx, p_dSl, p_asIx, p_opTup, p_opLst, p_lenT, p_lenL, p_lenS, p_tupT, p_tupL, p_add, p_sub, p_mul, p_lt, p_le, p_gt, p_ge, p_eqI, p_neI, p_isN, p_isnN, p_isB, p_isnB, p_isNone_n, p_isNone_i, p_isNone_t, p_isNone_l, p_appL, p_appT, b_mc, b_mn, b_ac, b_an, b_rs, b_rz, b_lc, b_ln, b_it, b_if, b_itt, b_iff, p_dSeq, p_eqB, p_neB, len_eT, len_eR, len_eV, isNone_eO, seq_eT, seq_eR, seq_eV, seq_eL, eO_some, eO_none, len_eL, p_dOrT, ↓p_eqN, ↓p_neN, ↓p_ltN, ↓p_leN, ↓p_gtN, ↓p_geN], ?_⟩
    by_cases z : k ≤ s.1
    · rw [decide_eq_true z] at gt
      have ch := sameO_eq (choose_all s.1 sb.2.2 k hk z)
      have cb := choose_small s.1 sb.2.2 k hk
      have m0 := mul_it (a := mulN t s.2) (b := (chooseN s.1 k : Nat)) (by omega) (by omega)
      have sbt : opSub (.int (s.1 : Nat)) (.int (k : Nat)) = some (.int ((s.1 - k : Nat) : Int)) := by rw [p_sub, show (s.1 : Int) - (k : Int) = ((s.1 - k : Nat) : Int) by omega]
      have mo : opMod (.int ((s.1 - k : Nat) : Int)) (.int 2) = some (.int (((s.1 - k) % 2 : Nat) : Int)) := mod_n (b := 2) (by decide)
      have eq : opEq (.int (((s.1 - k) % 2 : Nat) : Int)) (.int 0) = some (.bl (decide ((s.1 - k) % 2 = 0))) := p_eqN _ 0
      have m1 := mul_it (a := mulN t s.2 * (chooseN s.1 k : Nat)) (b := 1) (by decide) (by decide)
      have m2 := mul_it (a := mulN t s.2 * (chooseN s.1 k : Nat)) (b := -1) (by decide) (by decide)
      have ad2 := p_add (sumI pre fun s => fJ k s.1 * mulN t s.2)
      refine ⟨st (st (st ρ1 4 (.int (s.1 : Nat))) 5 (.int (s.2 : Nat))) 3 (.int ((sumI pre fun s => fJ k s.1 * mulN t s.2) + fJ k s.1 * mulN t s.2)), ?_, ((ag.st (by decide)).st (by decide)).st (by decide), by rw [lk_st_i (by simp only [len_st, hl]; decide)]⟩
      by_cases y : (s.1 - k) % 2 = 0
      · have e0 : fJ k s.1 * mulN t s.2 = mulN t s.2 * (chooseN s.1 k : Nat) * 1 := by
          unfold fJ
          rw [if_pos z, if_pos y, Int.mul_one, Int.mul_one, Int.mul_comm]
        rw [decide_eq_true y] at eq
        rw [e0]
        simp only [m_just_to_b1, bnd_some, bnd_none, p_dc, p_dv, lk_z, lk_s, st_z, st_s, un_z, un_s, wipe_n, wipe_c, p_d2, p_d1, p_dnil, p_dcons, p_dL, p_asB, p_asI, p_asL, p_asSeqL, p_asSeqT, p_bV, p_dB, p_bAnd, p_bOr, p_bNot, p_dIf, p_dAnd, p_dOr, p_dNot, p_dCh, p_bYes, p_gN, p_gT, p_gsNil, p_gsCons, p_dNx, p_dRet, p_dSet, p_dIfS, p_dAsg, p_dPar, p_dAug, p_dApp, p_dSetIx, p_nLst, p_nRep, p_nOf, p_dSetN, p_dParN1, p_dParNN, p_iSeq, p_iRng1, p_iRng2, p_oNo, p_oIx, p_dSl, p_asIx, p_opTup, p_opLst, p_lenT, p_lenL, p_lenS, p_tupT, p_tupL, p_add, p_sub, p_mul, p_lt, p_le, p_gt, p_ge, p_eqI, p_neI, p_isN, p_isnN, p_isB, p_isnB, p_isNone_n, p_isNone_i, p_isNone_t, p_isNone_l, p_appL, p_appT, b_mc, b_mn, b_ac, b_an, b_rs, b_rz, b_lc, b_ln, b_it, b_if, b_itt, b_iff, p_dSeq, p_eqB, p_neB, len_eT, len_eR, len_eV, isNone_eO, seq_eT, seq_eR, seq_eV, seq_eL, eO_some, eO_none, len_eL, p_dOrT, ↓p_eqN, ↓p_neN, ↓p_ltN, ↓p_leN, ↓p_gtN, ↓p_geN, lk_st_o, lk_st_i, len_st, Nat.reduceBEq, Nat.reduceLT, hl, ↓gt, a1, a2, dd, ↓ad, ch, ↓m0, ↓sbt, mo, ↓eq, ↓m1, e2, ad2]
      · have e0 : fJ k s.1 * mulN t s.2 = mulN t s.2 * (chooseN s.1 k : Nat) * (-1) := by
          unfold fJ
          rw [if_pos z, if_neg y]
          ac_rfl
        rw [decide_eq_false y] at eq
        rw [e0]
        simp only [m_just_to_b1, bnd_some, bnd_none, p_dc, p_dv, lk_z, lk_s, st_z, st_s, un_z, un_s, wipe_n, wipe_c, p_d2, p_d1, p_dnil, p_dcons, p_dL, p_asB, p_asI, p_asL, p_asSeqL, p_asSeqT, p_bV, p_dB, p_bAnd, p_bOr, p_bNot, p_dIf, p_dAnd, p_dOr, p_dNot, p_dCh, p_bYes, p_gN, p_gT, p_gsNil, p_gsCons, p_dNx, p_dRet, p_dSet, p_dIfS, p_dAsg, p_dPar, p_dAug, p_dApp, p_dSetIx, p_nLst, p_nRep, p_nOf, p_dSetN, p_dParN1, p_dParNN, p_iSeq, p_iRng1, p_iRng2, p_oNo, p_oIx, p_dSl, p_asIx, p_opTup, p_opLst, p_lenT, p_lenL, p_lenS, p_tupT, p_tupL, p_add, p_sub, p_mul, p_lt, p_le, p_gt, p_ge, p_eqI, p_neI, p_isN, p_isnN, p_isB, p_isnB, p_isNone_n, p_isNone_i, p_isNone_t, p_isNone_l, p_appL, p_appT, b_mc, b_mn, b_ac, b_an, b_rs, b_rz, b_lc, b_ln, b_it, b_if, b_itt, b_iff, p_dSeq, p_eqB, p_neB, len_eT, len_eR, len_eV, isNone_eO, seq_eT, seq_eR, seq_eV, seq_eL, eO_some, eO_none, len_eL, p_dOrT, ↓p_eqN, ↓p_neN, ↓p_ltN, ↓p_leN, ↓p_gtN, ↓p_geN, lk_st_o, lk_st_i, len_st, Nat.reduceBEq, Nat.reduceLT, hl, ↓gt, a1, a2, dd, ↓ad, ch, ↓m0, ↓sbt, mo, ↓eq, ng, ↓m2, e2, ad2]
    · have e0 : fJ k s.1 = 0 := by unfold fJ; rw [if_neg z]
      rw [decide_eq_false z] at gt
      refine ⟨st (st ρ1 4 (.int (s.1 : Nat))) 5 (.int (s.2 : Nat)), ?_, (ag.st (by decide)).st (by decide), ?_⟩
      · simp only [m_just_to_b1, bnd_some, bnd_none, p_dc, p_dv, lk_z, lk_s, st_z, st_s, un_z, un_s, wipe_n, wipe_c, p_d2, p_d1, p_dnil, p_dcons, p_dL, p_asB, p_asI, p_asL, p_asSeqL, p_asSeqT, p_bV, p_dB, p_bAnd, p_bOr, p_bNot, p_dIf, p_dAnd, p_dOr, p_dNot, p_dCh, p_bYes, p_gN, p_gT, p_gsNil, p_gsCons, p_dNx, p_dRet, p_dSet, p_dIfS, p_dAsg, p_dPar, p_dAug, p_dApp, p_dSetIx, p_nLst, p_nRep, p_nOf, p_dSetN, p_dParN1, p_dParNN, p_iSeq, p_iRng1, p_iRng2, p_oNo, p_oIx, p_dSl, p_asIx, p_opTup, p_opLst, p_lenT, p_lenL, p_lenS, p_tupT, p_tupL, p_add, p_sub, p_mul, p_lt, p_le, p_gt, p_ge, p_eqI, p_neI, p_isN, p_isnN, p_isB, p_isnB, p_isNone_n, p_isNone_i, p_isNone_t, p_isNone_l, p_appL, p_appT, b_mc, b_mn, b_ac, b_an, b_rs, b_rz, b_lc, b_ln, b_it, b_if, b_itt, b_iff, p_dSeq, p_eqB, p_neB, len_eT, len_eR, len_eV, isNone_eO, seq_eT, seq_eR, seq_eV, seq_eL, eO_some, eO_none, len_eL, p_dOrT, ↓p_eqN, ↓p_neN, ↓p_ltN, ↓p_leN, ↓p_gtN, ↓p_geN, lk_st_o, lk_st_i, len_st, Nat.reduceBEq, Nat.reduceLT, hl, a1, ↓gt]
      · rw [lk_st_o (by decide), lk_st_o (by decide), e2, e0, Int.zero_mul, Int.add_zero])
  have f := (for_eq (it := iSeq (dv 0)) (ds := L.map eM) (ρ := st [some (.lst (L.map eM)), some (.int (k : Nat)), some (.int t), none, none, none] 3 (.int 0)) rfl).trans q1
  refine run_rt rfl ?_
  generalize D.lst (L.map eM) = ll at f
  simp only [bnd_some, bnd_none, p_dc, p_dv, lk_z, lk_s, st_z, st_s, un_z, un_s, wipe_n, wipe_c, p_d2, p_d1, p_dnil, p_dcons, p_dL, p_asB, p_asI, p_asL, p_asSeqL, p_asSeqT, p_bV, p_dB, p_bAnd, p_bOr, p_bNot, p_dIf, p_dAnd, p_dOr, p_dNot, p_dCh, p_bYes, p_gN, p_gT, p_gsNil, p_gsCons, p_dNx, p_dRet, p_dSet, p_dIfS, p_dAsg, p_dPar, p_dAug, p_dApp, p_dSetIx, p_nLst, p_nRep, p_nOf, p_dSetN, p_dParN1, p_dParNN, p_iSeq, p_iRng1, p_iRng2, p_oNo, p_oIx, p_dSl, p_asIx, p_opTup, p_opLst, p_lenT, p_lenL, p_lenS, p_tupT, p_tupL, p_add, p_sub, p_mul, p_lt, p_le, p_gt, p_ge, p_eqI, p_neI, p_isN, p_isnN, p_isB, p_isnB, p_isNone_n, p_isNone_i, p_isNone_t, p_isNone_l, p_appL, p_appT, b_mc, b_mn, b_ac, b_an, b_rs, b_rz, b_lc, b_ln, b_it, b_if, b_itt, b_iff, p_dSeq, p_eqB, p_neB, len_eT, len_eR, len_eV, isNone_eO, seq_eT, seq_eR, seq_eV, seq_eL, eO_some, eO_none, len_eL, p_dOrT, ↓p_eqN, ↓p_neN, ↓p_ltN, ↓p_leN, ↓p_gtN, ↓p_geN] at f
  simp only [bnd_some, bnd_none, p_dc, p_dv, lk_z, lk_s, st_z, st_s, un_z, un_s, wipe_n, wipe_c, p_d2, p_d1, p_dnil, p_dcons, p_dL, p_asB, p_asI, p_asL, p_asSeqL, p_asSeqT, p_bV, p_dB, p_bAnd, p_bOr, p_bNot, p_dIf, p_dAnd, p_dOr, p_dNot, p_dCh, p_bYes, p_gN, p_gT, p_gsNil, p_gsCons, p_dNx, p_dRet, p_dSet, p_dIfS, p_dAsg, p_dPar, p_dAug, p_dApp, p_dSetIx, p_nLst, p_nRep, p_nOf, p_dSetN, p_dParN1, p_dParNN, p_iSeq, p_iRng1, p_iRng2, p_oNo, p_oIx, p_dSl, p_asIx, p_opTup, p_opLst, p_lenT, p_lenL, p_lenS, p_tupT, p_tupL, p_add, p_sub, p_mul, p_lt, p_le, p_gt, p_ge, p_eqI, p_neI, p_isN, p_isnN, p_isB, p_isnB, p_isNone_n, p_isNone_i, p_isNone_t, p_isNone_l, p_appL, p_appT, b_mc, b_mn, b_ac, b_an, b_rs, b_rz, b_lc, b_ln, b_it, b_if, b_itt, b_iff, p_dSeq, p_eqB, p_neB, len_eT, len_eR, len_eV, isNone_eO, seq_eT, seq_eR, seq_eV, seq_eL, eO_some, eO_none, len_eL, p_dOrT, ↓p_eqN, ↓p_neN, ↓p_ltN, ↓p_leN, ↓p_gtN, ↓p_geN, Nat.reduceSub, f, q2]
theorem ringN_le (ps : List Nat) (x : Nat) : ringN ps x ≤ ps.length := List.length_filter_le _ _
def anyR (ps : List Nat) (x : Nat) : Bool := decide (ringN ps x ≠ 0)
def justR (ps : List Nat) (k x : Nat) : Bool := decide (ringN ps x = k)
theorem count_just_m {ps : List Nat} (h : Pds ps) {k : Nat} (hk : k < 6) (lo hi : Nat) : m_count_just [eB ps, .int (k : Nat), .int (lo : Nat), .int (hi : Nat)] = some (.int ((if lo ≤ hi then upTo (justR ps k) (hi + 1) - upTo (justR ps k) lo else 0 : Nat) : Int)) := by
  have mt := meetings_m h
  have mp := meet_pos h
  have key : ∀ T : Nat, m_just_to [.lst ((meet ps).map eM), .int (k : Nat), .int ((T : Int) - 1)] = some (.int (upTo (justR ps k) T : Nat)) := fun T => by
    rw [just_to_m mp hk]
    refine congrArg (fun i => some (D.int i)) ?_
    refine sum_upTo (fun s hs => (mp s hs).1) (fJ k) (justR ps k) (fun x => ?_) T
    rw [at_time x ps.reverse ps (by simp), hS_J _ (by have := ringN_le ps x; have := h.five; omega) _ hk]
    unfold justR
    by_cases z : ringN ps x = k
    · rw [if_pos z, if_pos (by simp [z])]
    · rw [if_neg z, if_neg (by simp [z])]
  have k1 := key (hi + 1)
  have e1 : ((hi + 1 : Nat) : Int) - 1 = (hi : Int) := by omega
  rw [e1] at k1
  have k2 := key lo
  have le := p_leN lo hi
  have sb := p_sub (lo : Int) 1
  refine run_rt rfl ?_
  generalize D.lst ((meet ps).map eM) = ll at mt k1 k2
  by_cases z : lo ≤ hi
  · rw [decide_eq_true z] at le
    have mono : upTo (justR ps k) lo ≤ upTo (justR ps k) (hi + 1) := by
      obtain ⟨m, e⟩ : ∃ m, hi + 1 = lo + m := ⟨hi + 1 - lo, by omega⟩
      rw [e, upTo_add]
      omega
    have sb2 : opSub (.int (upTo (justR ps k) (hi + 1) : Nat)) (.int (upTo (justR ps k) lo : Nat)) = some (.int ((upTo (justR ps k) (hi + 1) - upTo (justR ps k) lo : Nat) : Int)) := by
      rw [p_sub]
      congr 2
      omega
    rw [if_pos z]
    simp only [bnd_some, bnd_none, p_dc, p_dv, lk_z, lk_s, st_z, st_s, un_z, un_s, wipe_n, wipe_c, p_d2, p_d1, p_dnil, p_dcons, p_dL, p_asB, p_asI, p_asL, p_asSeqL, p_asSeqT, p_bV, p_dB, p_bAnd, p_bOr, p_bNot, p_dIf, p_dAnd, p_dOr, p_dNot, p_dCh, p_bYes, p_gN, p_gT, p_gsNil, p_gsCons, p_dNx, p_dRet, p_dSet, p_dIfS, p_dAsg, p_dPar, p_dAug, p_dApp, p_dSetIx, p_nLst, p_nRep, p_nOf, p_dSetN, p_dParN1, p_dParNN, p_iSeq, p_iRng1, p_iRng2, p_oNo, p_oIx, p_dSl, p_asIx, p_opTup, p_opLst, p_lenT, p_lenL, p_lenS, p_tupT, p_tupL, p_add, p_sub, p_mul, p_lt, p_le, p_gt, p_ge, p_eqI, p_neI, p_isN, p_isnN, p_isB, p_isnB, p_isNone_n, p_isNone_i, p_isNone_t, p_isNone_l, p_appL, p_appT, b_mc, b_mn, b_ac, b_an, b_rs, b_rz, b_lc, b_ln, b_it, b_if, b_itt, b_iff, p_dSeq, p_eqB, p_neB, len_eT, len_eR, len_eV, isNone_eO, seq_eT, seq_eR, seq_eV, seq_eL, eO_some, eO_none, len_eL, p_dOrT, ↓p_eqN, ↓p_neN, ↓p_ltN, ↓p_leN, ↓p_gtN, ↓p_geN, Nat.reduceSub, mt, ↓le, sb, k1, k2, ↓sb2]
  · rw [decide_eq_false z] at le
    rw [if_neg z]
    simp only [bnd_some, bnd_none, p_dc, p_dv, lk_z, lk_s, st_z, st_s, un_z, un_s, wipe_n, wipe_c, p_d2, p_d1, p_dnil, p_dcons, p_dL, p_asB, p_asI, p_asL, p_asSeqL, p_asSeqT, p_bV, p_dB, p_bAnd, p_bOr, p_bNot, p_dIf, p_dAnd, p_dOr, p_dNot, p_dCh, p_bYes, p_gN, p_gT, p_gsNil, p_gsCons, p_dNx, p_dRet, p_dSet, p_dIfS, p_dAsg, p_dPar, p_dAug, p_dApp, p_dSetIx, p_nLst, p_nRep, p_nOf, p_dSetN, p_dParN1, p_dParNN, p_iSeq, p_iRng1, p_iRng2, p_oNo, p_oIx, p_dSl, p_asIx, p_opTup, p_opLst, p_lenT, p_lenL, p_lenS, p_tupT, p_tupL, p_add, p_sub, p_mul, p_lt, p_le, p_gt, p_ge, p_eqI, p_neI, p_isN, p_isnN, p_isB, p_isnB, p_isNone_n, p_isNone_i, p_isNone_t, p_isNone_l, p_appL, p_appT, b_mc, b_mn, b_ac, b_an, b_rs, b_rz, b_lc, b_ln, b_it, b_if, b_itt, b_iff, p_dSeq, p_eqB, p_neB, len_eT, len_eR, len_eV, isNone_eO, seq_eT, seq_eR, seq_eV, seq_eL, eO_some, eO_none, len_eL, p_dOrT, ↓p_eqN, ↓p_neN, ↓p_ltN, ↓p_leN, ↓p_gtN, ↓p_geN, Nat.reduceSub, mt, ↓le]
    rfl
end Mi
namespace Mi
open DL
theorem bells_of {ps : List Nat} (h : Pds ps) : opBells (ps.map fun p : Nat => D.int p) = some (eB ps) := by
  have ai : asInts (ps.map fun p : Nat => D.int p) = some (ps.map fun p : Nat => (p : Int)) := asInts_map _ ps
  have ok : bellOk (ps.map fun p : Nat => (p : Int)) = true := by
    unfold bellOk
    rw [List.length_map, Bool.and_eq_true, Bool.and_eq_true]
    refine ⟨decide_eq_true h.one, decide_eq_true h.five, ?_⟩
    rw [List.all_eq_true]
    intro i hi
    obtain ⟨p, hp, rfl⟩ := List.mem_map.mp hi
    have := h.bd p hp
    rw [Bool.and_eq_true]
    exact ⟨decide_eq_true (by omega), decide_eq_true (by omega)⟩
  show (asInts _).bind _ = _
  rw [ai]
  simp only [Option.bind_some, if_pos ok]
  rfl
theorem tower_m {ps : List Nat} (h : Pds ps) : m_law_tower [eI ps] = some (eB ps) := by
  have hb := bells_of h
  have h1 := h.one
  have h5 := h.five
  refine run_rt rfl ?_
  have ln : opLen [eI ps] = some (.int (ps.length : Int)) := by unfold eI; simp
  have ix : ∀ k, k < ps.length → opIx (eI ps) (.int k) = some (.int (ps.getD k 0)) := fun k hk => ix_eI hk
  match ps, h, hb, h1, h5, ln, ix with
  | [a], h, hb, h1, h5, ln, ix =>
    have i0 : opIx (eI [a]) (.int 0) = some (.int a) := ix 0 (by simp)
    have ln : opLen [eI [a]] = some (.int 1) := ln
    have e1 : opEq (.int 1) (.int 1) = some (.bl true) := rfl
    have hb : opBells [.int a] = some (eB [a]) := hb
    simp only [bnd_some, bnd_none, p_dc, p_dv, lk_z, lk_s, st_z, st_s, un_z, un_s, wipe_n, wipe_c, p_d2, p_d1, p_dnil, p_dcons, p_dL, p_asB, p_asI, p_asL, p_asSeqL, p_asSeqT, p_bV, p_dB, p_bAnd, p_bOr, p_bNot, p_dIf, p_dAnd, p_dOr, p_dNot, p_dCh, p_bYes, p_gN, p_gT, p_gsNil, p_gsCons, p_dNx, p_dRet, p_dSet, p_dIfS, p_dAsg, p_dPar, p_dAug, p_dApp, p_dSetIx, p_nLst, p_nRep, p_nOf, p_dSetN, p_dParN1, p_dParNN, p_iSeq, p_iRng1, p_iRng2, p_oNo, p_oIx, p_dSl, p_asIx, p_opTup, p_opLst, p_lenT, p_lenL, p_lenS, p_tupT, p_tupL, p_add, p_sub, p_mul, p_lt, p_le, p_gt, p_ge, p_eqI, p_neI, p_isN, p_isnN, p_isB, p_isnB, p_isNone_n, p_isNone_i, p_isNone_t, p_isNone_l, p_appL, p_appT, b_mc, b_mn, b_ac, b_an, b_rs, b_rz, b_lc, b_ln, b_it, b_if, b_itt, b_iff, p_dSeq, p_eqB, p_neB, len_eT, len_eR, len_eV, isNone_eO, seq_eT, seq_eR, seq_eV, seq_eL, eO_some, eO_none, len_eL, p_dOrT, ↓p_eqN, ↓p_neN, ↓p_ltN, ↓p_leN, ↓p_gtN, ↓p_geN, Nat.reduceSub, ln, ↓e1, i0, hb]
  | [a, b], h, hb, h1, h5, ln, ix =>
    have i0 : opIx (eI [a, b]) (.int 0) = some (.int a) := ix 0 (by simp)
    have i1 : opIx (eI [a, b]) (.int 1) = some (.int b) := ix 1 (by simp)
    have ln : opLen [eI [a, b]] = some (.int 2) := ln
    have e1 : opEq (.int 2) (.int 1) = some (.bl false) := rfl
    have e2 : opEq (.int 2) (.int 2) = some (.bl true) := rfl
    have hb : opBells [.int a, .int b] = some (eB [a, b]) := hb
    simp only [bnd_some, bnd_none, p_dc, p_dv, lk_z, lk_s, st_z, st_s, un_z, un_s, wipe_n, wipe_c, p_d2, p_d1, p_dnil, p_dcons, p_dL, p_asB, p_asI, p_asL, p_asSeqL, p_asSeqT, p_bV, p_dB, p_bAnd, p_bOr, p_bNot, p_dIf, p_dAnd, p_dOr, p_dNot, p_dCh, p_bYes, p_gN, p_gT, p_gsNil, p_gsCons, p_dNx, p_dRet, p_dSet, p_dIfS, p_dAsg, p_dPar, p_dAug, p_dApp, p_dSetIx, p_nLst, p_nRep, p_nOf, p_dSetN, p_dParN1, p_dParNN, p_iSeq, p_iRng1, p_iRng2, p_oNo, p_oIx, p_dSl, p_asIx, p_opTup, p_opLst, p_lenT, p_lenL, p_lenS, p_tupT, p_tupL, p_add, p_sub, p_mul, p_lt, p_le, p_gt, p_ge, p_eqI, p_neI, p_isN, p_isnN, p_isB, p_isnB, p_isNone_n, p_isNone_i, p_isNone_t, p_isNone_l, p_appL, p_appT, b_mc, b_mn, b_ac, b_an, b_rs, b_rz, b_lc, b_ln, b_it, b_if, b_itt, b_iff, p_dSeq, p_eqB, p_neB, len_eT, len_eR, len_eV, isNone_eO, seq_eT, seq_eR, seq_eV, seq_eL, eO_some, eO_none, len_eL, p_dOrT, ↓p_eqN, ↓p_neN, ↓p_ltN, ↓p_leN, ↓p_gtN, ↓p_geN, Nat.reduceSub, ln, ↓e1, ↓e2, i0, i1, hb]
  | [a, b, c], h, hb, h1, h5, ln, ix =>
    have i0 : opIx (eI [a, b, c]) (.int 0) = some (.int a) := ix 0 (by simp)
    have i1 : opIx (eI [a, b, c]) (.int 1) = some (.int b) := ix 1 (by simp)
    have i2 : opIx (eI [a, b, c]) (.int 2) = some (.int c) := ix 2 (by simp)
    have ln : opLen [eI [a, b, c]] = some (.int 3) := ln
    have e1 : opEq (.int 3) (.int 1) = some (.bl false) := rfl
    have e2 : opEq (.int 3) (.int 2) = some (.bl false) := rfl
    have e3 : opEq (.int 3) (.int 3) = some (.bl true) := rfl
    have hb : opBells [.int a, .int b, .int c] = some (eB [a, b, c]) := hb
    simp only [bnd_some, bnd_none, p_dc, p_dv, lk_z, lk_s, st_z, st_s, un_z, un_s, wipe_n, wipe_c, p_d2, p_d1, p_dnil, p_dcons, p_dL, p_asB, p_asI, p_asL, p_asSeqL, p_asSeqT, p_bV, p_dB, p_bAnd, p_bOr, p_bNot, p_dIf, p_dAnd, p_dOr, p_dNot, p_dCh, p_bYes, p_gN, p_gT, p_gsNil, p_gsCons, p_dNx, p_dRet, p_dSet, p_dIfS, p_dAsg, p_dPar, p_dAug, p_dApp, p_dSetIx, p_nLst, p_nRep, p_nOf, p_dSetN, p_dParN1, p_dParNN, p_iSeq, p_iRng1, p_iRng2, p_oNo, p_oIx, p_dSl, p_asIx, p_opTup, p_opLst, p_lenT, p_lenL, p_lenS, p_tupT, p_tupL, p_add, p_sub, p_mul, p_lt, p_le, p_gt, p_ge, p_eqI, p_neI, p_isN, p_isnN, p_isB, p_isnB, p_isNone_n, p_isNone_i, p_isNone_t, p_isNone_l, p_appL, p_appT, b_mc, b_mn, b_ac, b_an, b_rs, b_rz, b_lc, b_ln, b_it, b_if, b_itt, b_iff, p_dSeq, p_eqB, p_neB, len_eT, len_eR, len_eV, isNone_eO, seq_eT, seq_eR, seq_eV, seq_eL, eO_some, eO_none, len_eL, p_dOrT, ↓p_eqN, ↓p_neN, ↓p_ltN, ↓p_leN, ↓p_gtN, ↓p_geN, Nat.reduceSub, ln, ↓e1, ↓e2, ↓e3, i0, i1, i2, hb]
  | [a, b, c, d], h, hb, h1, h5, ln, ix =>
    have i0 : opIx (eI [a, b, c, d]) (.int 0) = some (.int a) := ix 0 (by simp)
    have i1 : opIx (eI [a, b, c, d]) (.int 1) = some (.int b) := ix 1 (by simp)
    have i2 : opIx (eI [a, b, c, d]) (.int 2) = some (.int c) := ix 2 (by simp)
    have i3 : opIx (eI [a, b, c, d]) (.int 3) = some (.int d) := ix 3 (by simp)
    have ln : opLen [eI [a, b, c, d]] = some (.int 4) := ln
    have e1 : opEq (.int 4) (.int 1) = some (.bl false) := rfl
    have e2 : opEq (.int 4) (.int 2) = some (.bl false) := rfl
    have e3 : opEq (.int 4) (.int 3) = some (.bl false) := rfl
    have e4 : opEq (.int 4) (.int 4) = some (.bl true) := rfl
    have hb : opBells [.int a, .int b, .int c, .int d] = some (eB [a, b, c, d]) := hb
    simp only [bnd_some, bnd_none, p_dc, p_dv, lk_z, lk_s, st_z, st_s, un_z, un_s, wipe_n, wipe_c, p_d2, p_d1, p_dnil, p_dcons, p_dL, p_asB, p_asI, p_asL, p_asSeqL, p_asSeqT, p_bV, p_dB, p_bAnd, p_bOr, p_bNot, p_dIf, p_dAnd, p_dOr, p_dNot, p_dCh, p_bYes, p_gN, p_gT, p_gsNil, p_gsCons, p_dNx, p_dRet, p_dSet, p_dIfS, p_dAsg, p_dPar, p_dAug, p_dApp, p_dSetIx, p_nLst, p_nRep, p_nOf, p_dSetN, p_dParN1, p_dParNN, p_iSeq, p_iRng1, p_iRng2, p_oNo, p_oIx, p_dSl, p_asIx, p_opTup, p_opLst, p_lenT, p_lenL, p_lenS, p_tupT, p_tupL, p_add, p_sub, p_mul, p_lt, p_le, p_gt, p_ge, p_eqI, p_neI, p_isN, p_isnN, p_isB, p_isnB, p_isNone_n, p_isNone_i, p_isNone_t, p_isNone_l, p_appL, p_appT, b_mc, b_mn, b_ac, b_an, b_rs, b_rz, b_lc, b_ln, b_it, b_if, b_itt, b_iff, p_dSeq, p_eqB, p_neB, len_eT, len_eR, len_eV, isNone_eO, seq_eT, seq_eR, seq_eV, seq_eL, eO_some, eO_none, len_eL, p_dOrT, ↓p_eqN, ↓p_neN, ↓p_ltN, ↓p_leN, ↓p_gtN, ↓p_geN, Nat.reduceSub, ln, ↓e1, ↓e2, ↓e3, ↓e4, i0, i1, i2, i3, hb]
  | [a, b, c, d, e], h, hb, h1, h5, ln, ix =>
    have i0 : opIx (eI [a, b, c, d, e]) (.int 0) = some (.int a) := ix 0 (by simp)
    have i1 : opIx (eI [a, b, c, d, e]) (.int 1) = some (.int b) := ix 1 (by simp)
    have i2 : opIx (eI [a, b, c, d, e]) (.int 2) = some (.int c) := ix 2 (by simp)
    have i3 : opIx (eI [a, b, c, d, e]) (.int 3) = some (.int d) := ix 3 (by simp)
    have i4 : opIx (eI [a, b, c, d, e]) (.int 4) = some (.int e) := ix 4 (by simp)
    have ln : opLen [eI [a, b, c, d, e]] = some (.int 5) := ln
    have e1 : opEq (.int 5) (.int 1) = some (.bl false) := rfl
    have e2 : opEq (.int 5) (.int 2) = some (.bl false) := rfl
    have e3 : opEq (.int 5) (.int 3) = some (.bl false) := rfl
    have e4 : opEq (.int 5) (.int 4) = some (.bl false) := rfl
    have hb : opBells [.int a, .int b, .int c, .int d, .int e] = some (eB [a, b, c, d, e]) := hb
    simp only [bnd_some, bnd_none, p_dc, p_dv, lk_z, lk_s, st_z, st_s, un_z, un_s, wipe_n, wipe_c, p_d2, p_d1, p_dnil, p_dcons, p_dL, p_asB, p_asI, p_asL, p_asSeqL, p_asSeqT, p_bV, p_dB, p_bAnd, p_bOr, p_bNot, p_dIf, p_dAnd, p_dOr, p_dNot, p_dCh, p_bYes, p_gN, p_gT, p_gsNil, p_gsCons, p_dNx, p_dRet, p_dSet, p_dIfS, p_dAsg, p_dPar, p_dAug, p_dApp, p_dSetIx, p_nLst, p_nRep, p_nOf, p_dSetN, p_dParN1, p_dParNN, p_iSeq, p_iRng1, p_iRng2, p_oNo, p_oIx, p_dSl, p_asIx, p_opTup, p_opLst, p_lenT, p_lenL, p_lenS, p_tupT, p_tupL, p_add, p_sub, p_mul, p_lt, p_le, p_gt, p_ge, p_eqI, p_neI, p_isN, p_isnN, p_isB, p_isnB, p_isNone_n, p_isNone_i, p_isNone_t, p_isNone_l, p_appL, p_appT, b_mc, b_mn, b_ac, b_an, b_rs, b_rz, b_lc, b_ln, b_it, b_if, b_itt, b_iff, p_dSeq, p_eqB, p_neB, len_eT, len_eR, len_eV, isNone_eO, seq_eT, seq_eR, seq_eV, seq_eL, eO_some, eO_none, len_eL, p_dOrT, ↓p_eqN, ↓p_neN, ↓p_ltN, ↓p_leN, ↓p_gtN, ↓p_geN, Nat.reduceSub, ln, ↓e1, ↓e2, ↓e3, ↓e4, i0, i1, i2, i3, i4, hb]
  | [], h, hb, h1, h5, ln, ix => simp at h1
  | _ :: _ :: _ :: _ :: _ :: _ :: _, h, hb, h1, h5, ln, ix => simp at h5
theorem ring_len (ps : List Nat) (x : Nat) : ((List.range ps.length).filter fun a => decide (x % ps.getD a 0 = 0)).length = ringN ps x := by
  have e : ps = (List.range ps.length).map fun a => ps.getD a 0 := ext_getD rfl (by simp) fun i hi => (getD_rmap (fun a => ps.getD a 0) hi).symm
  unfold ringN
  conv => rhs; rw [e]
  rw [List.filter_map, List.length_map]
  rfl
end Mi
namespace Mi
open DL
theorem rng2_m (lo m : Nat) (h : lo + m ≤ 1000000000) : opRng2 [.int (lo : Nat), .int ((lo + m : Nat) : Int)] = some ((List.range m).map fun i : Nat => D.int ((lo + i : Nat) : Int)) := by
  have c : -4611686018427387904 ≤ (lo : Int) ∧ (lo : Int) < 4611686018427387904 ∧ -4611686018427387904 ≤ ((lo + m : Nat) : Int) ∧ ((lo + m : Nat) : Int) < 4611686018427387904 := by omega
  simp only [opRng2, if_pos c]
  have e : (((lo + m : Nat) : Int) - (lo : Int)).toNat = m := by omega
  rw [e]
  unfold rngD
  refine congrArg some (List.map_congr_left fun i _ => ?_)
  rw [Int.natCast_add]
end Mi
namespace Mi
open DL
def lcmL (ps : List Nat) : Nat := ps.foldl (fun a p => Nat.lcm a p) 1
theorem lcmL_snoc (ps : List Nat) (p : Nat) : lcmL (ps ++ [p]) = Nat.lcm (lcmL ps) p := by
  unfold lcmL
  rw [List.foldl_append]
  rfl
theorem lcmL_spec : ∀ (r ps : List Nat), ps = r.reverse → (∀ p ∈ ps, 0 < p ∧ p ≤ 1000) → 0 < lcmL ps ∧ lcmL ps ≤ 1000 ^ ps.length ∧ ∀ p ∈ ps, p ∣ lcmL ps
  | [], ps, e, _ => by
    subst e
    exact ⟨by decide, by decide, by simp⟩
  | p :: r, ps, e, hb => by
    subst e
    rw [List.reverse_cons] at hb ⊢
    have hp := hb p (by simp)
    obtain ⟨h1, h2, h3⟩ := lcmL_spec r _ rfl fun q hq => hb q (by simp only [List.mem_append]; exact .inl hq)
    rw [lcmL_snoc, List.length_append, List.length_singleton, Nat.pow_succ]
    refine ⟨Nat.lcm_pos h1 hp.1, Nat.le_trans (Nat.le_of_dvd (Nat.mul_pos h1 hp.1) (Nat.lcm_dvd_mul _ p)) (Nat.mul_le_mul h2 hp.2), fun q hq => ?_⟩
    rcases List.mem_append.mp hq with z | z
    · exact Nat.dvd_trans (h3 q z) (Nat.dvd_lcm_left _ _)
    · rw [List.mem_singleton.mp z]
      exact Nat.dvd_lcm_right _ _
end Mi
namespace Mi
open DL
theorem min_n (a b : Nat) : opMin [.int (a : Nat), .int (b : Nat)] = some (.int ((min a b : Nat) : Int)) := by
  show some (D.int (if (b : Int) < (a : Int) then (b : Int) else (a : Int))) = _
  by_cases z : b < a
  · rw [if_pos (by omega), Nat.min_eq_right (by omega)]
  · rw [if_neg (by omega), Nat.min_eq_left (by omega)]
theorem add_nn (a b : Nat) : opAdd (.int (a : Nat)) (.int (b : Nat)) = some (.int ((a + b : Nat) : Int)) := by rw [p_add, Int.natCast_add]
end Mi
namespace Mi
open DL
end Mi
namespace Mi
open DL
end Mi
namespace Mi
open DL
end Mi
namespace Mi
open DL
/-- t: the time with the index idx among all times at which a bell rings -/
def RingAt (ps : List Nat) (idx t : Nat) : Prop := idx < upTo (anyR ps) (t + 1) ∧ upTo (anyR ps) t ≤ idx
end Mi
namespace Mi
open DL
/-- after how long some bells ring together -/
def lenS (ps S : List Nat) : Nat := S.foldl (fun a i => Nat.lcm a (ps.getD i 0)) 1
theorem lenS_snoc (ps S : List Nat) (i : Nat) : lenS ps (S ++ [i]) = Nat.lcm (lenS ps S) (ps.getD i 0) := by
  unfold lenS
  rw [List.foldl_append]
  rfl
theorem getD_bd {ps : List Nat} (h : Pds ps) {i : Nat} (hi : i < ps.length) : 0 < ps.getD i 0 ∧ ps.getD i 0 ≤ 1000 := h.bd _ (by rw [List.getD_eq_getElem?_getD, List.getElem?_eq_getElem hi]; exact List.getElem_mem hi)
theorem lenS_spec {ps : List Nat} (h : Pds ps) : ∀ (r S : List Nat), S = r.reverse → (∀ i ∈ S, i < ps.length) → 0 < lenS ps S ∧ lenS ps S ≤ 1000 ^ S.length ∧ ∀ x, lenS ps S ∣ x ↔ ∀ i ∈ S, ps.getD i 0 ∣ x
  | [], S, e, _ => by
    subst e
    exact ⟨Nat.one_pos, Nat.le_refl 1, fun x => ⟨fun _ i hi => absurd hi (by simp), fun _ => Nat.one_dvd x⟩⟩
  | i :: r, S, e, hb => by
    subst e
    rw [List.reverse_cons] at hb ⊢
    have hi := getD_bd h (hb i (by simp))
    obtain ⟨h1, h2, h3⟩ := lenS_spec h r _ rfl fun q hq => hb q (by simp only [List.mem_append]; exact .inl hq)
    rw [lenS_snoc, List.length_append, List.length_singleton, Nat.pow_succ]
    refine ⟨Nat.lcm_pos h1 hi.1, Nat.le_trans (Nat.le_of_dvd (Nat.mul_pos h1 hi.1) (Nat.lcm_dvd_mul _ _)) (Nat.mul_le_mul h2 hi.2), fun x => ?_⟩
    rw [Nat.lcm_dvd_iff, h3]
    constructor
    · rintro ⟨a, b⟩ j hj
      rcases List.mem_append.mp hj with z | z
      · exact a j z
      · rw [List.mem_singleton.mp z]
        exact b
    · intro a
      exact ⟨fun j hj => a j (List.mem_append_left _ hj), a i (by simp)⟩
/-- the other bells -/
def othS (ps S : List Nat) : List Nat := ((List.range ps.length).filter fun i => decide (i ∉ S)).map fun i => ps.getD i 0
theorem dvd_part {p l t : Nat} (hp : 0 < p) : p / Nat.gcd p l ∣ t ↔ p ∣ t * l := by
  have g0 := Nat.gcd_pos_of_pos_left l hp
  obtain ⟨a, ha⟩ := Nat.gcd_dvd_left p l
  obtain ⟨b, hb⟩ := Nat.gcd_dvd_right p l
  have e1 : p / Nat.gcd p l = a := by
    conv => lhs; arg 1; rw [ha]
    exact Nat.mul_div_cancel_left _ g0
  have co : Nat.Coprime a b := by
    have := Nat.gcd_div (Nat.gcd_dvd_left p l) (Nat.gcd_dvd_right p l)
    rw [Nat.div_self g0] at this
    have e2 : l / Nat.gcd p l = b := by
      conv => lhs; arg 1; rw [hb]
      exact Nat.mul_div_cancel_left _ g0
    rw [e1, e2] at this
    exact this
  rw [e1]
  constructor
  · rintro ⟨c, rfl⟩
    rw [hb]
    conv => lhs; rw [ha]
    exact ⟨c * b, by ac_rfl⟩
  · intro h
    have h2 : Nat.gcd p l * a ∣ Nat.gcd p l * (t * b) := by
      rw [← ha]
      have : Nat.gcd p l * (t * b) = t * l := by
        conv => rhs; rw [hb]
        ac_rfl
      rw [this]
      exact h
    exact Nat.Coprime.dvd_of_dvd_mul_right co (Nat.dvd_of_mul_dvd_mul_left g0 h2)
/-- what first_with tells: the first time from one on at which just these bells ring -/
def FirstW (ps S : List Nat) (low : Nat) : Option Nat → Prop
  | none => ∃ p ∈ othS ps S, p ∣ lenS ps S
  | some x => low ≤ x ∧ lenS ps S ∣ x ∧ (∀ p ∈ othS ps S, ¬ p ∣ x) ∧ ∀ y, low ≤ y → lenS ps S ∣ y → (∀ p ∈ othS ps S, ¬ p ∣ y) → x ≤ y
def eF : Option Nat → D
  | none => .non
  | some x => .int (x : Nat)
theorem first_with_m {ps S : List Nat} (h : Pds ps) (hS : ∀ i ∈ S, i < ps.length) (hl5 : S.length ≤ 5) {low : Nat} (hlow : low ≤ 1000000000000000000) : ∃ v, FirstW ps S low v ∧ m_first_with [eB ps, eI S, .int (low : Nat)] = some (eF v) := by
  have per := per_m ps
  have h5 := h.five
  have sp := lenS_spec h S.reverse S (by simp) hS
  have lb : lenS ps S ≤ 1000000000000000 := Nat.le_trans sp.2.1 (Nat.le_trans (Nat.pow_le_pow_right (by decide) hl5) (by decide))
  -- the length
  obtain ⟨ρ1, q1, ag1, e3⟩ := for_agPre (b := m_first_with_b1) (i := 4) (ws := [4, 3]) (ρ := st [some (eB ps), some (eI S), some (.int (low : Nat)), none, none, none, none, none, none, none] 3 (.int 1)) (fun i : Nat => D.int i) (fun pre ρ' => lk ρ' 3 = some (.int (lenS ps pre : Nat))) S (by decide) (show 4 < 10 by decide) rfl (fun pre ρ' d q => by rw [lk_st_o (by decide)]; exact q) (by
    intro pre i r' e ρ1 ag e4 e3
    have hl : ρ1.length = 10 := ag.1
    have a0 := ag.lk 0 (by decide) (x := some (eB ps)) rfl
    have hi : i < ps.length := hS i (by rw [e]; simp)
    have gb := getD_bd h hi
    have ix : opIx (eI ps) (.int (i : Nat)) = some (.int (ps.getD i 0)) := ix_eI hi
    have sp' := lenS_spec h pre.reverse pre (by simp) fun j hj => hS j (by rw [e]; simp only [List.mem_append]; exact .inl hj)
    have lm := lcm_m sp'.1 (b := ps.getD i 0) (by omega) (Nat.lt_of_le_of_lt (Nat.gcd_le_right _ gb.1) (by omega))
    refine ⟨st ρ1 3 (.int (lenS ps (pre ++ [i]) : Nat)), ?_, ag.st (by decide), by rw [lk_st_i (by omega)]⟩
    rw [lenS_snoc]
    simp only [m_first_with_b1, bnd_some, bnd_none, p_dc, p_dv, lk_z, lk_s, st_z, st_s, un_z, un_s, wipe_n, wipe_c, p_d2, p_d1, p_dnil, p_dcons, p_dL, p_asB, p_asI, p_asL, p_asSeqL, p_asSeqT, p_bV, p_dB, p_bAnd, p_bOr, p_bNot, p_dIf, p_dAnd, p_dOr, p_dNot, p_dCh, p_bYes, p_gN, p_gT, p_gsNil, p_gsCons, p_dNx, p_dRet, p_dSet, p_dIfS, p_dAsg, p_dPar, p_dAug, p_dApp, p_dSetIx, p_nLst, p_nRep, p_nOf, p_dSetN, p_dParN1, p_dParNN, p_iSeq, p_iRng1, p_iRng2, p_oNo, p_oIx, p_dSl, p_asIx, p_opTup, p_opLst, p_lenT, p_lenL, p_lenS, p_tupT, p_tupL, p_add, p_sub, p_mul, p_lt, p_le, p_gt, p_ge, p_eqI, p_neI, p_isN, p_isnN, p_isB, p_isnB, p_isNone_n, p_isNone_i, p_isNone_t, p_isNone_l, p_appL, p_appT, b_mc, b_mn, b_ac, b_an, b_rs, b_rz, b_lc, b_ln, b_it, b_if, b_itt, b_iff, p_dSeq, p_eqB, p_neB, len_eT, len_eR, len_eV, isNone_eO, seq_eT, seq_eR, seq_eV, seq_eL, eO_some, eO_none, len_eL, p_dOrT, ↓p_eqN, ↓p_neN, ↓p_ltN, ↓p_leN, ↓p_gtN, ↓p_geN, a0, per, e4, e3, ix, lm])
  have f1 := (for_eq (it := iSeq (dv 1)) (ds := S.map fun i : Nat => D.int i) (ρ := st [some (eB ps), some (eI S), some (.int (low : Nat)), none, none, none, none, none, none, none] 3 (.int 1)) (by simp only [bnd_some, bnd_none, p_dc, p_dv, lk_z, lk_s, st_z, st_s, un_z, un_s, wipe_n, wipe_c, p_d2, p_d1, p_dnil, p_dcons, p_dL, p_asB, p_asI, p_asL, p_asSeqL, p_asSeqT, p_bV, p_dB, p_bAnd, p_bOr, p_bNot, p_dIf, p_dAnd, p_dOr, p_dNot, p_dCh, p_bYes, p_gN, p_gT, p_gsNil, p_gsCons, p_dNx, p_dRet, p_dSet, p_dIfS, p_dAsg, p_dPar, p_dAug, p_dApp, p_dSetIx, p_nLst, p_nRep, p_nOf, p_dSetN, p_dParN1, p_dParNN, p_iSeq, p_iRng1, p_iRng2, p_oNo, p_oIx, p_dSl, p_asIx, p_opTup, p_opLst, p_lenT, p_lenL, p_lenS, p_tupT, p_tupL, p_add, p_sub, p_mul, p_lt, p_le, p_gt, p_ge, p_eqI, p_neI, p_isN, p_isnN, p_isB, p_isnB, p_isNone_n, p_isNone_i, p_isNone_t, p_isNone_l, p_appL, p_appT, b_mc, b_mn, b_ac, b_an, b_rs, b_rz, b_lc, b_ln, b_it, b_if, b_itt, b_iff, p_dSeq, p_eqB, p_neB, len_eT, len_eR, len_eV, isNone_eO, seq_eT, seq_eR, seq_eV, seq_eL, eO_some, eO_none, len_eL, p_dOrT, ↓p_eqN, ↓p_neN, ↓p_ltN, ↓p_leN, ↓p_gtN, ↓p_geN]; rfl)).trans q1
  have hl1 : ρ1.length = 10 := ag1.1
  have b0 := ag1.lk 0 (by decide) (x := some (eB ps)) rfl
  have b1 := ag1.lk 1 (by decide) (x := some (eI S)) rfl
  have b2 := ag1.lk 2 (by decide) (x := some (.int (low : Nat))) rfl
  generalize hL : lenS ps S = L at *
  -- the others
  have en : iEn (dcons (d1 opPer (dv 0)) dnil) ρ1 = some ((List.range ps.length).map fun a => .tup [.int (a : Nat), .int (ps.getD a 0 : Nat)]) := by
    have e : eI ps = .tup ((List.range ps.length).map fun a => D.int (ps.getD a 0 : Nat)) := by
      rw [eI_eV rfl]
      rfl
    rw [p_iEnT (xs := (List.range ps.length).map fun a => D.int (ps.getD a 0 : Nat)) (by rw [← e]; simp only [bnd_some, bnd_none, p_dc, p_dv, lk_z, lk_s, st_z, st_s, un_z, un_s, wipe_n, wipe_c, p_d2, p_d1, p_dnil, p_dcons, p_dL, p_asB, p_asI, p_asL, p_asSeqL, p_asSeqT, p_bV, p_dB, p_bAnd, p_bOr, p_bNot, p_dIf, p_dAnd, p_dOr, p_dNot, p_dCh, p_bYes, p_gN, p_gT, p_gsNil, p_gsCons, p_dNx, p_dRet, p_dSet, p_dIfS, p_dAsg, p_dPar, p_dAug, p_dApp, p_dSetIx, p_nLst, p_nRep, p_nOf, p_dSetN, p_dParN1, p_dParNN, p_iSeq, p_iRng1, p_iRng2, p_oNo, p_oIx, p_dSl, p_asIx, p_opTup, p_opLst, p_lenT, p_lenL, p_lenS, p_tupT, p_tupL, p_add, p_sub, p_mul, p_lt, p_le, p_gt, p_ge, p_eqI, p_neI, p_isN, p_isnN, p_isB, p_isnB, p_isNone_n, p_isNone_i, p_isNone_t, p_isNone_l, p_appL, p_appT, b_mc, b_mn, b_ac, b_an, b_rs, b_rz, b_lc, b_ln, b_it, b_if, b_itt, b_iff, p_dSeq, p_eqB, p_neB, len_eT, len_eR, len_eV, isNone_eO, seq_eT, seq_eR, seq_eV, seq_eL, eO_some, eO_none, len_eL, p_dOrT, ↓p_eqN, ↓p_neN, ↓p_ltN, ↓p_leN, ↓p_gtN, ↓p_geN, b0, per]), enum_range]
  have c1 : m_first_with_c1 ρ1 = some (eL (othS ps S)) := by
    unfold m_first_with_c1
    rw [comp_if (fun a : Nat => .tup [.int (a : Nat), .int (ps.getD a 0 : Nat)]) (fun a => decide (a ∉ S)) (fun a => D.int (ps.getD a 0 : Nat)) (List.range ps.length) en (by simp; omega) (by
      intro a _
      have ni := notIn_eI a S
      refine ⟨_, by simp only [bnd_some, bnd_none, p_dc, p_dv, lk_z, lk_s, st_z, st_s, un_z, un_s, wipe_n, wipe_c, p_d2, p_d1, p_dnil, p_dcons, p_dL, p_asB, p_asI, p_asL, p_asSeqL, p_asSeqT, p_bV, p_dB, p_bAnd, p_bOr, p_bNot, p_dIf, p_dAnd, p_dOr, p_dNot, p_dCh, p_bYes, p_gN, p_gT, p_gsNil, p_gsCons, p_dNx, p_dRet, p_dSet, p_dIfS, p_dAsg, p_dPar, p_dAug, p_dApp, p_dSetIx, p_nLst, p_nRep, p_nOf, p_dSetN, p_dParN1, p_dParNN, p_iSeq, p_iRng1, p_iRng2, p_oNo, p_oIx, p_dSl, p_asIx, p_opTup, p_opLst, p_lenT, p_lenL, p_lenS, p_tupT, p_tupL, p_add, p_sub, p_mul, p_lt, p_le, p_gt, p_ge, p_eqI, p_neI, p_isN, p_isnN, p_isB, p_isnB, p_isNone_n, p_isNone_i, p_isNone_t, p_isNone_l, p_appL, p_appT, b_mc, b_mn, b_ac, b_an, b_rs, b_rz, b_lc, b_ln, b_it, b_if, b_itt, b_iff, p_dSeq, p_eqB, p_neB, len_eT, len_eR, len_eV, isNone_eO, seq_eT, seq_eR, seq_eV, seq_eL, eO_some, eO_none, len_eL, p_dOrT, ↓p_eqN, ↓p_neN, ↓p_ltN, ↓p_leN, ↓p_gtN, ↓p_geN]; rfl, ?_, fun _ => ?_⟩
      · simp only [bnd_some, bnd_none, p_dc, p_dv, lk_z, lk_s, st_z, st_s, un_z, un_s, wipe_n, wipe_c, p_d2, p_d1, p_dnil, p_dcons, p_dL, p_asB, p_asI, p_asL, p_asSeqL, p_asSeqT, p_bV, p_dB, p_bAnd, p_bOr, p_bNot, p_dIf, p_dAnd, p_dOr, p_dNot, p_dCh, p_bYes, p_gN, p_gT, p_gsNil, p_gsCons, p_dNx, p_dRet, p_dSet, p_dIfS, p_dAsg, p_dPar, p_dAug, p_dApp, p_dSetIx, p_nLst, p_nRep, p_nOf, p_dSetN, p_dParN1, p_dParNN, p_iSeq, p_iRng1, p_iRng2, p_oNo, p_oIx, p_dSl, p_asIx, p_opTup, p_opLst, p_lenT, p_lenL, p_lenS, p_tupT, p_tupL, p_add, p_sub, p_mul, p_lt, p_le, p_gt, p_ge, p_eqI, p_neI, p_isN, p_isnN, p_isB, p_isnB, p_isNone_n, p_isNone_i, p_isNone_t, p_isNone_l, p_appL, p_appT, b_mc, b_mn, b_ac, b_an, b_rs, b_rz, b_lc, b_ln, b_it, b_if, b_itt, b_iff, p_dSeq, p_eqB, p_neB, len_eT, len_eR, len_eV, isNone_eO, seq_eT, seq_eR, seq_eV, seq_eL, eO_some, eO_none, len_eL, p_dOrT, ↓p_eqN, ↓p_neN, ↓p_ltN, ↓p_leN, ↓p_gtN, ↓p_geN, lk_st_o, lk_st_i, lk_un_o, len_st, len_un, Nat.reduceBEq, Nat.reduceLT, hl1, b1, ↓ni]
      · simp only [bnd_some, bnd_none, p_dc, p_dv, lk_z, lk_s, st_z, st_s, un_z, un_s, wipe_n, wipe_c, p_d2, p_d1, p_dnil, p_dcons, p_dL, p_asB, p_asI, p_asL, p_asSeqL, p_asSeqT, p_bV, p_dB, p_bAnd, p_bOr, p_bNot, p_dIf, p_dAnd, p_dOr, p_dNot, p_dCh, p_bYes, p_gN, p_gT, p_gsNil, p_gsCons, p_dNx, p_dRet, p_dSet, p_dIfS, p_dAsg, p_dPar, p_dAug, p_dApp, p_dSetIx, p_nLst, p_nRep, p_nOf, p_dSetN, p_dParN1, p_dParNN, p_iSeq, p_iRng1, p_iRng2, p_oNo, p_oIx, p_dSl, p_asIx, p_opTup, p_opLst, p_lenT, p_lenL, p_lenS, p_tupT, p_tupL, p_add, p_sub, p_mul, p_lt, p_le, p_gt, p_ge, p_eqI, p_neI, p_isN, p_isnN, p_isB, p_isnB, p_isNone_n, p_isNone_i, p_isNone_t, p_isNone_l, p_appL, p_appT, b_mc, b_mn, b_ac, b_an, b_rs, b_rz, b_lc, b_ln, b_it, b_if, b_itt, b_iff, p_dSeq, p_eqB, p_neB, len_eT, len_eR, len_eV, isNone_eO, seq_eT, seq_eR, seq_eV, seq_eL, eO_some, eO_none, len_eL, p_dOrT, ↓p_eqN, ↓p_neN, ↓p_ltN, ↓p_leN, ↓p_gtN, ↓p_geN, lk_st_o, lk_st_i, lk_un_o, len_st, len_un, Nat.reduceBEq, Nat.reduceLT, hl1])]
    unfold eL othS
    rw [List.map_map]
    rfl
  have ob : ∀ p ∈ othS ps S, 0 < p ∧ p ≤ 1000 := fun p hp => by
    obtain ⟨i, hi, rfl⟩ := List.mem_map.mp hp
    exact getD_bd h (List.mem_range.mp (List.mem_filter.mp hi).1)
  have ol : (othS ps S).length ≤ 5 := by
    unfold othS
    rw [List.length_map]
    have := List.length_filter_le (fun i => decide (i ∉ S)) (List.range ps.length)
    rw [List.length_range] at this
    omega
  have l0 := sp.1
  let q : Nat → Nat := fun p => p / Nat.gcd p L
  have qpos : ∀ p ∈ othS ps S, 0 < q p ∧ q p ≤ 1000 := fun p hp => by
    have b := ob p hp
    exact ⟨Nat.div_pos (Nat.le_of_dvd b.1 (Nat.gcd_dvd_left p L)) (Nat.gcd_pos_of_pos_left L b.1), Nat.le_trans (Nat.div_le_self _ _) b.2⟩
  have c2 : m_first_with_c2 (st ρ1 5 (eL (othS ps S))) = some (eL ((othS ps S).map q)) := by
    unfold m_first_with_c2
    rw [comp_all (fun p : Nat => D.int p) (fun p => D.int (q p : Nat)) (othS ps S) (by simp only [bnd_some, bnd_none, p_dc, p_dv, lk_z, lk_s, st_z, st_s, un_z, un_s, wipe_n, wipe_c, p_d2, p_d1, p_dnil, p_dcons, p_dL, p_asB, p_asI, p_asL, p_asSeqL, p_asSeqT, p_bV, p_dB, p_bAnd, p_bOr, p_bNot, p_dIf, p_dAnd, p_dOr, p_dNot, p_dCh, p_bYes, p_gN, p_gT, p_gsNil, p_gsCons, p_dNx, p_dRet, p_dSet, p_dIfS, p_dAsg, p_dPar, p_dAug, p_dApp, p_dSetIx, p_nLst, p_nRep, p_nOf, p_dSetN, p_dParN1, p_dParNN, p_iSeq, p_iRng1, p_iRng2, p_oNo, p_oIx, p_dSl, p_asIx, p_opTup, p_opLst, p_lenT, p_lenL, p_lenS, p_tupT, p_tupL, p_add, p_sub, p_mul, p_lt, p_le, p_gt, p_ge, p_eqI, p_neI, p_isN, p_isnN, p_isB, p_isnB, p_isNone_n, p_isNone_i, p_isNone_t, p_isNone_l, p_appL, p_appT, b_mc, b_mn, b_ac, b_an, b_rs, b_rz, b_lc, b_ln, b_it, b_if, b_itt, b_iff, p_dSeq, p_eqB, p_neB, len_eT, len_eR, len_eV, isNone_eO, seq_eT, seq_eR, seq_eV, seq_eL, eO_some, eO_none, len_eL, p_dOrT, ↓p_eqN, ↓p_neN, ↓p_ltN, ↓p_leN, ↓p_gtN, ↓p_geN, lk_st_i, hl1, Nat.reduceLT]) (by omega) (by
      intro p hp
      have b := ob p hp
      have gm := gcd_m (a := p) (b := L) (by omega)
      have dd := div_n (a := p) (Nat.gcd_pos_of_pos_left L b.1) (Nat.lt_of_le_of_lt (Nat.gcd_le_left L b.1) (by omega))
      refine ⟨_, rfl, ?_⟩
      simp only [bnd_some, bnd_none, p_dc, p_dv, lk_z, lk_s, st_z, st_s, un_z, un_s, wipe_n, wipe_c, p_d2, p_d1, p_dnil, p_dcons, p_dL, p_asB, p_asI, p_asL, p_asSeqL, p_asSeqT, p_bV, p_dB, p_bAnd, p_bOr, p_bNot, p_dIf, p_dAnd, p_dOr, p_dNot, p_dCh, p_bYes, p_gN, p_gT, p_gsNil, p_gsCons, p_dNx, p_dRet, p_dSet, p_dIfS, p_dAsg, p_dPar, p_dAug, p_dApp, p_dSetIx, p_nLst, p_nRep, p_nOf, p_dSetN, p_dParN1, p_dParNN, p_iSeq, p_iRng1, p_iRng2, p_oNo, p_oIx, p_dSl, p_asIx, p_opTup, p_opLst, p_lenT, p_lenL, p_lenS, p_tupT, p_tupL, p_add, p_sub, p_mul, p_lt, p_le, p_gt, p_ge, p_eqI, p_neI, p_isN, p_isnN, p_isB, p_isnB, p_isNone_n, p_isNone_i, p_isNone_t, p_isNone_l, p_appL, p_appT, b_mc, b_mn, b_ac, b_an, b_rs, b_rz, b_lc, b_ln, b_it, b_if, b_itt, b_iff, p_dSeq, p_eqB, p_neB, len_eT, len_eR, len_eV, isNone_eO, seq_eT, seq_eR, seq_eV, seq_eL, eO_some, eO_none, len_eL, p_dOrT, ↓p_eqN, ↓p_neN, ↓p_ltN, ↓p_leN, ↓p_gtN, ↓p_geN, lk_st_o, lk_st_i, lk_un_o, len_st, len_un, Nat.reduceBEq, Nat.reduceLT, hl1, e3, gm, dd]
      rfl)]
    unfold eL
    rw [List.map_map]
    rfl
  have inn := in_eL 1 ((othS ps S).map q)
  have inn : opIn (.int 1) (eL ((othS ps S).map q)) = _ := inn
  generalize hρ2 : st (st ρ1 5 (eL (othS ps S))) 6 (eL ((othS ps S).map q)) = ρ2
  have hl2 : ρ2.length = 10 := by rw [← hρ2]; simp only [len_st, hl1]
  have d6 : lk ρ2 6 = some (eL ((othS ps S).map q)) := by rw [← hρ2]; rw [lk_st_i (by rw [len_st]; omega)]
  have d3 : lk ρ2 3 = some (.int (L : Nat)) := by rw [← hρ2]; simp only [lk_st_o, Nat.reduceBEq, e3]
  have d2' : lk ρ2 2 = some (.int (low : Nat)) := by rw [← hρ2]; simp only [lk_st_o, Nat.reduceBEq, b2]
  simp only [bnd_some, bnd_none, p_dc, p_dv, lk_z, lk_s, st_z, st_s, un_z, un_s, wipe_n, wipe_c, p_d2, p_d1, p_dnil, p_dcons, p_dL, p_asB, p_asI, p_asL, p_asSeqL, p_asSeqT, p_bV, p_dB, p_bAnd, p_bOr, p_bNot, p_dIf, p_dAnd, p_dOr, p_dNot, p_dCh, p_bYes, p_gN, p_gT, p_gsNil, p_gsCons, p_dNx, p_dRet, p_dSet, p_dIfS, p_dAsg, p_dPar, p_dAug, p_dApp, p_dSetIx, p_nLst, p_nRep, p_nOf, p_dSetN, p_dParN1, p_dParNN, p_iSeq, p_iRng1, p_iRng2, p_oNo, p_oIx, p_dSl, p_asIx, p_opTup, p_opLst, p_lenT, p_lenL, p_lenS, p_tupT, p_tupL, p_add, p_sub, p_mul, p_lt, p_le, p_gt, p_ge, p_eqI, p_neI, p_isN, p_isnN, p_isB, p_isnB, p_isNone_n, p_isNone_i, p_isNone_t, p_isNone_l, p_appL, p_appT, b_mc, b_mn, b_ac, b_an, b_rs, b_rz, b_lc, b_ln, b_it, b_if, b_itt, b_iff, p_dSeq, p_eqB, p_neB, len_eT, len_eR, len_eV, isNone_eO, seq_eT, seq_eR, seq_eV, seq_eL, eO_some, eO_none, len_eL, p_dOrT, ↓p_eqN, ↓p_neN, ↓p_ltN, ↓p_leN, ↓p_gtN, ↓p_geN] at f1
  by_cases one : 1 ∈ (othS ps S).map q
  · rw [decide_eq_true one] at inn
    obtain ⟨p, hp, hpe⟩ := List.mem_map.mp one
    refine ⟨none, ⟨p, hp, ?_⟩, run_rt rfl ?_⟩
    · rw [hL]
      have := (dvd_part (p := p) (l := L) (t := 1) (ob p hp).1).mp (by show q p ∣ 1; rw [hpe]; exact Nat.dvd_refl 1)
      rwa [Nat.one_mul] at this
    · simp only [bnd_some, bnd_none, p_dc, p_dv, lk_z, lk_s, st_z, st_s, un_z, un_s, wipe_n, wipe_c, p_d2, p_d1, p_dnil, p_dcons, p_dL, p_asB, p_asI, p_asL, p_asSeqL, p_asSeqT, p_bV, p_dB, p_bAnd, p_bOr, p_bNot, p_dIf, p_dAnd, p_dOr, p_dNot, p_dCh, p_bYes, p_gN, p_gT, p_gsNil, p_gsCons, p_dNx, p_dRet, p_dSet, p_dIfS, p_dAsg, p_dPar, p_dAug, p_dApp, p_dSetIx, p_nLst, p_nRep, p_nOf, p_dSetN, p_dParN1, p_dParNN, p_iSeq, p_iRng1, p_iRng2, p_oNo, p_oIx, p_dSl, p_asIx, p_opTup, p_opLst, p_lenT, p_lenL, p_lenS, p_tupT, p_tupL, p_add, p_sub, p_mul, p_lt, p_le, p_gt, p_ge, p_eqI, p_neI, p_isN, p_isnN, p_isB, p_isnB, p_isNone_n, p_isNone_i, p_isNone_t, p_isNone_l, p_appL, p_appT, b_mc, b_mn, b_ac, b_an, b_rs, b_rz, b_lc, b_ln, b_it, b_if, b_itt, b_iff, p_dSeq, p_eqB, p_neB, len_eT, len_eR, len_eV, isNone_eO, seq_eT, seq_eR, seq_eV, seq_eL, eO_some, eO_none, len_eL, p_dOrT, ↓p_eqN, ↓p_neN, ↓p_ltN, ↓p_leN, ↓p_gtN, ↓p_geN, Nat.reduceSub, f1, c1, c2, hρ2, d6, ↓inn]
      rfl
  · rw [decide_eq_false one] at inn
    have qne : ∀ p ∈ othS ps S, q p ≠ 1 := fun p hp e => one (List.mem_map.mpr ⟨p, hp, e⟩)
    let bad : Nat → Bool := fun t => (othS ps S).any fun p => decide (t % q p = 0)
    have badI : ∀ t, bad t = true ↔ ∃ p ∈ othS ps S, p ∣ t * L := fun t => by
      show (othS ps S).any _ = true ↔ _
      rw [List.any_eq_true]
      constructor
      · rintro ⟨p, hp, hd⟩
        exact ⟨p, hp, (dvd_part (ob p hp).1).mp (Nat.dvd_of_mod_eq_zero (of_decide_eq_true hd))⟩
      · rintro ⟨p, hp, hd⟩
        exact ⟨p, hp, decide_eq_true (Nat.mod_eq_zero_of_dvd ((dvd_part (ob p hp).1).mpr hd))⟩
    have a1 := add_nn low L
    have a2 : opSub (.int ((low + L : Nat) : Int)) (.int 1) = some (.int ((low + L - 1 : Nat) : Int)) := by rw [p_sub, show ((low + L : Nat) : Int) - 1 = ((low + L - 1 : Nat) : Int) by omega]
    have a3 := div_n (a := low + L - 1) l0 (by omega)
    generalize ht0 : (low + L - 1) / L = t0 at a3
    have t0b : t0 ≤ low + L - 1 := by rw [← ht0]; exact Nat.div_le_self _ _
    -- a turn at which none of the others rings
    have pm : ∀ l : List Nat, (∀ p ∈ l, 0 < q p ∧ q p ≤ 1000) → 0 < lcmL (l.map q) ∧ lcmL (l.map q) ≤ 1000 ^ l.length ∧ ∀ p ∈ l, q p ∣ lcmL (l.map q) := fun l hlb => by
      have := lcmL_spec (l.map q).reverse (l.map q) (by simp) fun x hx => by
        obtain ⟨p, hp, rfl⟩ := List.mem_map.mp hx
        exact hlb p hp
      rw [List.length_map] at this
      exact ⟨this.1, this.2.1, fun p hp => this.2.2 _ (List.mem_map.mpr ⟨p, hp, rfl⟩)⟩
    obtain ⟨m0, m1, m2⟩ := pm (othS ps S) qpos
    have mb : lcmL ((othS ps S).map q) ≤ 1000000000000000 := Nat.le_trans m1 (Nat.le_trans (Nat.pow_le_pow_right (by decide) ol) (by decide))
    generalize lcmL ((othS ps S).map q) = Mx at m0 m2 mb
    have good : bad ((t0 / Mx + 1) * Mx + 1) = false := by
      cases z : bad ((t0 / Mx + 1) * Mx + 1) with
      | false => rfl
      | true =>
        obtain ⟨p, hp, hd⟩ := List.any_eq_true.mp z
        have hd := Nat.dvd_of_mod_eq_zero (of_decide_eq_true hd)
        have h1 : q p ∣ (t0 / Mx + 1) * Mx := Nat.dvd_trans (m2 p hp) (Nat.dvd_mul_left _ _)
        have := (Nat.dvd_add_right h1).mp hd
        exact absurd (Nat.dvd_one.mp this) (qne p hp)
    have tsb : t0 ≤ (t0 / Mx + 1) * Mx + 1 ∧ (t0 / Mx + 1) * Mx + 1 ≤ t0 + Mx + 1 := by
      have e := Nat.div_add_mod t0 Mx
      have l := Nat.mod_lt t0 m0
      rw [Nat.succ_mul, Nat.mul_comm]
      omega
    generalize (t0 / Mx + 1) * Mx + 1 = ts at good tsb
    have c3 : ∀ (ρ0 : Rho) (t : Nat), ρ0.length = 10 → lk ρ0 6 = some (eL ((othS ps S).map q)) → lk ρ0 7 = some (.int (t : Nat)) → m_first_with_c3 ρ0 = some (.lst ((othS ps S).map fun p => .bl (decide (t % q p = 0)))) := fun ρ0 t hl0 e6 e7 => by
      unfold m_first_with_c3
      rw [comp_all (fun p : Nat => D.int (q p : Nat)) (fun p => .bl (decide (t % q p = 0))) (othS ps S) (by
          simp only [bnd_some, bnd_none, p_dc, p_dv, lk_z, lk_s, st_z, st_s, un_z, un_s, wipe_n, wipe_c, p_d2, p_d1, p_dnil, p_dcons, p_dL, p_asB, p_asI, p_asL, p_asSeqL, p_asSeqT, p_bV, p_dB, p_bAnd, p_bOr, p_bNot, p_dIf, p_dAnd, p_dOr, p_dNot, p_dCh, p_bYes, p_gN, p_gT, p_gsNil, p_gsCons, p_dNx, p_dRet, p_dSet, p_dIfS, p_dAsg, p_dPar, p_dAug, p_dApp, p_dSetIx, p_nLst, p_nRep, p_nOf, p_dSetN, p_dParN1, p_dParNN, p_iSeq, p_iRng1, p_iRng2, p_oNo, p_oIx, p_dSl, p_asIx, p_opTup, p_opLst, p_lenT, p_lenL, p_lenS, p_tupT, p_tupL, p_add, p_sub, p_mul, p_lt, p_le, p_gt, p_ge, p_eqI, p_neI, p_isN, p_isnN, p_isB, p_isnB, p_isNone_n, p_isNone_i, p_isNone_t, p_isNone_l, p_appL, p_appT, b_mc, b_mn, b_ac, b_an, b_rs, b_rz, b_lc, b_ln, b_it, b_if, b_itt, b_iff, p_dSeq, p_eqB, p_neB, len_eT, len_eR, len_eV, isNone_eO, seq_eT, seq_eR, seq_eV, seq_eL, eO_some, eO_none, len_eL, p_dOrT, ↓p_eqN, ↓p_neN, ↓p_ltN, ↓p_leN, ↓p_gtN, ↓p_geN, e6]
          rw [List.map_map]
          rfl) (by omega) (by
        intro p hp
        have mo := mod_n (a := t) (qpos p hp).1
        have eq : opEq (.int ((t % q p : Nat) : Int)) (.int 0) = some (.bl (decide (t % q p = 0))) := p_eqN _ 0
        generalize q p = y at mo eq
        refine ⟨_, rfl, ?_⟩
        simp only [bnd_some, bnd_none, p_dc, p_dv, lk_z, lk_s, st_z, st_s, un_z, un_s, wipe_n, wipe_c, p_d2, p_d1, p_dnil, p_dcons, p_dL, p_asB, p_asI, p_asL, p_asSeqL, p_asSeqT, p_bV, p_dB, p_bAnd, p_bOr, p_bNot, p_dIf, p_dAnd, p_dOr, p_dNot, p_dCh, p_bYes, p_gN, p_gT, p_gsNil, p_gsCons, p_dNx, p_dRet, p_dSet, p_dIfS, p_dAsg, p_dPar, p_dAug, p_dApp, p_dSetIx, p_nLst, p_nRep, p_nOf, p_dSetN, p_dParN1, p_dParNN, p_iSeq, p_iRng1, p_iRng2, p_oNo, p_oIx, p_dSl, p_asIx, p_opTup, p_opLst, p_lenT, p_lenL, p_lenS, p_tupT, p_tupL, p_add, p_sub, p_mul, p_lt, p_le, p_gt, p_ge, p_eqI, p_neI, p_isN, p_isnN, p_isB, p_isnB, p_isNone_n, p_isNone_i, p_isNone_t, p_isNone_l, p_appL, p_appT, b_mc, b_mn, b_ac, b_an, b_rs, b_rz, b_lc, b_ln, b_it, b_if, b_itt, b_iff, p_dSeq, p_eqB, p_neB, len_eT, len_eR, len_eV, isNone_eO, seq_eT, seq_eR, seq_eV, seq_eL, eO_some, eO_none, len_eL, p_dOrT, ↓p_eqN, ↓p_neN, ↓p_ltN, ↓p_leN, ↓p_gtN, ↓p_geN, lk_st_o, lk_st_i, lk_un_o, len_st, len_un, Nat.reduceBEq, Nat.reduceLT, hl0, e7, mo, ↓eq])]
    have any : ∀ t, opAny [.lst ((othS ps S).map fun p => .bl (decide (t % q p = 0)))] = some (.bl (bad t)) := fun t => by
      show (asBls _).bind _ = _
      rw [asBls_map]
      simp only [Option.bind_some, List.any_map]
      rfl
    obtain ⟨ρ3, q3, t, e3', e7, tg, tl, tm⟩ := dWhile_m (t := bV (dL opAny (dcons m_first_with_c3 dnil))) (b := m_first_with_b2)
      (fun k ρ' => ∃ t, k = ts - t ∧ ρ'.length = 10 ∧ lk ρ' 6 = some (eL ((othS ps S).map q)) ∧ lk ρ' 3 = some (.int (L : Nat)) ∧ lk ρ' 7 = some (.int (t : Nat)) ∧ t0 ≤ t ∧ t ≤ ts ∧ ∀ u, t0 ≤ u → u < t → bad u = true)
      (fun ρ' => ∃ t, lk ρ' 3 = some (.int (L : Nat)) ∧ lk ρ' 7 = some (.int (t : Nat)) ∧ bad t = false ∧ t0 ≤ t ∧ ∀ u, t0 ≤ u → u < t → bad u = true)
      (k := ts - t0) (ρ := st ρ2 7 (.int (t0 : Nat))) ⟨t0, rfl, by rw [len_st, hl2], by rw [lk_st_o (by decide), d6], by rw [lk_st_o (by decide), d3], by rw [lk_st_i (by omega)], Nat.le_refl _, tsb.1, fun u h1 h2 => by omega⟩ (by omega) (by
        rintro k ρ' ⟨t, rfl, hl', e6, e3'', e7, t1, t2, t3⟩
        have cc := c3 ρ' t hl' e6 e7
        have an := any t
        generalize D.lst ((othS ps S).map fun p => .bl (decide (t % q p = 0))) = cl at cc an
        refine ⟨bad t, by simp only [bnd_some, bnd_none, p_dc, p_dv, lk_z, lk_s, st_z, st_s, un_z, un_s, wipe_n, wipe_c, p_d2, p_d1, p_dnil, p_dcons, p_dL, p_asB, p_asI, p_asL, p_asSeqL, p_asSeqT, p_bV, p_dB, p_bAnd, p_bOr, p_bNot, p_dIf, p_dAnd, p_dOr, p_dNot, p_dCh, p_bYes, p_gN, p_gT, p_gsNil, p_gsCons, p_dNx, p_dRet, p_dSet, p_dIfS, p_dAsg, p_dPar, p_dAug, p_dApp, p_dSetIx, p_nLst, p_nRep, p_nOf, p_dSetN, p_dParN1, p_dParNN, p_iSeq, p_iRng1, p_iRng2, p_oNo, p_oIx, p_dSl, p_asIx, p_opTup, p_opLst, p_lenT, p_lenL, p_lenS, p_tupT, p_tupL, p_add, p_sub, p_mul, p_lt, p_le, p_gt, p_ge, p_eqI, p_neI, p_isN, p_isnN, p_isB, p_isnB, p_isNone_n, p_isNone_i, p_isNone_t, p_isNone_l, p_appL, p_appT, b_mc, b_mn, b_ac, b_an, b_rs, b_rz, b_lc, b_ln, b_it, b_if, b_itt, b_iff, p_dSeq, p_eqB, p_neB, len_eT, len_eR, len_eV, isNone_eO, seq_eT, seq_eR, seq_eV, seq_eL, eO_some, eO_none, len_eL, p_dOrT, ↓p_eqN, ↓p_neN, ↓p_ltN, ↓p_leN, ↓p_gtN, ↓p_geN, cc, an], fun hb => ?_, fun hb => ⟨t, e3'', e7, hb, t1, t3⟩⟩
        have tne : t ≠ ts := fun e => by rw [e, good] at hb; cases hb
        have ad : (t : Int) + 1 = ((t + 1 : Nat) : Int) := by omega
        refine ⟨ts - (t + 1), st ρ' 7 (.int ((t + 1 : Nat) : Int)), by omega, ?_, t + 1, rfl, by rw [len_st, hl'], by rw [lk_st_o (by decide), e6], by rw [lk_st_o (by decide), e3''], by rw [lk_st_i (by omega)], by omega, by omega, fun u h1 h2 => ?_⟩
        · simp only [m_first_with_b2, bnd_some, bnd_none, p_dc, p_dv, lk_z, lk_s, st_z, st_s, un_z, un_s, wipe_n, wipe_c, p_d2, p_d1, p_dnil, p_dcons, p_dL, p_asB, p_asI, p_asL, p_asSeqL, p_asSeqT, p_bV, p_dB, p_bAnd, p_bOr, p_bNot, p_dIf, p_dAnd, p_dOr, p_dNot, p_dCh, p_bYes, p_gN, p_gT, p_gsNil, p_gsCons, p_dNx, p_dRet, p_dSet, p_dIfS, p_dAsg, p_dPar, p_dAug, p_dApp, p_dSetIx, p_nLst, p_nRep, p_nOf, p_dSetN, p_dParN1, p_dParNN, p_iSeq, p_iRng1, p_iRng2, p_oNo, p_oIx, p_dSl, p_asIx, p_opTup, p_opLst, p_lenT, p_lenL, p_lenS, p_tupT, p_tupL, p_add, p_sub, p_mul, p_lt, p_le, p_gt, p_ge, p_eqI, p_neI, p_isN, p_isnN, p_isB, p_isnB, p_isNone_n, p_isNone_i, p_isNone_t, p_isNone_l, p_appL, p_appT, b_mc, b_mn, b_ac, b_an, b_rs, b_rz, b_lc, b_ln, b_it, b_if, b_itt, b_iff, p_dSeq, p_eqB, p_neB, len_eT, len_eR, len_eV, isNone_eO, seq_eT, seq_eR, seq_eV, seq_eL, eO_some, eO_none, len_eL, p_dOrT, ↓p_eqN, ↓p_neN, ↓p_ltN, ↓p_leN, ↓p_gtN, ↓p_geN, e7, ad]
        · by_cases z : u = t
          · rw [z]; exact hb
          · exact t3 u h1 (by omega))
    have mu := mul_n (a := t) (b := L) (by omega)
    have lowt : ∀ u, low ≤ u * L ↔ t0 ≤ u := fun u => by
      rw [← ht0]
      constructor
      · intro hh
        have : (low + L - 1) / L < u + 1 := (Nat.div_lt_iff_lt_mul l0).mpr (by rw [Nat.succ_mul]; omega)
        omega
      · intro hh
        have : (low + L - 1) / L < u + 1 := by omega
        have := (Nat.div_lt_iff_lt_mul l0).mp this
        rw [Nat.succ_mul] at this
        omega
    refine ⟨some (t * L), ⟨(lowt t).mpr tl, by rw [hL]; exact Nat.dvd_mul_left _ _, fun p hp hd => ?_, fun y hy hd hn => ?_⟩, run_rt rfl ?_⟩
    · have := (badI t).mpr ⟨p, hp, hd⟩
      rw [tg] at this
      cases this
    · rw [hL] at hd
      obtain ⟨u, rfl⟩ := hd
      rw [Nat.mul_comm L u] at hy hn ⊢
      apply Nat.mul_le_mul_right
      apply Nat.le_of_not_lt
      intro z
      obtain ⟨p, hp, hd⟩ := (badI u).mp (tm u ((lowt u).mp hy) z)
      exact hn p hp hd
    · simp only [bnd_some, bnd_none, p_dc, p_dv, lk_z, lk_s, st_z, st_s, un_z, un_s, wipe_n, wipe_c, p_d2, p_d1, p_dnil, p_dcons, p_dL, p_asB, p_asI, p_asL, p_asSeqL, p_asSeqT, p_bV, p_dB, p_bAnd, p_bOr, p_bNot, p_dIf, p_dAnd, p_dOr, p_dNot, p_dCh, p_bYes, p_gN, p_gT, p_gsNil, p_gsCons, p_dNx, p_dRet, p_dSet, p_dIfS, p_dAsg, p_dPar, p_dAug, p_dApp, p_dSetIx, p_nLst, p_nRep, p_nOf, p_dSetN, p_dParN1, p_dParNN, p_iSeq, p_iRng1, p_iRng2, p_oNo, p_oIx, p_dSl, p_asIx, p_opTup, p_opLst, p_lenT, p_lenL, p_lenS, p_tupT, p_tupL, p_add, p_sub, p_mul, p_lt, p_le, p_gt, p_ge, p_eqI, p_neI, p_isN, p_isnN, p_isB, p_isnB, p_isNone_n, p_isNone_i, p_isNone_t, p_isNone_l, p_appL, p_appT, b_mc, b_mn, b_ac, b_an, b_rs, b_rz, b_lc, b_ln, b_it, b_if, b_itt, b_iff, p_dSeq, p_eqB, p_neB, len_eT, len_eR, len_eV, isNone_eO, seq_eT, seq_eR, seq_eV, seq_eL, eO_some, eO_none, len_eL, p_dOrT, ↓p_eqN, ↓p_neN, ↓p_ltN, ↓p_leN, ↓p_gtN, ↓p_geN, Nat.reduceSub, f1, c1, c2, hρ2, d6, ↓inn, d2', d3, ↓a1, ↓a2, a3, q3, e7, e3', mu]
      rfl
end Mi
namespace Mi
open DL
end Mi
namespace Mi
open DL
theorem law_bells_g {ds : List Nat} (hd : 8 ≤ ds.length) {most : Nat} (m0 : 0 < most) (m1 : most ≤ 1000) : ∃ ps, Pds ps ∧ m_law_bells [eL ds, .int (most : Nat)] = some (eI ps) := by
  have d0 : opIx (eL ds) (.int 0) = some (.int (ds.getD 0 0)) := ix_eL (k := 0) (by omega)
  have d7 : opIx (eL ds) (.int 7) = some (.int (ds.getD 7 0)) := ix_eL (k := 7) (by omega)
  obtain ⟨n, n0, n5, en⟩ := size_g (ds.getD 0 0) 5 5 rfl (by decide)
  have m3 : opMod (.int (ds.getD 7 0)) (.int 3) = some (.int ((ds.getD 7 0 % 3 : Nat) : Int)) := mod_n (b := 3) (by decide)
  obtain ⟨b, b0, b1, eb⟩ : ∃ b : Nat, 0 < b ∧ b ≤ 1000 ∧ opIx (.lst [.int 6, .int 12, .int (most : Nat)]) (.int ((ds.getD 7 0 % 3 : Nat) : Int)) = some (.int (b : Nat)) := by
    have : ds.getD 7 0 % 3 = 0 ∨ ds.getD 7 0 % 3 = 1 ∨ ds.getD 7 0 % 3 = 2 := by omega
    rcases this with e | e | e <;> rw [e]
    · exact ⟨6, by decide, by decide, rfl⟩
    · exact ⟨12, by decide, by decide, rfl⟩
    · exact ⟨most, m0, m1, rfl⟩
  obtain ⟨ρ', q1, ag, qs, q2, q3, q4⟩ := for_agP (b := m_law_bells_b1) (i := 3) (n := n) (ws := [3, 2]) (ρ := st [some (eL ds), some (.int (most : Nat)), none, none] 2 (.tup [])) (fun i : Nat => D.int i) (fun k ρ' => ∃ qs : List Nat, qs.length = k ∧ (∀ p ∈ qs, 0 < p ∧ p ≤ 1000) ∧ lk ρ' 2 = some (eI qs)) (by decide) (show 3 < 4 by decide) ⟨[], rfl, by simp, rfl⟩ (fun k ρ' d ⟨qs, a, b, c⟩ => ⟨qs, a, b, by rw [lk_st_o (by decide)]; exact c⟩) (by
    rintro k hk ρ1 ag e3 ⟨qs, h1, h2, h3⟩
    have hl : ρ1.length = 4 := ag.1
    have a0 := ag.lk 0 (by decide) (x := some (eL ds)) rfl
    have a1 := ag.lk 1 (by decide) (x := some (.int (most : Nat))) rfl
    have ad : opAdd (.int 1) (.int (k : Nat)) = some (.int ((1 + k : Nat) : Int)) := by rw [p_add]; congr 2
    have ix := ix_eL (ds := ds) (k := 1 + k) (by omega)
    have mo := mod_n (a := ds.getD (1 + k) 0) b0
    have mlt := Nat.mod_lt (ds.getD (1 + k) 0) b0
    generalize ds.getD (1 + k) 0 % b = y at mo mlt
    have ad2 : opAdd (.int 1) (.int (y : Nat)) = some (.int ((1 + y : Nat) : Int)) := by rw [p_add]; congr 2
    have ap := add_eI qs (1 + y) (by omega)
    refine ⟨st ρ1 2 (eI (qs ++ [1 + y])), ?_, ag.st (by decide), qs ++ [1 + y], by simp [h1], fun p hp => ?_, by rw [lk_st_i (by omega)]⟩
    · simp only [m_law_bells_b1, bnd_some, bnd_none, p_dc, p_dv, lk_z, lk_s, st_z, st_s, un_z, un_s, wipe_n, wipe_c, p_d2, p_d1, p_dnil, p_dcons, p_dL, p_asB, p_asI, p_asL, p_asSeqL, p_asSeqT, p_bV, p_dB, p_bAnd, p_bOr, p_bNot, p_dIf, p_dAnd, p_dOr, p_dNot, p_dCh, p_bYes, p_gN, p_gT, p_gsNil, p_gsCons, p_dNx, p_dRet, p_dSet, p_dIfS, p_dAsg, p_dPar, p_dAug, p_dApp, p_dSetIx, p_nLst, p_nRep, p_nOf, p_dSetN, p_dParN1, p_dParNN, p_iSeq, p_iRng1, p_iRng2, p_oNo, p_oIx, p_dSl, p_asIx, p_opTup, p_opLst, p_lenT, p_lenL, p_lenS, p_tupT, p_tupL, p_add, p_sub, p_mul, p_lt, p_le, p_gt, p_ge, p_eqI, p_neI, p_isN, p_isnN, p_isB, p_isnB, p_isNone_n, p_isNone_i, p_isNone_t, p_isNone_l, p_appL, p_appT, b_mc, b_mn, b_ac, b_an, b_rs, b_rz, b_lc, b_ln, b_it, b_if, b_itt, b_iff, p_dSeq, p_eqB, p_neB, len_eT, len_eR, len_eV, isNone_eO, seq_eT, seq_eR, seq_eV, seq_eL, eO_some, eO_none, len_eL, p_dOrT, ↓p_eqN, ↓p_neN, ↓p_ltN, ↓p_leN, ↓p_gtN, ↓p_geN, h3, a0, a1, e3, ↓ad, ix, d7, m3, eb, mo, ↓ad2, ap, Nat.reduceAdd, Nat.reduceLeDiff]
    · rcases List.mem_append.mp hp with z | z
      · exact h2 p z
      · rw [List.mem_singleton.mp z]
        omega)
  have f := (for_eq (it := iRng1 (dcons (d2 opAdd (dc (.int 1)) (d2 opMod (d2 opIx (dv 0) (dc (.int 0))) (dc (.int 5)))) dnil)) (ρ := st [some (eL ds), some (.int (most : Nat)), none, none] 2 (.tup [])) (by simp only [bnd_some, bnd_none, p_dc, p_dv, lk_z, lk_s, st_z, st_s, un_z, un_s, wipe_n, wipe_c, p_d2, p_d1, p_dnil, p_dcons, p_dL, p_asB, p_asI, p_asL, p_asSeqL, p_asSeqT, p_bV, p_dB, p_bAnd, p_bOr, p_bNot, p_dIf, p_dAnd, p_dOr, p_dNot, p_dCh, p_bYes, p_gN, p_gT, p_gsNil, p_gsCons, p_dNx, p_dRet, p_dSet, p_dIfS, p_dAsg, p_dPar, p_dAug, p_dApp, p_dSetIx, p_nLst, p_nRep, p_nOf, p_dSetN, p_dParN1, p_dParNN, p_iSeq, p_iRng1, p_iRng2, p_oNo, p_oIx, p_dSl, p_asIx, p_opTup, p_opLst, p_lenT, p_lenL, p_lenS, p_tupT, p_tupL, p_add, p_sub, p_mul, p_lt, p_le, p_gt, p_ge, p_eqI, p_neI, p_isN, p_isnN, p_isB, p_isnB, p_isNone_n, p_isNone_i, p_isNone_t, p_isNone_l, p_appL, p_appT, b_mc, b_mn, b_ac, b_an, b_rs, b_rz, b_lc, b_ln, b_it, b_if, b_itt, b_iff, p_dSeq, p_eqB, p_neB, len_eT, len_eR, len_eV, isNone_eO, seq_eT, seq_eR, seq_eV, seq_eL, eO_some, eO_none, len_eL, p_dOrT, ↓p_eqN, ↓p_neN, ↓p_ltN, ↓p_leN, ↓p_gtN, ↓p_geN, d0, en, rng1 (n := n) (by omega)])).trans q1
  refine ⟨qs, ⟨by omega, by omega, q3⟩, run_rt rfl ?_⟩
  simp only [bnd_some, bnd_none, p_dc, p_dv, lk_z, lk_s, st_z, st_s, un_z, un_s, wipe_n, wipe_c, p_d2, p_d1, p_dnil, p_dcons, p_dL, p_asB, p_asI, p_asL, p_asSeqL, p_asSeqT, p_bV, p_dB, p_bAnd, p_bOr, p_bNot, p_dIf, p_dAnd, p_dOr, p_dNot, p_dCh, p_bYes, p_gN, p_gT, p_gsNil, p_gsCons, p_dNx, p_dRet, p_dSet, p_dIfS, p_dAsg, p_dPar, p_dAug, p_dApp, p_dSetIx, p_nLst, p_nRep, p_nOf, p_dSetN, p_dParN1, p_dParNN, p_iSeq, p_iRng1, p_iRng2, p_oNo, p_oIx, p_dSl, p_asIx, p_opTup, p_opLst, p_lenT, p_lenL, p_lenS, p_tupT, p_tupL, p_add, p_sub, p_mul, p_lt, p_le, p_gt, p_ge, p_eqI, p_neI, p_isN, p_isnN, p_isB, p_isnB, p_isNone_n, p_isNone_i, p_isNone_t, p_isNone_l, p_appL, p_appT, b_mc, b_mn, b_ac, b_an, b_rs, b_rz, b_lc, b_ln, b_it, b_if, b_itt, b_iff, p_dSeq, p_eqB, p_neB, len_eT, len_eR, len_eV, isNone_eO, seq_eT, seq_eR, seq_eV, seq_eL, eO_some, eO_none, len_eL, p_dOrT, ↓p_eqN, ↓p_neN, ↓p_ltN, ↓p_leN, ↓p_gtN, ↓p_geN] at f
  simp only [bnd_some, bnd_none, p_dc, p_dv, lk_z, lk_s, st_z, st_s, un_z, un_s, wipe_n, wipe_c, p_d2, p_d1, p_dnil, p_dcons, p_dL, p_asB, p_asI, p_asL, p_asSeqL, p_asSeqT, p_bV, p_dB, p_bAnd, p_bOr, p_bNot, p_dIf, p_dAnd, p_dOr, p_dNot, p_dCh, p_bYes, p_gN, p_gT, p_gsNil, p_gsCons, p_dNx, p_dRet, p_dSet, p_dIfS, p_dAsg, p_dPar, p_dAug, p_dApp, p_dSetIx, p_nLst, p_nRep, p_nOf, p_dSetN, p_dParN1, p_dParNN, p_iSeq, p_iRng1, p_iRng2, p_oNo, p_oIx, p_dSl, p_asIx, p_opTup, p_opLst, p_lenT, p_lenL, p_lenS, p_tupT, p_tupL, p_add, p_sub, p_mul, p_lt, p_le, p_gt, p_ge, p_eqI, p_neI, p_isN, p_isnN, p_isB, p_isnB, p_isNone_n, p_isNone_i, p_isNone_t, p_isNone_l, p_appL, p_appT, b_mc, b_mn, b_ac, b_an, b_rs, b_rz, b_lc, b_ln, b_it, b_if, b_itt, b_iff, p_dSeq, p_eqB, p_neB, len_eT, len_eR, len_eV, isNone_eO, seq_eT, seq_eR, seq_eV, seq_eL, eO_some, eO_none, len_eL, p_dOrT, ↓p_eqN, ↓p_neN, ↓p_ltN, ↓p_leN, ↓p_gtN, ↓p_geN, Nat.reduceSub, Nat.zero_le, f, q4]
end Mi
namespace Mi
open DL
end Mi
namespace Mi
open DL
end Mi
namespace Mi
open DL
section
variable {m w M : Nat} {T : Nat → Nat → Option Nat} {r : Nat}
theorem neN_refl (x : Nat) : opNe (.int (x : Nat)) (.int (x : Nat)) = some (.bl false) := by
  have := p_neN x x
  rw [decide_eq_true rfl] at this
  exact this
end
end Mi
namespace Mi
open DL
theorem RingAt.any {ps : List Nat} {idx t : Nat} (h : RingAt ps idx t) : anyR ps t = true ∧ upTo (anyR ps) (t + 1) = idx + 1 ∧ upTo (anyR ps) t = idx := by
  obtain ⟨h1, h2⟩ := h
  have := upTo_succ (anyR ps) t
  cases z : anyR ps t with
  | true =>
    rw [z, if_pos rfl] at this
    exact ⟨rfl, by omega, by omega⟩
  | false =>
    rw [z, if_neg Bool.false_ne_true] at this
    omega
def ringL (ps : List Nat) (x : Nat) : List Nat := (List.range ps.length).filter fun a => decide (x % ps.getD a 0 = 0)
theorem ringL_len (ps : List Nat) (x : Nat) : (ringL ps x).length = ringN ps x := ring_len ps x
theorem ringing_e {ps : List Nat} (h : Pds ps) (x : Nat) : m_law_ringing [eI ps, .int (x : Nat)] = some (eI (ringL ps x)) := by
  have en : iEn (dcons (dv 0) dnil) [some (eI ps), some (.int (x : Nat)), none, none] = some ((List.range ps.length).map fun a => .tup [.int (a : Nat), .int (ps.getD a 0 : Nat)]) := by
    have e : eI ps = .tup ((List.range ps.length).map fun a => D.int (ps.getD a 0 : Nat)) := by
      rw [eI_eV rfl]
      rfl
    rw [p_iEnT (xs := (List.range ps.length).map fun a => D.int (ps.getD a 0 : Nat)) (by rw [← e]; rfl), enum_range]
  have h5 := h.five
  have c1 : m_law_ringing_c1 [some (eI ps), some (.int (x : Nat)), none, none] = some (.lst ((ringL ps x).map fun a => D.int (a : Nat))) := by
    unfold m_law_ringing_c1 ringL
    rw [comp_if (fun a : Nat => .tup [.int (a : Nat), .int (ps.getD a 0 : Nat)]) (fun a => decide (x % ps.getD a 0 = 0)) (fun a => D.int (a : Nat)) (List.range ps.length) en (by simp; omega) (by
      intro a ha
      have ha := List.mem_range.mp ha
      have pb := h.bd (ps.getD a 0) (by rw [List.getD_eq_getElem?_getD, List.getElem?_eq_getElem ha]; exact List.getElem_mem ha)
      have oi : opInt [.int (x : Nat)] = some (.int (x : Nat)) := rfl
      have mo := mod_n (a := x) pb.1
      have eq : opEq (.int ((x % ps.getD a 0 : Nat) : Int)) (.int 0) = some (.bl (decide (x % ps.getD a 0 = 0))) := p_eqN _ 0
      generalize ps.getD a 0 = p at mo eq
      refine ⟨_, by simp only [bnd_some, bnd_none, p_dc, p_dv, lk_z, lk_s, st_z, st_s, un_z, un_s, wipe_n, wipe_c, p_d2, p_d1, p_dnil, p_dcons, p_dL, p_asB, p_asI, p_asL, p_asSeqL, p_asSeqT, p_bV, p_dB, p_bAnd, p_bOr, p_bNot, p_dIf, p_dAnd, p_dOr, p_dNot, p_dCh, p_bYes, p_gN, p_gT, p_gsNil, p_gsCons, p_dNx, p_dRet, p_dSet, p_dIfS, p_dAsg, p_dPar, p_dAug, p_dApp, p_dSetIx, p_nLst, p_nRep, p_nOf, p_dSetN, p_dParN1, p_dParNN, p_iSeq, p_iRng1, p_iRng2, p_oNo, p_oIx, p_dSl, p_asIx, p_opTup, p_opLst, p_lenT, p_lenL, p_lenS, p_tupT, p_tupL, p_add, p_sub, p_mul, p_lt, p_le, p_gt, p_ge, p_eqI, p_neI, p_isN, p_isnN, p_isB, p_isnB, p_isNone_n, p_isNone_i, p_isNone_t, p_isNone_l, p_appL, p_appT, b_mc, b_mn, b_ac, b_an, b_rs, b_rz, b_lc, b_ln, b_it, b_if, b_itt, b_iff, p_dSeq, p_eqB, p_neB, len_eT, len_eR, len_eV, isNone_eO, seq_eT, seq_eR, seq_eV, seq_eL, eO_some, eO_none, len_eL, p_dOrT, ↓p_eqN, ↓p_neN, ↓p_ltN, ↓p_leN, ↓p_gtN, ↓p_geN]; rfl, ?_, fun _ => ?_⟩
      · simp only [bnd_some, bnd_none, p_dc, p_dv, lk_z, lk_s, st_z, st_s, un_z, un_s, wipe_n, wipe_c, p_d2, p_d1, p_dnil, p_dcons, p_dL, p_asB, p_asI, p_asL, p_asSeqL, p_asSeqT, p_bV, p_dB, p_bAnd, p_bOr, p_bNot, p_dIf, p_dAnd, p_dOr, p_dNot, p_dCh, p_bYes, p_gN, p_gT, p_gsNil, p_gsCons, p_dNx, p_dRet, p_dSet, p_dIfS, p_dAsg, p_dPar, p_dAug, p_dApp, p_dSetIx, p_nLst, p_nRep, p_nOf, p_dSetN, p_dParN1, p_dParNN, p_iSeq, p_iRng1, p_iRng2, p_oNo, p_oIx, p_dSl, p_asIx, p_opTup, p_opLst, p_lenT, p_lenL, p_lenS, p_tupT, p_tupL, p_add, p_sub, p_mul, p_lt, p_le, p_gt, p_ge, p_eqI, p_neI, p_isN, p_isnN, p_isB, p_isnB, p_isNone_n, p_isNone_i, p_isNone_t, p_isNone_l, p_appL, p_appT, b_mc, b_mn, b_ac, b_an, b_rs, b_rz, b_lc, b_ln, b_it, b_if, b_itt, b_iff, p_dSeq, p_eqB, p_neB, len_eT, len_eR, len_eV, isNone_eO, seq_eT, seq_eR, seq_eV, seq_eL, eO_some, eO_none, len_eL, p_dOrT, ↓p_eqN, ↓p_neN, ↓p_ltN, ↓p_leN, ↓p_gtN, ↓p_geN, lk_st_o, lk_st_i, lk_un_o, len_st, len_un, Nat.reduceBEq, Nat.reduceLT, oi, mo, ↓eq]
      · simp only [bnd_some, bnd_none, p_dc, p_dv, lk_z, lk_s, st_z, st_s, un_z, un_s, wipe_n, wipe_c, p_d2, p_d1, p_dnil, p_dcons, p_dL, p_asB, p_asI, p_asL, p_asSeqL, p_asSeqT, p_bV, p_dB, p_bAnd, p_bOr, p_bNot, p_dIf, p_dAnd, p_dOr, p_dNot, p_dCh, p_bYes, p_gN, p_gT, p_gsNil, p_gsCons, p_dNx, p_dRet, p_dSet, p_dIfS, p_dAsg, p_dPar, p_dAug, p_dApp, p_dSetIx, p_nLst, p_nRep, p_nOf, p_dSetN, p_dParN1, p_dParNN, p_iSeq, p_iRng1, p_iRng2, p_oNo, p_oIx, p_dSl, p_asIx, p_opTup, p_opLst, p_lenT, p_lenL, p_lenS, p_tupT, p_tupL, p_add, p_sub, p_mul, p_lt, p_le, p_gt, p_ge, p_eqI, p_neI, p_isN, p_isnN, p_isB, p_isnB, p_isNone_n, p_isNone_i, p_isNone_t, p_isNone_l, p_appL, p_appT, b_mc, b_mn, b_ac, b_an, b_rs, b_rz, b_lc, b_ln, b_it, b_if, b_itt, b_iff, p_dSeq, p_eqB, p_neB, len_eT, len_eR, len_eV, isNone_eO, seq_eT, seq_eR, seq_eV, seq_eL, eO_some, eO_none, len_eL, p_dOrT, ↓p_eqN, ↓p_neN, ↓p_ltN, ↓p_leN, ↓p_gtN, ↓p_geN, lk_st_o, lk_st_i, lk_un_o, len_st, len_un, Nat.reduceBEq, Nat.reduceLT])]
  refine run_rt rfl ?_
  have tl : ∀ l : List D, opTuple [.lst l] = some (.tup l) := fun l => rfl
  simp only [bnd_some, bnd_none, p_dc, p_dv, lk_z, lk_s, st_z, st_s, un_z, un_s, wipe_n, wipe_c, p_d2, p_d1, p_dnil, p_dcons, p_dL, p_asB, p_asI, p_asL, p_asSeqL, p_asSeqT, p_bV, p_dB, p_bAnd, p_bOr, p_bNot, p_dIf, p_dAnd, p_dOr, p_dNot, p_dCh, p_bYes, p_gN, p_gT, p_gsNil, p_gsCons, p_dNx, p_dRet, p_dSet, p_dIfS, p_dAsg, p_dPar, p_dAug, p_dApp, p_dSetIx, p_nLst, p_nRep, p_nOf, p_dSetN, p_dParN1, p_dParNN, p_iSeq, p_iRng1, p_iRng2, p_oNo, p_oIx, p_dSl, p_asIx, p_opTup, p_opLst, p_lenT, p_lenL, p_lenS, p_tupT, p_tupL, p_add, p_sub, p_mul, p_lt, p_le, p_gt, p_ge, p_eqI, p_neI, p_isN, p_isnN, p_isB, p_isnB, p_isNone_n, p_isNone_i, p_isNone_t, p_isNone_l, p_appL, p_appT, b_mc, b_mn, b_ac, b_an, b_rs, b_rz, b_lc, b_ln, b_it, b_if, b_itt, b_iff, p_dSeq, p_eqB, p_neB, len_eT, len_eR, len_eV, isNone_eO, seq_eT, seq_eR, seq_eV, seq_eL, eO_some, eO_none, len_eL, p_dOrT, ↓p_eqN, ↓p_neN, ↓p_ltN, ↓p_leN, ↓p_gtN, ↓p_geN, Nat.reduceSub, c1, tl]
  rfl
theorem eqd_eI (a b : List Nat) : opEq (eI a) (eI b) = some (.bl (decide (a = b))) := by rw [opEq_ok (ok_eI 59 a) (ok_eI 59 b), eq_eI]
theorem ned_eI (a b : List Nat) : opNe (eI a) (eI b) = some (.bl (!decide (a = b))) := by rw [opNe_ok (ok_eI 59 a) (ok_eI 59 b), eq_eI]
end Mi
namespace Mi
open DL
theorem sub_nn {a b : Nat} (h : b ≤ a) : opSub (.int (a : Nat)) (.int (b : Nat)) = some (.int ((a - b : Nat) : Int)) := by rw [p_sub, show ((a : Nat) : Int) - (b : Int) = ((a - b : Nat) : Int) by omega]
end Mi
namespace Mi
open DL
theorem valI_put (kvs : KVI) (k : List Int) (v : Int) (k' : List Int) : valI (putI kvs k v) k' = if k' = k then some v else valI kvs k' := by
  have gen : ∀ L : KVI, (L.map fun p => if p.1 = k then (p.1, v) else p).find? (fun p => decide (p.1 = k')) = (L.find? fun p => decide (p.1 = k')).map fun p => if p.1 = k then (p.1, v) else p := by
    intro L
    induction L with
    | nil => rfl
    | cons p r ih =>
      have e1 : (if p.1 = k then (p.1, v) else p).1 = p.1 := by split <;> rfl
      rw [List.map_cons, List.find?_cons, List.find?_cons, e1]
      cases decide (p.1 = k') with
      | true => rfl
      | false => exact ih
  unfold putI
  split
  · rename_i h
    unfold valI
    rw [gen]
    by_cases z : k' = k
    · rw [if_pos z]
      obtain ⟨p, hp, e⟩ := List.any_eq_true.mp h
      have e := of_decide_eq_true e
      have fs : (kvs.find? fun p => decide (p.1 = k')).isSome = true := List.find?_isSome.mpr ⟨p, hp, decide_eq_true (by rw [z]; exact e)⟩
      obtain ⟨q, hq⟩ := Option.isSome_iff_exists.mp fs
      have hq2 : q.1 = k' := of_decide_eq_true (List.find?_some (p := fun p : List Int × Int => decide (p.1 = k')) hq)
      rw [hq]
      show some (if q.1 = k then (q.1, v) else q).2 = _
      rw [if_pos (by rw [hq2, z])]
    · rw [if_neg z]
      cases hq : kvs.find? fun p => decide (p.1 = k') with
      | none => rfl
      | some q =>
        have hq2 : q.1 = k' := of_decide_eq_true (List.find?_some (p := fun p : List Int × Int => decide (p.1 = k')) hq)
        show some (if q.1 = k then (q.1, v) else q).2 = some q.2
        rw [if_neg (by rw [hq2]; exact z)]
  · rename_i h
    unfold valI
    rw [List.find?_append]
    by_cases z : k' = k
    · rw [if_pos z]
      have : kvs.find? (fun p => decide (p.1 = k')) = none := List.find?_eq_none.mpr fun p hp e => h (List.any_eq_true.mpr ⟨p, hp, by rw [← z]; exact e⟩)
      rw [this]
      subst z
      simp [List.find?_cons]
    · rw [if_neg z]
      have : ([(k, v)] : KVI).find? (fun p => decide (p.1 = k')) = none := List.find?_eq_none.mpr fun p hp e => by
        rw [List.mem_singleton.mp hp] at e
        exact z (of_decide_eq_true e).symm
      rw [this, Option.or_none]
abbrev ki (S : List Nat) : List Int := S.map fun n : Nat => (n : Int)
theorem ki_inj : ∀ {a b : List Nat}, ki a = ki b → a = b
  | [], [], _ => rfl
  | [], _ :: _, h => by cases h
  | _ :: _, [], h => by cases h
  | x :: a, y :: b, h => by
    rw [ki, ki, List.map_cons, List.map_cons, List.cons.injEq] at h
    rw [ki_inj (a := a) (b := b) h.2, Int.ofNat.inj h.1]
theorem key_eI (S : List Nat) : asKey (eI S) = some (ki S) := asInts_map _ S
/-- what the dict holds behind j times -/
def Firsts (ps : List Nat) (low j : Nat) (kvs : KVI) : Prop := kvs.length ≤ j ∧ ∀ S : List Nat, (valI kvs (ki S) = none ∧ ∀ i, i < j → ringL ps (low + i) ≠ S) ∨ ∃ i, i < j ∧ valI kvs (ki S) = some ((low + i : Nat) : Int) ∧ ringL ps (low + i) = S ∧ ∀ i', i' < i → ringL ps (low + i') ≠ S
theorem putI_len (kvs : KVI) (k : List Int) (v : Int) : (putI kvs k v).length ≤ kvs.length + 1 := by
  unfold putI
  split
  · rw [List.length_map]; omega
  · rw [List.length_append]; simp
theorem Firsts.step {ps : List Nat} {low j : Nat} {kvs : KVI} (h : Firsts ps low j kvs) : Firsts ps low (j + 1) (putI kvs (ki (ringL ps (low + j))) ((valI kvs (ki (ringL ps (low + j)))).getD ((low + j : Nat) : Int))) := by
  refine ⟨Nat.le_trans (putI_len _ _ _) (by have := h.1; omega), fun S => ?_⟩
  rw [valI_put]
  by_cases z : ki S = ki (ringL ps (low + j))
  · rw [if_pos z]
    have z := ki_inj z
    subst z
    right
    rcases h.2 (ringL ps (low + j)) with ⟨h1, h2⟩ | ⟨i, h1, h2, h3, h4⟩
    · rw [h1]
      exact ⟨j, Nat.lt_succ_self _, rfl, rfl, h2⟩
    · rw [h2]
      exact ⟨i, by omega, rfl, h3, h4⟩
  · rw [if_neg z]
    have zn : ringL ps (low + j) ≠ S := fun e => z (by rw [e])
    rcases h.2 S with ⟨h1, h2⟩ | ⟨i, h1, h2, h3, h4⟩
    · refine .inl ⟨h1, fun i hi => ?_⟩
      by_cases e : i = j
      · rw [e]; exact zn
      · exact h2 i (by omega)
    · exact .inr ⟨i, by omega, h2, h3, h4⟩
theorem for3_seg {g : DG} {b : D3} (e : Nat → D) (P : Nat → Rho → KVI → Prop) : ∀ (m k : Nat) (ρ : Rho) (kvs : KVI), P k ρ kvs → (∀ i, i < k + m → ∀ ρ kvs, P i ρ kvs → ∃ ρ1, g (e i) ρ = some ρ1 ∧ ∃ r, b ρ1 kvs = some r ∧ P (i + 1) r.1 r.2) →
    ∃ r, for3 g b ((List.range' k m).map e) ρ kvs = some r ∧ P (k + m) r.1 r.2
  | 0, k, ρ, kvs, h, _ => ⟨(ρ, kvs), rfl, h⟩
  | m + 1, k, ρ, kvs, h, hb => by
    obtain ⟨ρ1, e1, r1, e2, h2⟩ := hb k (by omega) ρ kvs h
    obtain ⟨r, e3, h3⟩ := for3_seg e P m (k + 1) r1.1 r1.2 h2 fun i hi => hb i (by omega)
    refine ⟨r, ?_, by rw [show k + (m + 1) = k + 1 + m by omega]; exact h3⟩
    rw [List.range'_succ, List.map_cons]
    unfold for3
    rw [e1]
    show (b ρ1 kvs).bind _ = _
    rw [e2]
    exact e3
theorem for3_range {g : DG} {b : D3} (e : Nat → D) (P : Nat → Rho → KVI → Prop) (n : Nat) {ρ : Rho} (h : P 0 ρ []) (hb : ∀ i, i < n → ∀ ρ kvs, P i ρ kvs → ∃ ρ1, g (e i) ρ = some ρ1 ∧ ∃ r, b ρ1 kvs = some r ∧ P (i + 1) r.1 r.2) :
    ∃ r, for3 g b ((List.range n).map e) ρ [] = some r ∧ P n r.1 r.2 := by
  obtain ⟨r, h1, h2⟩ := for3_seg e P n 0 ρ [] h fun i hi => hb i (by omega)
  rw [← List.range_eq_range'] at h1
  exact ⟨r, h1, by simpa using h2⟩
/-- the dict's filling -/
theorem dic_m {ps : List Nat} (hp : Pds ps) {low : Nat} (hlow : low < 1000) {ρ : Rho} (hl : ρ.length = 15) (h3 : lk ρ 3 = some (eI ps)) (h5 : lk ρ 5 = some (.int (low : Nat))) :
    ∃ kvs, Firsts ps low 500 kvs ∧ ∃ ρ', dDic 6 (c3For (iRng2 (dcons (dv 5) (dcons (d2 opAdd (dv 5) (dc (.int 500))) dnil))) (gN 7) m_k28_d1) ρ = some (.nx ρ') ∧ lk ρ' 6 = some (.ext (.dic kvs)) ∧ Ag [6, 7, 8] ρ ρ' := by
  have a500 : opAdd (.int (low : Nat)) (.int 500) = some (.int ((low + 500 : Nat) : Int)) := add_nn low 500
  have rg := rng2_m low 500 (by omega)
  obtain ⟨r, q, fs, hl2, a3, ag⟩ := for3_range (g := gN 7) (b := m_k28_d1) (fun i : Nat => D.int ((low + i : Nat) : Int)) (fun j ρ' kvs => Firsts ps low j kvs ∧ j ≤ 500 ∧ ρ'.length = 15 ∧ Ag [6, 7, 8] ρ ρ') 500 (ρ := un ρ 6) ⟨⟨Nat.le_refl 0, fun S => .inl ⟨rfl, fun i hi => absurd hi (Nat.not_lt_zero i)⟩⟩, by omega, by rw [len_un, hl], by rw [len_un], fun j hj => by
      rw [lk_un_ne]
      intro e
      rw [e] at hj
      exact hj (by decide)⟩ (by
    rintro i hi ρ1 kvs ⟨hf, _, hl1, ag⟩
    have b3 := ag.lk 3 (by decide) h3
    have rn := ringing_e hp (low + i)
    have hlen := hf.1
    refine ⟨st ρ1 7 (.int ((low + i : Nat) : Int)), rfl, (st (st ρ1 7 (.int ((low + i : Nat) : Int))) 8 (eI (ringL ps (low + i))), _), ?_, hf.step, by omega, by simp only [len_st, hl1], (ag.st (by decide)).st (by decide)⟩
    have s1 : c3Set 8 (dL m_law_ringing (dcons (dv 3) (dcons (dv 7) dnil))) (st ρ1 7 (.int ((low + i : Nat) : Int))) kvs = some (st (st ρ1 7 (.int ((low + i : Nat) : Int))) 8 (eI (ringL ps (low + i))), kvs) := by
      have : dL m_law_ringing (dcons (dv 3) (dcons (dv 7) dnil)) (st ρ1 7 (.int ((low + i : Nat) : Int))) = some (eI (ringL ps (low + i))) := by
        simp only [bnd_some, bnd_none, p_dc, p_dv, lk_z, lk_s, st_z, st_s, un_z, un_s, wipe_n, wipe_c, p_d2, p_d1, p_dnil, p_dcons, p_dL, p_asB, p_asI, p_asL, p_asSeqL, p_asSeqT, p_bV, p_dB, p_bAnd, p_bOr, p_bNot, p_dIf, p_dAnd, p_dOr, p_dNot, p_dCh, p_bYes, p_gN, p_gT, p_gsNil, p_gsCons, p_dNx, p_dRet, p_dSet, p_dIfS, p_dAsg, p_dPar, p_dAug, p_dApp, p_dSetIx, p_nLst, p_nRep, p_nOf, p_dSetN, p_dParN1, p_dParNN, p_iSeq, p_iRng1, p_iRng2, p_oNo, p_oIx, p_dSl, p_asIx, p_opTup, p_opLst, p_lenT, p_lenL, p_lenS, p_tupT, p_tupL, p_add, p_sub, p_mul, p_lt, p_le, p_gt, p_ge, p_eqI, p_neI, p_isN, p_isnN, p_isB, p_isnB, p_isNone_n, p_isNone_i, p_isNone_t, p_isNone_l, p_appL, p_appT, b_mc, b_mn, b_ac, b_an, b_rs, b_rz, b_lc, b_ln, b_it, b_if, b_itt, b_iff, p_dSeq, p_eqB, p_neB, len_eT, len_eR, len_eV, isNone_eO, seq_eT, seq_eR, seq_eV, seq_eL, eO_some, eO_none, len_eL, p_dOrT, ↓p_eqN, ↓p_neN, ↓p_ltN, ↓p_leN, ↓p_gtN, ↓p_geN, lk_st_o, lk_st_i, Nat.reduceBEq, Nat.reduceLT, hl1, b3, rn]
      unfold c3Set
      rw [this]
      rfl
    generalize hr : st (st ρ1 7 (.int ((low + i : Nat) : Int))) 8 (eI (ringL ps (low + i))) = ρ2 at s1
    have l8 : dv 8 ρ2 = some (eI (ringL ps (low + i))) := by
      rw [← hr]
      show lk _ 8 = _
      rw [lk_st_i (by rw [len_st]; omega)]
    have l7 : dv 7 ρ2 = some (.int ((low + i : Nat) : Int)) := by
      rw [← hr]
      show lk _ 7 = _
      rw [lk_st_o (by decide), lk_st_i (by omega)]
    have s2 : c3Put (dv 8) (dv 8) (dv 7) ρ2 kvs = some (ρ2, putI kvs (ki (ringL ps (low + i))) ((valI kvs (ki (ringL ps (low + i)))).getD ((low + i : Nat) : Int))) := by
      simp only [c3Put, l8, l7, Option.bind_some, key_eI, asI, if_pos (show kvs.length < 100000 by omega)]
    unfold m_k28_d1 c3Seq
    rw [s1]
    show ((c3Put (dv 8) (dv 8) (dv 7) ρ2 kvs).bind _) = _
    rw [s2]
    rfl)
  refine ⟨r.2, fs, st r.1 6 (.ext (.dic r.2)), ?_, by rw [lk_st_i (by omega)], ag.st (by decide)⟩
  unfold dDic
  rw [if_pos (by omega)]
  have e : c3For (iRng2 (dcons (dv 5) (dcons (d2 opAdd (dv 5) (dc (.int 500))) dnil))) (gN 7) m_k28_d1 (un ρ 6) [] = some r := by
    have : iRng2 (dcons (dv 5) (dcons (d2 opAdd (dv 5) (dc (.int 500))) dnil)) (un ρ 6) = some ((List.range 500).map fun i : Nat => D.int ((low + i : Nat) : Int)) := by
      simp only [bnd_some, bnd_none, p_dc, p_dv, lk_z, lk_s, st_z, st_s, un_z, un_s, wipe_n, wipe_c, p_d2, p_d1, p_dnil, p_dcons, p_dL, p_asB, p_asI, p_asL, p_asSeqL, p_asSeqT, p_bV, p_dB, p_bAnd, p_bOr, p_bNot, p_dIf, p_dAnd, p_dOr, p_dNot, p_dCh, p_bYes, p_gN, p_gT, p_gsNil, p_gsCons, p_dNx, p_dRet, p_dSet, p_dIfS, p_dAsg, p_dPar, p_dAug, p_dApp, p_dSetIx, p_nLst, p_nRep, p_nOf, p_dSetN, p_dParN1, p_dParNN, p_iSeq, p_iRng1, p_iRng2, p_oNo, p_oIx, p_dSl, p_asIx, p_opTup, p_opLst, p_lenT, p_lenL, p_lenS, p_tupT, p_tupL, p_add, p_sub, p_mul, p_lt, p_le, p_gt, p_ge, p_eqI, p_neI, p_isN, p_isnN, p_isB, p_isnB, p_isNone_n, p_isNone_i, p_isNone_t, p_isNone_l, p_appL, p_appT, b_mc, b_mn, b_ac, b_an, b_rs, b_rz, b_lc, b_ln, b_it, b_if, b_itt, b_iff, p_dSeq, p_eqB, p_neB, len_eT, len_eR, len_eV, isNone_eO, seq_eT, seq_eR, seq_eV, seq_eL, eO_some, eO_none, len_eL, p_dOrT, ↓p_eqN, ↓p_neN, ↓p_ltN, ↓p_leN, ↓p_gtN, ↓p_geN, lk_un_o, Nat.reduceBEq, h5, ↓a500, ↓rg]
    unfold c3For
    rw [this]
    exact q
  rw [e]
  rfl
def subL : Nat → List (List Nat)
  | 0 => [[]]
  | n + 1 => subL n ++ (subL n).map fun S => S ++ [n]
theorem subL_spec : ∀ n, (subL n).length = 2 ^ n ∧ ∀ S ∈ subL n, S.Pairwise (· < ·) ∧ (∀ i ∈ S, i < n) ∧ S.length ≤ n
  | 0 => ⟨rfl, fun S hS => by
    rw [List.mem_singleton.mp hS]
    exact ⟨List.Pairwise.nil, fun i hi => absurd hi List.not_mem_nil, Nat.le_refl 0⟩⟩
  | n + 1 => by
    obtain ⟨h1, h2⟩ := subL_spec n
    refine ⟨?_, fun S hS => ?_⟩
    · show (subL n ++ (subL n).map fun S => S ++ [n]).length = _
      rw [List.length_append, List.length_map, h1, Nat.pow_succ]
      omega
    · rcases List.mem_append.mp hS with z | z
      · obtain ⟨a, b, c⟩ := h2 S z
        exact ⟨a, fun i hi => by have := b i hi; omega, by omega⟩
      · obtain ⟨T, hT, rfl⟩ := List.mem_map.mp z
        obtain ⟨a, b, c⟩ := h2 T hT
        refine ⟨List.pairwise_append.mpr ⟨a, List.pairwise_singleton _ _, fun x hx y hy => ?_⟩, fun i hi => ?_, by simp; omega⟩
        · rw [List.mem_singleton.mp hy]
          exact b x hx
        · rcases List.mem_append.mp hi with q | q
          · have := b i q; omega
          · rw [List.mem_singleton.mp q]; omega
theorem sets2_m {n : Nat} (hn : n ≤ 5) : m_law_sets_2 [.int (n : Nat)] = some (.lst ((subL n).map eI)) := by
  obtain ⟨ρ', q1, ag, q2⟩ := for_agP (b := m_law_sets_2_b1) (i := 2) (n := n) (ws := [2, 1]) (ρ := st [some (.int (n : Nat)), none, none, none] 1 (.lst [.tup []])) (fun i : Nat => D.int i) (fun k ρ' => k ≤ n ∧ lk ρ' 1 = some (.lst ((subL k).map eI))) (by decide) (show 2 < 4 by decide) ⟨Nat.zero_le _, rfl⟩ (fun k ρ' d q => by rw [lk_st_o (by decide)]; exact q) (by
    rintro k hk ρ1 ag e2 ⟨_, h1⟩
    have hl : ρ1.length = 4 := ag.1
    obtain ⟨len, sp⟩ := subL_spec k
    have kb : (subL k).length ≤ 32 := by rw [len]; exact Nat.le_trans (Nat.pow_le_pow_right (by decide) (by omega : k ≤ 5)) (by decide)
    have c1 : m_law_sets_2_c1 ρ1 = some (.lst ((subL k).map fun S => eI (S ++ [k]))) := by
      unfold m_law_sets_2_c1
      refine comp_all eI _ (subL k) (by simp only [bnd_some, bnd_none, p_dc, p_dv, lk_z, lk_s, st_z, st_s, un_z, un_s, wipe_n, wipe_c, p_d2, p_d1, p_dnil, p_dcons, p_dL, p_asB, p_asI, p_asL, p_asSeqL, p_asSeqT, p_bV, p_dB, p_bAnd, p_bOr, p_bNot, p_dIf, p_dAnd, p_dOr, p_dNot, p_dCh, p_bYes, p_gN, p_gT, p_gsNil, p_gsCons, p_dNx, p_dRet, p_dSet, p_dIfS, p_dAsg, p_dPar, p_dAug, p_dApp, p_dSetIx, p_nLst, p_nRep, p_nOf, p_dSetN, p_dParN1, p_dParNN, p_iSeq, p_iRng1, p_iRng2, p_oNo, p_oIx, p_dSl, p_asIx, p_opTup, p_opLst, p_lenT, p_lenL, p_lenS, p_tupT, p_tupL, p_add, p_sub, p_mul, p_lt, p_le, p_gt, p_ge, p_eqI, p_neI, p_isN, p_isnN, p_isB, p_isnB, p_isNone_n, p_isNone_i, p_isNone_t, p_isNone_l, p_appL, p_appT, b_mc, b_mn, b_ac, b_an, b_rs, b_rz, b_lc, b_ln, b_it, b_if, b_itt, b_iff, p_dSeq, p_eqB, p_neB, len_eT, len_eR, len_eV, isNone_eO, seq_eT, seq_eR, seq_eV, seq_eL, eO_some, eO_none, len_eL, p_dOrT, ↓p_eqN, ↓p_neN, ↓p_ltN, ↓p_leN, ↓p_gtN, ↓p_geN, h1]) (by omega) ?_
      intro S hS
      have ad := add_eI S k (by have := (sp S hS).2.2; omega)
      refine ⟨_, rfl, ?_⟩
      simp only [bnd_some, bnd_none, p_dc, p_dv, lk_z, lk_s, st_z, st_s, un_z, un_s, wipe_n, wipe_c, p_d2, p_d1, p_dnil, p_dcons, p_dL, p_asB, p_asI, p_asL, p_asSeqL, p_asSeqT, p_bV, p_dB, p_bAnd, p_bOr, p_bNot, p_dIf, p_dAnd, p_dOr, p_dNot, p_dCh, p_bYes, p_gN, p_gT, p_gsNil, p_gsCons, p_dNx, p_dRet, p_dSet, p_dIfS, p_dAsg, p_dPar, p_dAug, p_dApp, p_dSetIx, p_nLst, p_nRep, p_nOf, p_dSetN, p_dParN1, p_dParNN, p_iSeq, p_iRng1, p_iRng2, p_oNo, p_oIx, p_dSl, p_asIx, p_opTup, p_opLst, p_lenT, p_lenL, p_lenS, p_tupT, p_tupL, p_add, p_sub, p_mul, p_lt, p_le, p_gt, p_ge, p_eqI, p_neI, p_isN, p_isnN, p_isB, p_isnB, p_isNone_n, p_isNone_i, p_isNone_t, p_isNone_l, p_appL, p_appT, b_mc, b_mn, b_ac, b_an, b_rs, b_rz, b_lc, b_ln, b_it, b_if, b_itt, b_iff, p_dSeq, p_eqB, p_neB, len_eT, len_eR, len_eV, isNone_eO, seq_eT, seq_eR, seq_eV, seq_eL, eO_some, eO_none, len_eL, p_dOrT, ↓p_eqN, ↓p_neN, ↓p_ltN, ↓p_leN, ↓p_gtN, ↓p_geN, lk_st_o, lk_st_i, lk_un_o, len_st, len_un, Nat.reduceBEq, Nat.reduceLT, hl, e2, Nat.reduceAdd, Nat.reduceLeDiff, ad]
    refine ⟨st ρ1 1 (.lst ((subL (k + 1)).map eI)), ?_, ag.st (by decide), by omega, by rw [lk_st_i (by omega)]⟩
    have ap : opAdd (.lst ((subL k).map eI)) (.lst ((subL k).map fun S => eI (S ++ [k]))) = some (.lst ((subL (k + 1)).map eI)) := by
      rw [p_appL, if_pos (by simp; omega)]
      show _ = some (D.lst ((subL k ++ (subL k).map fun S => S ++ [k]).map eI))
      rw [List.map_append, List.map_map]
      rfl
    simp only [m_law_sets_2_b1, bnd_some, bnd_none, p_dc, p_dv, lk_z, lk_s, st_z, st_s, un_z, un_s, wipe_n, wipe_c, p_d2, p_d1, p_dnil, p_dcons, p_dL, p_asB, p_asI, p_asL, p_asSeqL, p_asSeqT, p_bV, p_dB, p_bAnd, p_bOr, p_bNot, p_dIf, p_dAnd, p_dOr, p_dNot, p_dCh, p_bYes, p_gN, p_gT, p_gsNil, p_gsCons, p_dNx, p_dRet, p_dSet, p_dIfS, p_dAsg, p_dPar, p_dAug, p_dApp, p_dSetIx, p_nLst, p_nRep, p_nOf, p_dSetN, p_dParN1, p_dParNN, p_iSeq, p_iRng1, p_iRng2, p_oNo, p_oIx, p_dSl, p_asIx, p_opTup, p_opLst, p_lenT, p_lenL, p_lenS, p_tupT, p_tupL, p_add, p_sub, p_mul, p_lt, p_le, p_gt, p_ge, p_eqI, p_neI, p_isN, p_isnN, p_isB, p_isnB, p_isNone_n, p_isNone_i, p_isNone_t, p_isNone_l, p_appL, p_appT, b_mc, b_mn, b_ac, b_an, b_rs, b_rz, b_lc, b_ln, b_it, b_if, b_itt, b_iff, p_dSeq, p_eqB, p_neB, len_eT, len_eR, len_eV, isNone_eO, seq_eT, seq_eR, seq_eV, seq_eL, eO_some, eO_none, len_eL, p_dOrT, ↓p_eqN, ↓p_neN, ↓p_ltN, ↓p_leN, ↓p_gtN, ↓p_geN, h1, c1, ap])
  have f := (for_eq (it := iRng1 (dcons (dv 0) dnil)) (ρ := st [some (.int (n : Nat)), none, none, none] 1 (.lst [.tup []])) (by simp only [bnd_some, bnd_none, p_dc, p_dv, lk_z, lk_s, st_z, st_s, un_z, un_s, wipe_n, wipe_c, p_d2, p_d1, p_dnil, p_dcons, p_dL, p_asB, p_asI, p_asL, p_asSeqL, p_asSeqT, p_bV, p_dB, p_bAnd, p_bOr, p_bNot, p_dIf, p_dAnd, p_dOr, p_dNot, p_dCh, p_bYes, p_gN, p_gT, p_gsNil, p_gsCons, p_dNx, p_dRet, p_dSet, p_dIfS, p_dAsg, p_dPar, p_dAug, p_dApp, p_dSetIx, p_nLst, p_nRep, p_nOf, p_dSetN, p_dParN1, p_dParNN, p_iSeq, p_iRng1, p_iRng2, p_oNo, p_oIx, p_dSl, p_asIx, p_opTup, p_opLst, p_lenT, p_lenL, p_lenS, p_tupT, p_tupL, p_add, p_sub, p_mul, p_lt, p_le, p_gt, p_ge, p_eqI, p_neI, p_isN, p_isnN, p_isB, p_isnB, p_isNone_n, p_isNone_i, p_isNone_t, p_isNone_l, p_appL, p_appT, b_mc, b_mn, b_ac, b_an, b_rs, b_rz, b_lc, b_ln, b_it, b_if, b_itt, b_iff, p_dSeq, p_eqB, p_neB, len_eT, len_eR, len_eV, isNone_eO, seq_eT, seq_eR, seq_eV, seq_eL, eO_some, eO_none, len_eL, p_dOrT, ↓p_eqN, ↓p_neN, ↓p_ltN, ↓p_leN, ↓p_gtN, ↓p_geN, rng1 (n := n) (by omega)])).trans q1
  refine run_rt rfl ?_
  simp only [bnd_some, bnd_none, p_dc, p_dv, lk_z, lk_s, st_z, st_s, un_z, un_s, wipe_n, wipe_c, p_d2, p_d1, p_dnil, p_dcons, p_dL, p_asB, p_asI, p_asL, p_asSeqL, p_asSeqT, p_bV, p_dB, p_bAnd, p_bOr, p_bNot, p_dIf, p_dAnd, p_dOr, p_dNot, p_dCh, p_bYes, p_gN, p_gT, p_gsNil, p_gsCons, p_dNx, p_dRet, p_dSet, p_dIfS, p_dAsg, p_dPar, p_dAug, p_dApp, p_dSetIx, p_nLst, p_nRep, p_nOf, p_dSetN, p_dParN1, p_dParNN, p_iSeq, p_iRng1, p_iRng2, p_oNo, p_oIx, p_dSl, p_asIx, p_opTup, p_opLst, p_lenT, p_lenL, p_lenS, p_tupT, p_tupL, p_add, p_sub, p_mul, p_lt, p_le, p_gt, p_ge, p_eqI, p_neI, p_isN, p_isnN, p_isB, p_isnB, p_isNone_n, p_isNone_i, p_isNone_t, p_isNone_l, p_appL, p_appT, b_mc, b_mn, b_ac, b_an, b_rs, b_rz, b_lc, b_ln, b_it, b_if, b_itt, b_iff, p_dSeq, p_eqB, p_neB, len_eT, len_eR, len_eV, isNone_eO, seq_eT, seq_eR, seq_eV, seq_eL, eO_some, eO_none, len_eL, p_dOrT, ↓p_eqN, ↓p_neN, ↓p_ltN, ↓p_leN, ↓p_gtN, ↓p_geN] at f
  simp only [bnd_some, bnd_none, p_dc, p_dv, lk_z, lk_s, st_z, st_s, un_z, un_s, wipe_n, wipe_c, p_d2, p_d1, p_dnil, p_dcons, p_dL, p_asB, p_asI, p_asL, p_asSeqL, p_asSeqT, p_bV, p_dB, p_bAnd, p_bOr, p_bNot, p_dIf, p_dAnd, p_dOr, p_dNot, p_dCh, p_bYes, p_gN, p_gT, p_gsNil, p_gsCons, p_dNx, p_dRet, p_dSet, p_dIfS, p_dAsg, p_dPar, p_dAug, p_dApp, p_dSetIx, p_nLst, p_nRep, p_nOf, p_dSetN, p_dParN1, p_dParNN, p_iSeq, p_iRng1, p_iRng2, p_oNo, p_oIx, p_dSl, p_asIx, p_opTup, p_opLst, p_lenT, p_lenL, p_lenS, p_tupT, p_tupL, p_add, p_sub, p_mul, p_lt, p_le, p_gt, p_ge, p_eqI, p_neI, p_isN, p_isnN, p_isB, p_isnB, p_isNone_n, p_isNone_i, p_isNone_t, p_isNone_l, p_appL, p_appT, b_mc, b_mn, b_ac, b_an, b_rs, b_rz, b_lc, b_ln, b_it, b_if, b_itt, b_iff, p_dSeq, p_eqB, p_neB, len_eT, len_eR, len_eV, isNone_eO, seq_eT, seq_eR, seq_eV, seq_eL, eO_some, eO_none, len_eL, p_dOrT, ↓p_eqN, ↓p_neN, ↓p_ltN, ↓p_leN, ↓p_gtN, ↓p_geN, Nat.reduceSub, Nat.reduceLeDiff, Nat.reduceAdd, Nat.zero_le, f, q2.2]
theorem law_long_m {ps S : List Nat} (h : Pds ps) (hS : ∀ i ∈ S, i < ps.length) (hl5 : S.length ≤ 5) : m_law_long [eI ps, eI S] = some (.tup [.int (lenS ps S : Nat), .bl (decide (∃ p ∈ othS ps S, p ∣ lenS ps S))]) := by
  have h5 := h.five
  have sp := lenS_spec h S.reverse S (by simp) hS
  have lb : lenS ps S ≤ 1000000000000000 := Nat.le_trans sp.2.1 (Nat.le_trans (Nat.pow_le_pow_right (by decide) hl5) (by decide))
  obtain ⟨ρ1, q1, ag1, e2⟩ := for_agPre (b := m_law_long_b1) (i := 3) (ws := [3, 2]) (ρ := st [some (eI ps), some (eI S), none, none, none, none] 2 (.int 1)) (fun i : Nat => D.int i) (fun pre ρ' => lk ρ' 2 = some (.int (lenS ps pre : Nat))) S (by decide) (show 3 < 6 by decide) rfl (fun pre ρ' d q => by rw [lk_st_o (by decide)]; exact q) (by
    intro pre i r' e ρ1 ag e3 e2
    have hl : ρ1.length = 6 := ag.1
    have a0 := ag.lk 0 (by decide) (x := some (eI ps)) rfl
    have hi : i < ps.length := hS i (by rw [e]; simp)
    have gb := getD_bd h hi
    have ix : opIx (eI ps) (.int (i : Nat)) = some (.int (ps.getD i 0)) := ix_eI hi
    have sp' := lenS_spec h pre.reverse pre (by simp) fun j hj => hS j (by rw [e]; simp only [List.mem_append]; exact .inl hj)
    have lm := llcm_m sp'.1 (b := ps.getD i 0) (by omega) (Nat.lt_of_le_of_lt (Nat.gcd_le_right _ gb.1) (by omega))
    refine ⟨st ρ1 2 (.int (lenS ps (pre ++ [i]) : Nat)), ?_, ag.st (by decide), by rw [lk_st_i (by omega)]⟩
    rw [lenS_snoc]
    simp only [m_law_long_b1, bnd_some, bnd_none, p_dc, p_dv, lk_z, lk_s, st_z, st_s, un_z, un_s, wipe_n, wipe_c, p_d2, p_d1, p_dnil, p_dcons, p_dL, p_asB, p_asI, p_asL, p_asSeqL, p_asSeqT, p_bV, p_dB, p_bAnd, p_bOr, p_bNot, p_dIf, p_dAnd, p_dOr, p_dNot, p_dCh, p_bYes, p_gN, p_gT, p_gsNil, p_gsCons, p_dNx, p_dRet, p_dSet, p_dIfS, p_dAsg, p_dPar, p_dAug, p_dApp, p_dSetIx, p_nLst, p_nRep, p_nOf, p_dSetN, p_dParN1, p_dParNN, p_iSeq, p_iRng1, p_iRng2, p_oNo, p_oIx, p_dSl, p_asIx, p_opTup, p_opLst, p_lenT, p_lenL, p_lenS, p_tupT, p_tupL, p_add, p_sub, p_mul, p_lt, p_le, p_gt, p_ge, p_eqI, p_neI, p_isN, p_isnN, p_isB, p_isnB, p_isNone_n, p_isNone_i, p_isNone_t, p_isNone_l, p_appL, p_appT, b_mc, b_mn, b_ac, b_an, b_rs, b_rz, b_lc, b_ln, b_it, b_if, b_itt, b_iff, p_dSeq, p_eqB, p_neB, len_eT, len_eR, len_eV, isNone_eO, seq_eT, seq_eR, seq_eV, seq_eL, eO_some, eO_none, len_eL, p_dOrT, ↓p_eqN, ↓p_neN, ↓p_ltN, ↓p_leN, ↓p_gtN, ↓p_geN, a0, e3, e2, ix, lm])
  have f1 := (for_eq (it := iSeq (dv 1)) (ds := S.map fun i : Nat => D.int i) (ρ := st [some (eI ps), some (eI S), none, none, none, none] 2 (.int 1)) (by simp only [bnd_some, bnd_none, p_dc, p_dv, lk_z, lk_s, st_z, st_s, un_z, un_s, wipe_n, wipe_c, p_d2, p_d1, p_dnil, p_dcons, p_dL, p_asB, p_asI, p_asL, p_asSeqL, p_asSeqT, p_bV, p_dB, p_bAnd, p_bOr, p_bNot, p_dIf, p_dAnd, p_dOr, p_dNot, p_dCh, p_bYes, p_gN, p_gT, p_gsNil, p_gsCons, p_dNx, p_dRet, p_dSet, p_dIfS, p_dAsg, p_dPar, p_dAug, p_dApp, p_dSetIx, p_nLst, p_nRep, p_nOf, p_dSetN, p_dParN1, p_dParNN, p_iSeq, p_iRng1, p_iRng2, p_oNo, p_oIx, p_dSl, p_asIx, p_opTup, p_opLst, p_lenT, p_lenL, p_lenS, p_tupT, p_tupL, p_add, p_sub, p_mul, p_lt, p_le, p_gt, p_ge, p_eqI, p_neI, p_isN, p_isnN, p_isB, p_isnB, p_isNone_n, p_isNone_i, p_isNone_t, p_isNone_l, p_appL, p_appT, b_mc, b_mn, b_ac, b_an, b_rs, b_rz, b_lc, b_ln, b_it, b_if, b_itt, b_iff, p_dSeq, p_eqB, p_neB, len_eT, len_eR, len_eV, isNone_eO, seq_eT, seq_eR, seq_eV, seq_eL, eO_some, eO_none, len_eL, p_dOrT, ↓p_eqN, ↓p_neN, ↓p_ltN, ↓p_leN, ↓p_gtN, ↓p_geN]; rfl)).trans q1
  have hl1 : ρ1.length = 6 := ag1.1
  have b0 := ag1.lk 0 (by decide) (x := some (eI ps)) rfl
  have b1 := ag1.lk 1 (by decide) (x := some (eI S)) rfl
  have en : iEn (dcons (dv 0) dnil) ρ1 = some ((List.range ps.length).map fun a => .tup [.int (a : Nat), .int (ps.getD a 0 : Nat)]) := by
    have e : eI ps = .tup ((List.range ps.length).map fun a => D.int (ps.getD a 0 : Nat)) := by
      rw [eI_eV rfl]
      rfl
    rw [p_iEnT (xs := (List.range ps.length).map fun a => D.int (ps.getD a 0 : Nat)) (by rw [← e]; simp only [bnd_some, bnd_none, p_dc, p_dv, lk_z, lk_s, st_z, st_s, un_z, un_s, wipe_n, wipe_c, p_d2, p_d1, p_dnil, p_dcons, p_dL, p_asB, p_asI, p_asL, p_asSeqL, p_asSeqT, p_bV, p_dB, p_bAnd, p_bOr, p_bNot, p_dIf, p_dAnd, p_dOr, p_dNot, p_dCh, p_bYes, p_gN, p_gT, p_gsNil, p_gsCons, p_dNx, p_dRet, p_dSet, p_dIfS, p_dAsg, p_dPar, p_dAug, p_dApp, p_dSetIx, p_nLst, p_nRep, p_nOf, p_dSetN, p_dParN1, p_dParNN, p_iSeq, p_iRng1, p_iRng2, p_oNo, p_oIx, p_dSl, p_asIx, p_opTup, p_opLst, p_lenT, p_lenL, p_lenS, p_tupT, p_tupL, p_add, p_sub, p_mul, p_lt, p_le, p_gt, p_ge, p_eqI, p_neI, p_isN, p_isnN, p_isB, p_isnB, p_isNone_n, p_isNone_i, p_isNone_t, p_isNone_l, p_appL, p_appT, b_mc, b_mn, b_ac, b_an, b_rs, b_rz, b_lc, b_ln, b_it, b_if, b_itt, b_iff, p_dSeq, p_eqB, p_neB, len_eT, len_eR, len_eV, isNone_eO, seq_eT, seq_eR, seq_eV, seq_eL, eO_some, eO_none, len_eL, p_dOrT, ↓p_eqN, ↓p_neN, ↓p_ltN, ↓p_leN, ↓p_gtN, ↓p_geN, b0]), enum_range]
  have c1 : m_law_long_c1 ρ1 = some (eL (othS ps S)) := by
    unfold m_law_long_c1
    rw [comp_if (fun a : Nat => .tup [.int (a : Nat), .int (ps.getD a 0 : Nat)]) (fun a => decide (a ∉ S)) (fun a => D.int (ps.getD a 0 : Nat)) (List.range ps.length) en (by simp; omega) (by
      intro a _
      have ni := notIn_eI a S
      refine ⟨_, by simp only [bnd_some, bnd_none, p_dc, p_dv, lk_z, lk_s, st_z, st_s, un_z, un_s, wipe_n, wipe_c, p_d2, p_d1, p_dnil, p_dcons, p_dL, p_asB, p_asI, p_asL, p_asSeqL, p_asSeqT, p_bV, p_dB, p_bAnd, p_bOr, p_bNot, p_dIf, p_dAnd, p_dOr, p_dNot, p_dCh, p_bYes, p_gN, p_gT, p_gsNil, p_gsCons, p_dNx, p_dRet, p_dSet, p_dIfS, p_dAsg, p_dPar, p_dAug, p_dApp, p_dSetIx, p_nLst, p_nRep, p_nOf, p_dSetN, p_dParN1, p_dParNN, p_iSeq, p_iRng1, p_iRng2, p_oNo, p_oIx, p_dSl, p_asIx, p_opTup, p_opLst, p_lenT, p_lenL, p_lenS, p_tupT, p_tupL, p_add, p_sub, p_mul, p_lt, p_le, p_gt, p_ge, p_eqI, p_neI, p_isN, p_isnN, p_isB, p_isnB, p_isNone_n, p_isNone_i, p_isNone_t, p_isNone_l, p_appL, p_appT, b_mc, b_mn, b_ac, b_an, b_rs, b_rz, b_lc, b_ln, b_it, b_if, b_itt, b_iff, p_dSeq, p_eqB, p_neB, len_eT, len_eR, len_eV, isNone_eO, seq_eT, seq_eR, seq_eV, seq_eL, eO_some, eO_none, len_eL, p_dOrT, ↓p_eqN, ↓p_neN, ↓p_ltN, ↓p_leN, ↓p_gtN, ↓p_geN]; rfl, ?_, fun _ => ?_⟩
      · simp only [bnd_some, bnd_none, p_dc, p_dv, lk_z, lk_s, st_z, st_s, un_z, un_s, wipe_n, wipe_c, p_d2, p_d1, p_dnil, p_dcons, p_dL, p_asB, p_asI, p_asL, p_asSeqL, p_asSeqT, p_bV, p_dB, p_bAnd, p_bOr, p_bNot, p_dIf, p_dAnd, p_dOr, p_dNot, p_dCh, p_bYes, p_gN, p_gT, p_gsNil, p_gsCons, p_dNx, p_dRet, p_dSet, p_dIfS, p_dAsg, p_dPar, p_dAug, p_dApp, p_dSetIx, p_nLst, p_nRep, p_nOf, p_dSetN, p_dParN1, p_dParNN, p_iSeq, p_iRng1, p_iRng2, p_oNo, p_oIx, p_dSl, p_asIx, p_opTup, p_opLst, p_lenT, p_lenL, p_lenS, p_tupT, p_tupL, p_add, p_sub, p_mul, p_lt, p_le, p_gt, p_ge, p_eqI, p_neI, p_isN, p_isnN, p_isB, p_isnB, p_isNone_n, p_isNone_i, p_isNone_t, p_isNone_l, p_appL, p_appT, b_mc, b_mn, b_ac, b_an, b_rs, b_rz, b_lc, b_ln, b_it, b_if, b_itt, b_iff, p_dSeq, p_eqB, p_neB, len_eT, len_eR, len_eV, isNone_eO, seq_eT, seq_eR, seq_eV, seq_eL, eO_some, eO_none, len_eL, p_dOrT, ↓p_eqN, ↓p_neN, ↓p_ltN, ↓p_leN, ↓p_gtN, ↓p_geN, lk_st_o, lk_st_i, lk_un_o, len_st, len_un, Nat.reduceBEq, Nat.reduceLT, hl1, b1, ↓ni]
      · simp only [bnd_some, bnd_none, p_dc, p_dv, lk_z, lk_s, st_z, st_s, un_z, un_s, wipe_n, wipe_c, p_d2, p_d1, p_dnil, p_dcons, p_dL, p_asB, p_asI, p_asL, p_asSeqL, p_asSeqT, p_bV, p_dB, p_bAnd, p_bOr, p_bNot, p_dIf, p_dAnd, p_dOr, p_dNot, p_dCh, p_bYes, p_gN, p_gT, p_gsNil, p_gsCons, p_dNx, p_dRet, p_dSet, p_dIfS, p_dAsg, p_dPar, p_dAug, p_dApp, p_dSetIx, p_nLst, p_nRep, p_nOf, p_dSetN, p_dParN1, p_dParNN, p_iSeq, p_iRng1, p_iRng2, p_oNo, p_oIx, p_dSl, p_asIx, p_opTup, p_opLst, p_lenT, p_lenL, p_lenS, p_tupT, p_tupL, p_add, p_sub, p_mul, p_lt, p_le, p_gt, p_ge, p_eqI, p_neI, p_isN, p_isnN, p_isB, p_isnB, p_isNone_n, p_isNone_i, p_isNone_t, p_isNone_l, p_appL, p_appT, b_mc, b_mn, b_ac, b_an, b_rs, b_rz, b_lc, b_ln, b_it, b_if, b_itt, b_iff, p_dSeq, p_eqB, p_neB, len_eT, len_eR, len_eV, isNone_eO, seq_eT, seq_eR, seq_eV, seq_eL, eO_some, eO_none, len_eL, p_dOrT, ↓p_eqN, ↓p_neN, ↓p_ltN, ↓p_leN, ↓p_gtN, ↓p_geN, lk_st_o, lk_st_i, lk_un_o, len_st, len_un, Nat.reduceBEq, Nat.reduceLT, hl1])]
    unfold eL othS
    rw [List.map_map]
    rfl
  have ob : ∀ p ∈ othS ps S, 0 < p ∧ p ≤ 1000 := fun p hp => by
    obtain ⟨i, hi, rfl⟩ := List.mem_map.mp hp
    exact getD_bd h (List.mem_range.mp (List.mem_filter.mp hi).1)
  have ol : (othS ps S).length ≤ 5 := by
    unfold othS
    rw [List.length_map]
    have := List.length_filter_le (fun i => decide (i ∉ S)) (List.range ps.length)
    rw [List.length_range] at this
    omega
  generalize othS ps S = os at *
  generalize lenS ps S = L at *
  have c2 : m_law_long_c2 (st ρ1 4 (eL os)) = some (.lst ((os.filter fun p => decide (L % p = 0)).map fun _ => D.int 1)) := by
    unfold m_law_long_c2
    refine comp_if (fun p : Nat => D.int p) _ _ os (by simp only [bnd_some, bnd_none, p_dc, p_dv, lk_z, lk_s, st_z, st_s, un_z, un_s, wipe_n, wipe_c, p_d2, p_d1, p_dnil, p_dcons, p_dL, p_asB, p_asI, p_asL, p_asSeqL, p_asSeqT, p_bV, p_dB, p_bAnd, p_bOr, p_bNot, p_dIf, p_dAnd, p_dOr, p_dNot, p_dCh, p_bYes, p_gN, p_gT, p_gsNil, p_gsCons, p_dNx, p_dRet, p_dSet, p_dIfS, p_dAsg, p_dPar, p_dAug, p_dApp, p_dSetIx, p_nLst, p_nRep, p_nOf, p_dSetN, p_dParN1, p_dParNN, p_iSeq, p_iRng1, p_iRng2, p_oNo, p_oIx, p_dSl, p_asIx, p_opTup, p_opLst, p_lenT, p_lenL, p_lenS, p_tupT, p_tupL, p_add, p_sub, p_mul, p_lt, p_le, p_gt, p_ge, p_eqI, p_neI, p_isN, p_isnN, p_isB, p_isnB, p_isNone_n, p_isNone_i, p_isNone_t, p_isNone_l, p_appL, p_appT, b_mc, b_mn, b_ac, b_an, b_rs, b_rz, b_lc, b_ln, b_it, b_if, b_itt, b_iff, p_dSeq, p_eqB, p_neB, len_eT, len_eR, len_eV, isNone_eO, seq_eT, seq_eR, seq_eV, seq_eL, eO_some, eO_none, len_eL, p_dOrT, ↓p_eqN, ↓p_neN, ↓p_ltN, ↓p_leN, ↓p_gtN, ↓p_geN, lk_st_i, hl1, Nat.reduceLT]) (by omega) ?_
    intro p hp
    have mo := mod_n (a := L) (ob p hp).1
    have eq : opEq (.int ((L % p : Nat) : Int)) (.int 0) = some (.bl (decide (L % p = 0))) := p_eqN _ 0
    refine ⟨_, rfl, ?_, fun _ => ?_⟩
    · simp only [bnd_some, bnd_none, p_dc, p_dv, lk_z, lk_s, st_z, st_s, un_z, un_s, wipe_n, wipe_c, p_d2, p_d1, p_dnil, p_dcons, p_dL, p_asB, p_asI, p_asL, p_asSeqL, p_asSeqT, p_bV, p_dB, p_bAnd, p_bOr, p_bNot, p_dIf, p_dAnd, p_dOr, p_dNot, p_dCh, p_bYes, p_gN, p_gT, p_gsNil, p_gsCons, p_dNx, p_dRet, p_dSet, p_dIfS, p_dAsg, p_dPar, p_dAug, p_dApp, p_dSetIx, p_nLst, p_nRep, p_nOf, p_dSetN, p_dParN1, p_dParNN, p_iSeq, p_iRng1, p_iRng2, p_oNo, p_oIx, p_dSl, p_asIx, p_opTup, p_opLst, p_lenT, p_lenL, p_lenS, p_tupT, p_tupL, p_add, p_sub, p_mul, p_lt, p_le, p_gt, p_ge, p_eqI, p_neI, p_isN, p_isnN, p_isB, p_isnB, p_isNone_n, p_isNone_i, p_isNone_t, p_isNone_l, p_appL, p_appT, b_mc, b_mn, b_ac, b_an, b_rs, b_rz, b_lc, b_ln, b_it, b_if, b_itt, b_iff, p_dSeq, p_eqB, p_neB, len_eT, len_eR, len_eV, isNone_eO, seq_eT, seq_eR, seq_eV, seq_eL, eO_some, eO_none, len_eL, p_dOrT, ↓p_eqN, ↓p_neN, ↓p_ltN, ↓p_leN, ↓p_gtN, ↓p_geN, lk_st_o, lk_st_i, lk_un_o, len_st, len_un, Nat.reduceBEq, Nat.reduceLT, hl1, e2, mo, ↓eq]
    · simp only [bnd_some, bnd_none, p_dc, p_dv, lk_z, lk_s, st_z, st_s, un_z, un_s, wipe_n, wipe_c, p_d2, p_d1, p_dnil, p_dcons, p_dL, p_asB, p_asI, p_asL, p_asSeqL, p_asSeqT, p_bV, p_dB, p_bAnd, p_bOr, p_bNot, p_dIf, p_dAnd, p_dOr, p_dNot, p_dCh, p_bYes, p_gN, p_gT, p_gsNil, p_gsCons, p_dNx, p_dRet, p_dSet, p_dIfS, p_dAsg, p_dPar, p_dAug, p_dApp, p_dSetIx, p_nLst, p_nRep, p_nOf, p_dSetN, p_dParN1, p_dParNN, p_iSeq, p_iRng1, p_iRng2, p_oNo, p_oIx, p_dSl, p_asIx, p_opTup, p_opLst, p_lenT, p_lenL, p_lenS, p_tupT, p_tupL, p_add, p_sub, p_mul, p_lt, p_le, p_gt, p_ge, p_eqI, p_neI, p_isN, p_isnN, p_isB, p_isnB, p_isNone_n, p_isNone_i, p_isNone_t, p_isNone_l, p_appL, p_appT, b_mc, b_mn, b_ac, b_an, b_rs, b_rz, b_lc, b_ln, b_it, b_if, b_itt, b_iff, p_dSeq, p_eqB, p_neB, len_eT, len_eR, len_eV, isNone_eO, seq_eT, seq_eR, seq_eV, seq_eL, eO_some, eO_none, len_eL, p_dOrT, ↓p_eqN, ↓p_neN, ↓p_ltN, ↓p_leN, ↓p_gtN, ↓p_geN]
  have nn : opNe (.lst ((os.filter fun p => decide (L % p = 0)).map fun _ => D.int 1)) (.lst []) = some (.bl (!(os.filter fun p => decide (L % p = 0)).isEmpty)) := ne_nil (fun _ => D.int 1) _ fun s _ => rfl
  have eb : (!(os.filter fun p => decide (L % p = 0)).isEmpty) = decide (∃ p ∈ os, p ∣ L) := by
    rw [Bool.eq_iff_iff, decide_eq_true_eq, Bool.not_eq_true', ← Bool.not_eq_true, List.isEmpty_iff]
    constructor
    · intro z
      obtain ⟨p, hp⟩ := List.exists_mem_of_ne_nil _ z
      obtain ⟨h1, h2⟩ := List.mem_filter.mp hp
      exact ⟨p, h1, Nat.dvd_of_mod_eq_zero (of_decide_eq_true h2)⟩
    · rintro ⟨p, h1, h2⟩ z
      have : p ∈ os.filter fun p => decide (L % p = 0) := List.mem_filter.mpr ⟨h1, decide_eq_true (Nat.mod_eq_zero_of_dvd h2)⟩
      rw [z] at this
      cases this
  rw [eb] at nn
  refine run_rt rfl ?_
  simp only [bnd_some, bnd_none, p_dc, p_dv, lk_z, lk_s, st_z, st_s, un_z, un_s, wipe_n, wipe_c, p_d2, p_d1, p_dnil, p_dcons, p_dL, p_asB, p_asI, p_asL, p_asSeqL, p_asSeqT, p_bV, p_dB, p_bAnd, p_bOr, p_bNot, p_dIf, p_dAnd, p_dOr, p_dNot, p_dCh, p_bYes, p_gN, p_gT, p_gsNil, p_gsCons, p_dNx, p_dRet, p_dSet, p_dIfS, p_dAsg, p_dPar, p_dAug, p_dApp, p_dSetIx, p_nLst, p_nRep, p_nOf, p_dSetN, p_dParN1, p_dParNN, p_iSeq, p_iRng1, p_iRng2, p_oNo, p_oIx, p_dSl, p_asIx, p_opTup, p_opLst, p_lenT, p_lenL, p_lenS, p_tupT, p_tupL, p_add, p_sub, p_mul, p_lt, p_le, p_gt, p_ge, p_eqI, p_neI, p_isN, p_isnN, p_isB, p_isnB, p_isNone_n, p_isNone_i, p_isNone_t, p_isNone_l, p_appL, p_appT, b_mc, b_mn, b_ac, b_an, b_rs, b_rz, b_lc, b_ln, b_it, b_if, b_itt, b_iff, p_dSeq, p_eqB, p_neB, len_eT, len_eR, len_eV, isNone_eO, seq_eT, seq_eR, seq_eV, seq_eL, eO_some, eO_none, len_eL, p_dOrT, ↓p_eqN, ↓p_neN, ↓p_ltN, ↓p_leN, ↓p_gtN, ↓p_geN] at f1
  simp only [bnd_some, bnd_none, p_dc, p_dv, lk_z, lk_s, st_z, st_s, un_z, un_s, wipe_n, wipe_c, p_d2, p_d1, p_dnil, p_dcons, p_dL, p_asB, p_asI, p_asL, p_asSeqL, p_asSeqT, p_bV, p_dB, p_bAnd, p_bOr, p_bNot, p_dIf, p_dAnd, p_dOr, p_dNot, p_dCh, p_bYes, p_gN, p_gT, p_gsNil, p_gsCons, p_dNx, p_dRet, p_dSet, p_dIfS, p_dAsg, p_dPar, p_dAug, p_dApp, p_dSetIx, p_nLst, p_nRep, p_nOf, p_dSetN, p_dParN1, p_dParNN, p_iSeq, p_iRng1, p_iRng2, p_oNo, p_oIx, p_dSl, p_asIx, p_opTup, p_opLst, p_lenT, p_lenL, p_lenS, p_tupT, p_tupL, p_add, p_sub, p_mul, p_lt, p_le, p_gt, p_ge, p_eqI, p_neI, p_isN, p_isnN, p_isB, p_isnB, p_isNone_n, p_isNone_i, p_isNone_t, p_isNone_l, p_appL, p_appT, b_mc, b_mn, b_ac, b_an, b_rs, b_rz, b_lc, b_ln, b_it, b_if, b_itt, b_iff, p_dSeq, p_eqB, p_neB, len_eT, len_eR, len_eV, isNone_eO, seq_eT, seq_eR, seq_eV, seq_eL, eO_some, eO_none, len_eL, p_dOrT, ↓p_eqN, ↓p_neN, ↓p_ltN, ↓p_leN, ↓p_gtN, ↓p_geN, Nat.reduceSub, f1, c1, c2, Nat.zero_le, ↓nn, lk_st_o, Nat.reduceBEq, e2, Nat.reduceAdd, Nat.reduceLeDiff]
theorem ringL_iff {ps S : List Nat} (h : Pds ps) (hA : S.Pairwise (· < ·)) (hS : ∀ i ∈ S, i < ps.length) (x : Nat) : ringL ps x = S ↔ lenS ps S ∣ x ∧ ∀ p ∈ othS ps S, ¬ p ∣ x := by
  have sp := (lenS_spec h S.reverse S (by simp) hS).2.2 x
  rw [sp]
  have mem : ∀ i, i ∈ ringL ps x ↔ i < ps.length ∧ ps.getD i 0 ∣ x := fun i => by
    unfold ringL
    rw [List.mem_filter, List.mem_range, decide_eq_true_eq, Nat.dvd_iff_mod_eq_zero]
  constructor
  · intro e
    refine ⟨fun i hi => ?_, fun p hp hd => ?_⟩
    · rw [← e] at hi
      exact ((mem i).mp hi).2
    · obtain ⟨i, hi, rfl⟩ := List.mem_map.mp hp
      obtain ⟨h1, h2⟩ := List.mem_filter.mp hi
      have : i ∈ ringL ps x := (mem i).mpr ⟨List.mem_range.mp h1, hd⟩
      rw [e] at this
      exact of_decide_eq_true h2 this
  · rintro ⟨h1, h2⟩
    refine asc_ext (List.Pairwise.filter _ List.pairwise_lt_range) hA fun i => ?_
    rw [mem]
    constructor
    · rintro ⟨a, b⟩
      by_cases z : i ∈ S
      · exact z
      · exact absurd b (h2 _ (List.mem_map.mpr ⟨i, List.mem_filter.mpr ⟨List.mem_range.mpr a, decide_eq_true z⟩, rfl⟩))
    · exact fun z => ⟨hS i z, h1 i z⟩
theorem first_some {ps S : List Nat} (h : Pds ps) (hA : S.Pairwise (· < ·)) (hS : ∀ i ∈ S, i < ps.length) {low x : Nat} : FirstW ps S low (some x) ↔ low ≤ x ∧ ringL ps x = S ∧ ∀ y, low ≤ y → ringL ps y = S → x ≤ y := by
  constructor
  · rintro ⟨a, b, c, d⟩
    exact ⟨a, (ringL_iff h hA hS x).mpr ⟨b, c⟩, fun y h1 h2 => by
      obtain ⟨e, f⟩ := (ringL_iff h hA hS y).mp h2
      exact d y h1 e f⟩
  · rintro ⟨a, b, c⟩
    obtain ⟨e, f⟩ := (ringL_iff h hA hS x).mp b
    exact ⟨a, e, f, fun y h1 h2 h3 => c y h1 ((ringL_iff h hA hS y).mpr ⟨h2, h3⟩)⟩
theorem first_none {ps S : List Nat} (h : Pds ps) (hA : S.Pairwise (· < ·)) (hS : ∀ i ∈ S, i < ps.length) {low : Nat} (f : FirstW ps S low none) (y : Nat) : ringL ps y ≠ S := fun e => by
  obtain ⟨p, hp, hd⟩ := f
  obtain ⟨a, b⟩ := (ringL_iff h hA hS y).mp e
  exact b p hp (Nat.dvd_trans hd a)
theorem first_always {ps S : List Nat} {low : Nat} {v : Option Nat} (f : FirstW ps S low v) : decide (∃ p ∈ othS ps S, p ∣ lenS ps S) = v.isNone := by
  cases v with
  | none => exact decide_eq_true f
  | some x => exact decide_eq_false fun ⟨p, hp, hd⟩ => f.2.2.1 p hp (Nat.dvd_trans hd f.2.1)
end Mi
namespace Mi
open DL
theorem neB (a b : Bool) : opNe (.bl a) (.bl b) = some (.bl (a != b)) := by cases a <;> cases b <;> rfl
theorem din_m (S : List Nat) (kvs : KVI) : opDin (eI S) (.ext (.dic kvs)) = some (.bl (valI kvs (ki S)).isSome) := by
  show (asKey (eI S)).bind _ = _
  rw [key_eI]
  rfl
theorem dnin_m (S : List Nat) (kvs : KVI) : opDnin (eI S) (.ext (.dic kvs)) = some (.bl (!(valI kvs (ki S)).isSome)) := by
  show (asKey (eI S)).bind _ = _
  rw [key_eI]
  rfl
theorem dget_m {S : List Nat} {kvs : KVI} {v : Int} (h : valI kvs (ki S) = some v) : opDget (.ext (.dic kvs)) (eI S) = some (.int v) := by
  show ((asKey (eI S)).bind fun n => (valI kvs n).bind fun v => some (D.int v)) = _
  rw [key_eI]
  show (valI kvs (ki S)).bind _ = _
  rw [h]
  rfl
theorem k28_b1 {ps S : List Nat} (hp : Pds ps) (hA : S.Pairwise (· < ·)) (hS : ∀ i ∈ S, i < ps.length) (hl5 : S.length ≤ 5) {low : Nat} (hlow : low < 1000) {kvs : KVI} (hf : Firsts ps low 500 kvs) {ρ : Rho} (hl : ρ.length = 15) (h3 : lk ρ 3 = some (eI ps)) (h4 : lk ρ 4 = some (eB ps)) (h5 : lk ρ 5 = some (.int (low : Nat)))
    (h6 : lk ρ 6 = some (.ext (.dic kvs))) (h8 : lk ρ 8 = some (eI S)) : ∃ ρ', m_k28_b1 ρ = some (.nx ρ') ∧ Ag [7, 9, 10, 11, 12, 14] ρ ρ' := by
  obtain ⟨v, fv, em⟩ := first_with_m hp hS hl5 (low := low) (by omega)
  have lg := law_long_m hp hS hl5
  rw [first_always fv] at lg
  have di := din_m S kvs
  have dn := dnin_m S kvs
  have sp := lenS_spec hp S.reverse S (by simp) hS
  have lb : lenS ps S ≤ 1000000000000000 := Nat.le_trans sp.2.1 (Nat.le_trans (Nat.pow_le_pow_right (by decide) hl5) (by decide))
  have isn : opIs (eF v) .non = some (.bl v.isNone) := by cases v <;> rfl
  have isnn : opIsNot (eF v) .non = some (.bl (!v.isNone)) := by cases v <;> rfl
  have nb := neB v.isNone v.isNone
  rw [show (v.isNone != v.isNone) = false by cases v.isNone <;> rfl] at nb
  generalize hL : lenS ps S = L at lg lb
  have pre : (dAsg (gT (gsCons (gN 9) (gsCons (gT (gsCons (gN 10) (gsCons (gN 11) gsNil))) gsNil))) (dL opTup (dcons (dL m_first_with (dcons (dv 4) (dcons (dv 8) (dcons (dv 5) dnil)))) (dcons (dL m_law_long (dcons (dv 3) (dcons (dv 8) dnil))) dnil)))) ρ = some (.nx (st (st (st ρ 9 (eF v)) 10 (.int (L : Nat))) 11 (.bl v.isNone))) := by
    simp only [bnd_some, bnd_none, p_dc, p_dv, lk_z, lk_s, st_z, st_s, un_z, un_s, wipe_n, wipe_c, p_d2, p_d1, p_dnil, p_dcons, p_dL, p_asB, p_asI, p_asL, p_asSeqL, p_asSeqT, p_bV, p_dB, p_bAnd, p_bOr, p_bNot, p_dIf, p_dAnd, p_dOr, p_dNot, p_dCh, p_bYes, p_gN, p_gT, p_gsNil, p_gsCons, p_dNx, p_dRet, p_dSet, p_dIfS, p_dAsg, p_dPar, p_dAug, p_dApp, p_dSetIx, p_nLst, p_nRep, p_nOf, p_dSetN, p_dParN1, p_dParNN, p_iSeq, p_iRng1, p_iRng2, p_oNo, p_oIx, p_dSl, p_asIx, p_opTup, p_opLst, p_lenT, p_lenL, p_lenS, p_tupT, p_tupL, p_add, p_sub, p_mul, p_lt, p_le, p_gt, p_ge, p_eqI, p_neI, p_isN, p_isnN, p_isB, p_isnB, p_isNone_n, p_isNone_i, p_isNone_t, p_isNone_l, p_appL, p_appT, b_mc, b_mn, b_ac, b_an, b_rs, b_rz, b_lc, b_ln, b_it, b_if, b_itt, b_iff, p_dSeq, p_eqB, p_neB, len_eT, len_eR, len_eV, isNone_eO, seq_eT, seq_eR, seq_eV, seq_eL, eO_some, eO_none, len_eL, p_dOrT, ↓p_eqN, ↓p_neN, ↓p_ltN, ↓p_leN, ↓p_gtN, ↓p_geN, h3, h4, h5, h8, em, lg, Nat.reduceAdd, Nat.reduceLeDiff]
  generalize hρ : st (st (st ρ 9 (eF v)) 10 (.int (L : Nat))) 11 (.bl v.isNone) = ρ1 at pre
  have l1 : ρ1.length = 15 := by rw [← hρ]; simp only [len_st, hl]
  have ag1 : Ag [7, 9, 10, 11, 12, 14] ρ ρ1 := by rw [← hρ]; exact (((Ag.refl _ ρ).st (by decide)).st (by decide)).st (by decide)
  have a3 := ag1.lk 3 (by decide) h3
  have a5 := ag1.lk 5 (by decide) h5
  have a6 := ag1.lk 6 (by decide) h6
  have a8 := ag1.lk 8 (by decide) h8
  have a9 : lk ρ1 9 = some (eF v) := by rw [← hρ]; simp only [lk_st_o, lk_st_i, len_st, Nat.reduceBEq, Nat.reduceLT, hl]
  have a10 : lk ρ1 10 = some (.int (L : Nat)) := by rw [← hρ]; simp only [lk_st_o, lk_st_i, len_st, Nat.reduceBEq, Nat.reduceLT, hl]
  have a11 : lk ρ1 11 = some (.bl v.isNone) := by rw [← hρ]; simp only [lk_st_i, len_st, Nat.reduceLT, hl]
  have p_dSeq' := @p_dSeq
  rcases hf.2 S with ⟨vn, vno⟩ | ⟨i, hi, vs, vr, vf⟩
  · -- not among them
    rw [vn] at di dn
    have di : opDin (eI S) (.ext (.dic kvs)) = some (.bl false) := di
    have dn : opDnin (eI S) (.ext (.dic kvs)) = some (.bl true) := dn
    cases v with
    | none =>
      refine ⟨ρ1, ?_, ag1⟩
      have a9' : lk ρ1 9 = some .non := a9
      have a11' : lk ρ1 11 = some (.bl true) := a11
      have nb' : opNe (.bl true) (.bl true) = some (.bl false) := rfl
      unfold m_k28_b1
      rw [p_dSeq, pre]
      simp only [bnd_some, bnd_none, p_dc, p_dv, lk_z, lk_s, st_z, st_s, un_z, un_s, wipe_n, wipe_c, p_d2, p_d1, p_dnil, p_dcons, p_dL, p_asB, p_asI, p_asL, p_asSeqL, p_asSeqT, p_bV, p_dB, p_bAnd, p_bOr, p_bNot, p_dIf, p_dAnd, p_dOr, p_dNot, p_dCh, p_bYes, p_gN, p_gT, p_gsNil, p_gsCons, p_dNx, p_dRet, p_dSet, p_dIfS, p_dAsg, p_dPar, p_dAug, p_dApp, p_dSetIx, p_nLst, p_nRep, p_nOf, p_dSetN, p_dParN1, p_dParNN, p_iSeq, p_iRng1, p_iRng2, p_oNo, p_oIx, p_dSl, p_asIx, p_opTup, p_opLst, p_lenT, p_lenL, p_lenS, p_tupT, p_tupL, p_add, p_sub, p_mul, p_lt, p_le, p_gt, p_ge, p_eqI, p_neI, p_isN, p_isnN, p_isB, p_isnB, p_isNone_n, p_isNone_i, p_isNone_t, p_isNone_l, p_appL, p_appT, b_mc, b_mn, b_ac, b_an, b_rs, b_rz, b_lc, b_ln, b_it, b_if, b_itt, b_iff, p_dSeq, p_eqB, p_neB, len_eT, len_eR, len_eV, isNone_eO, seq_eT, seq_eR, seq_eV, seq_eL, eO_some, eO_none, len_eL, p_dOrT, ↓p_eqN, ↓p_neN, ↓p_ltN, ↓p_leN, ↓p_gtN, ↓p_geN, a9', a11', a6, a8, ↓nb', di, Bool.not_true, Bool.not_false, Bool.false_eq_true, if_false, if_true]
    | some x =>
      obtain ⟨f1, f2, f3⟩ := (first_some hp hA hS).mp fv
      have x5 : low + 500 ≤ x := by
        by_cases z : low + 500 ≤ x
        · exact z
        · exact absurd (show ringL ps (low + (x - low)) = S by rw [show low + (x - low) = x by omega]; exact f2) (vno (x - low) (by omega))
      have a500 : opAdd (.int (low : Nat)) (.int 500) = some (.int ((low + 500 : Nat) : Int)) := add_nn low 500
      have lt := p_ltN x (low + 500)
      rw [decide_eq_false (by omega)] at lt
      have rn := ringing_e hp x
      rw [f2] at rn
      have nS := ned_eI S S
      rw [decide_eq_true rfl] at nS
      have r19 : opRng2 [.int 1, .int 9] = some ((List.range 8).map fun i : Nat => D.int ((1 + i : Nat) : Int)) := rng2_m 1 8 (by decide)
      have a9' : lk ρ1 9 = some (.int (x : Nat)) := a9
      have c1 : m_k28_c1 ρ1 = some (.lst ((List.range 8).map fun i : Nat => D.int ((x : Int) - ((1 + i) * L : Nat)))) := by
        unfold m_k28_c1
        refine comp_all (fun i : Nat => D.int ((1 + i : Nat) : Int)) _ (List.range 8) (by simp only [bnd_some, bnd_none, p_dc, p_dv, lk_z, lk_s, st_z, st_s, un_z, un_s, wipe_n, wipe_c, p_d2, p_d1, p_dnil, p_dcons, p_dL, p_asB, p_asI, p_asL, p_asSeqL, p_asSeqT, p_bV, p_dB, p_bAnd, p_bOr, p_bNot, p_dIf, p_dAnd, p_dOr, p_dNot, p_dCh, p_bYes, p_gN, p_gT, p_gsNil, p_gsCons, p_dNx, p_dRet, p_dSet, p_dIfS, p_dAsg, p_dPar, p_dAug, p_dApp, p_dSetIx, p_nLst, p_nRep, p_nOf, p_dSetN, p_dParN1, p_dParNN, p_iSeq, p_iRng1, p_iRng2, p_oNo, p_oIx, p_dSl, p_asIx, p_opTup, p_opLst, p_lenT, p_lenL, p_lenS, p_tupT, p_tupL, p_add, p_sub, p_mul, p_lt, p_le, p_gt, p_ge, p_eqI, p_neI, p_isN, p_isnN, p_isB, p_isnB, p_isNone_n, p_isNone_i, p_isNone_t, p_isNone_l, p_appL, p_appT, b_mc, b_mn, b_ac, b_an, b_rs, b_rz, b_lc, b_ln, b_it, b_if, b_itt, b_iff, p_dSeq, p_eqB, p_neB, len_eT, len_eR, len_eV, isNone_eO, seq_eT, seq_eR, seq_eV, seq_eL, eO_some, eO_none, len_eL, p_dOrT, ↓p_eqN, ↓p_neN, ↓p_ltN, ↓p_leN, ↓p_gtN, ↓p_geN, r19]) (by decide) ?_
        intro i _
        have mu := mul_n (a := 1 + i) (b := L) (by omega)
        refine ⟨_, rfl, ?_⟩
        simp only [bnd_some, bnd_none, p_dc, p_dv, lk_z, lk_s, st_z, st_s, un_z, un_s, wipe_n, wipe_c, p_d2, p_d1, p_dnil, p_dcons, p_dL, p_asB, p_asI, p_asL, p_asSeqL, p_asSeqT, p_bV, p_dB, p_bAnd, p_bOr, p_bNot, p_dIf, p_dAnd, p_dOr, p_dNot, p_dCh, p_bYes, p_gN, p_gT, p_gsNil, p_gsCons, p_dNx, p_dRet, p_dSet, p_dIfS, p_dAsg, p_dPar, p_dAug, p_dApp, p_dSetIx, p_nLst, p_nRep, p_nOf, p_dSetN, p_dParN1, p_dParNN, p_iSeq, p_iRng1, p_iRng2, p_oNo, p_oIx, p_dSl, p_asIx, p_opTup, p_opLst, p_lenT, p_lenL, p_lenS, p_tupT, p_tupL, p_add, p_sub, p_mul, p_lt, p_le, p_gt, p_ge, p_eqI, p_neI, p_isN, p_isnN, p_isB, p_isnB, p_isNone_n, p_isNone_i, p_isNone_t, p_isNone_l, p_appL, p_appT, b_mc, b_mn, b_ac, b_an, b_rs, b_rz, b_lc, b_ln, b_it, b_if, b_itt, b_iff, p_dSeq, p_eqB, p_neB, len_eT, len_eR, len_eV, isNone_eO, seq_eT, seq_eR, seq_eV, seq_eL, eO_some, eO_none, len_eL, p_dOrT, ↓p_eqN, ↓p_neN, ↓p_ltN, ↓p_leN, ↓p_gtN, ↓p_geN, lk_st_o, lk_st_i, lk_un_o, len_st, len_un, Nat.reduceBEq, Nat.reduceLT, l1, a9', a10, ↓mu]
      generalize hρ2 : st ρ1 12 (.lst ((List.range 8).map fun i : Nat => D.int ((x : Int) - ((1 + i) * L : Nat)))) = ρ2
      have l2 : ρ2.length = 15 := by rw [← hρ2]; simp only [len_st, l1]
      have b3 : lk ρ2 3 = some (eI ps) := by rw [← hρ2]; simp only [lk_st_o, Nat.reduceBEq, a3]
      have b5 : lk ρ2 5 = some (.int (low : Nat)) := by rw [← hρ2]; simp only [lk_st_o, Nat.reduceBEq, a5]
      have b8 : lk ρ2 8 = some (eI S) := by rw [← hρ2]; simp only [lk_st_o, Nat.reduceBEq, a8]
      have b12 : lk ρ2 12 = some (.lst ((List.range 8).map fun i : Nat => D.int ((x : Int) - ((1 + i) * L : Nat)))) := by rw [← hρ2]; rw [lk_st_i (by omega)]
      have c2 : m_k28_c2 ρ2 = some (.lst []) := by
        unfold m_k28_c2
        rw [comp_if (fun i : Nat => D.int ((x : Int) - ((1 + i) * L : Nat))) (fun _ => false) (fun _ => D.int 1) (List.range 8) (by simp only [bnd_some, bnd_none, p_dc, p_dv, lk_z, lk_s, st_z, st_s, un_z, un_s, wipe_n, wipe_c, p_d2, p_d1, p_dnil, p_dcons, p_dL, p_asB, p_asI, p_asL, p_asSeqL, p_asSeqT, p_bV, p_dB, p_bAnd, p_bOr, p_bNot, p_dIf, p_dAnd, p_dOr, p_dNot, p_dCh, p_bYes, p_gN, p_gT, p_gsNil, p_gsCons, p_dNx, p_dRet, p_dSet, p_dIfS, p_dAsg, p_dPar, p_dAug, p_dApp, p_dSetIx, p_nLst, p_nRep, p_nOf, p_dSetN, p_dParN1, p_dParNN, p_iSeq, p_iRng1, p_iRng2, p_oNo, p_oIx, p_dSl, p_asIx, p_opTup, p_opLst, p_lenT, p_lenL, p_lenS, p_tupT, p_tupL, p_add, p_sub, p_mul, p_lt, p_le, p_gt, p_ge, p_eqI, p_neI, p_isN, p_isnN, p_isB, p_isnB, p_isNone_n, p_isNone_i, p_isNone_t, p_isNone_l, p_appL, p_appT, b_mc, b_mn, b_ac, b_an, b_rs, b_rz, b_lc, b_ln, b_it, b_if, b_itt, b_iff, p_dSeq, p_eqB, p_neB, len_eT, len_eR, len_eV, isNone_eO, seq_eT, seq_eR, seq_eV, seq_eL, eO_some, eO_none, len_eL, p_dOrT, ↓p_eqN, ↓p_neN, ↓p_ltN, ↓p_leN, ↓p_gtN, ↓p_geN, b12]) (by decide) (by
          intro i _
          refine ⟨_, rfl, ?_, fun z => by cases z⟩
          have Lp : 0 < L := by rw [← hL]; exact sp.1
          have mp : 0 < (1 + i) * L := Nat.mul_pos (by omega) Lp
          generalize (1 + i) * L = y at mp
          by_cases z : low + y ≤ x
          · have ey : (x : Int) - (y : Int) = ((x - y : Nat) : Int) := by omega
            rw [ey]
            have ge : opGe (.int ((x - y : Nat) : Int)) (.int (low : Nat)) = some (.bl true) := by
              have : opGe (.int ((x - y : Nat) : Int)) (.int (low : Nat)) = some (.bl (decide ((low : Int) ≤ ((x - y : Nat) : Int)))) := rfl
              rw [this, decide_eq_true (by omega)]
            have rg := ringing_e hp (x - y)
            have eqn := eqd_eI (ringL ps (x - y)) S
            rw [decide_eq_false fun e => by have := f3 (x - y) (by omega) e; omega] at eqn
            simp only [bnd_some, bnd_none, p_dc, p_dv, lk_z, lk_s, st_z, st_s, un_z, un_s, wipe_n, wipe_c, p_d2, p_d1, p_dnil, p_dcons, p_dL, p_asB, p_asI, p_asL, p_asSeqL, p_asSeqT, p_bV, p_dB, p_bAnd, p_bOr, p_bNot, p_dIf, p_dAnd, p_dOr, p_dNot, p_dCh, p_bYes, p_gN, p_gT, p_gsNil, p_gsCons, p_dNx, p_dRet, p_dSet, p_dIfS, p_dAsg, p_dPar, p_dAug, p_dApp, p_dSetIx, p_nLst, p_nRep, p_nOf, p_dSetN, p_dParN1, p_dParNN, p_iSeq, p_iRng1, p_iRng2, p_oNo, p_oIx, p_dSl, p_asIx, p_opTup, p_opLst, p_lenT, p_lenL, p_lenS, p_tupT, p_tupL, p_add, p_sub, p_mul, p_lt, p_le, p_gt, p_ge, p_eqI, p_neI, p_isN, p_isnN, p_isB, p_isnB, p_isNone_n, p_isNone_i, p_isNone_t, p_isNone_l, p_appL, p_appT, b_mc, b_mn, b_ac, b_an, b_rs, b_rz, b_lc, b_ln, b_it, b_if, b_itt, b_iff, p_dSeq, p_eqB, p_neB, len_eT, len_eR, len_eV, isNone_eO, seq_eT, seq_eR, seq_eV, seq_eL, eO_some, eO_none, len_eL, p_dOrT, ↓p_eqN, ↓p_neN, ↓p_ltN, ↓p_leN, ↓p_gtN, ↓p_geN, lk_st_o, lk_st_i, lk_un_o, len_st, len_un, Nat.reduceBEq, Nat.reduceLT, l2, b3, b5, b8, ↓ge, rg, ↓eqn, if_true]
          · have ge : opGe (.int ((x : Int) - (y : Int))) (.int (low : Nat)) = some (.bl false) := by
              have : opGe (.int ((x : Int) - (y : Int))) (.int (low : Nat)) = some (.bl (decide ((low : Int) ≤ (x : Int) - (y : Int)))) := rfl
              rw [this, decide_eq_false (by omega)]
            simp only [bnd_some, bnd_none, p_dc, p_dv, lk_z, lk_s, st_z, st_s, un_z, un_s, wipe_n, wipe_c, p_d2, p_d1, p_dnil, p_dcons, p_dL, p_asB, p_asI, p_asL, p_asSeqL, p_asSeqT, p_bV, p_dB, p_bAnd, p_bOr, p_bNot, p_dIf, p_dAnd, p_dOr, p_dNot, p_dCh, p_bYes, p_gN, p_gT, p_gsNil, p_gsCons, p_dNx, p_dRet, p_dSet, p_dIfS, p_dAsg, p_dPar, p_dAug, p_dApp, p_dSetIx, p_nLst, p_nRep, p_nOf, p_dSetN, p_dParN1, p_dParNN, p_iSeq, p_iRng1, p_iRng2, p_oNo, p_oIx, p_dSl, p_asIx, p_opTup, p_opLst, p_lenT, p_lenL, p_lenS, p_tupT, p_tupL, p_add, p_sub, p_mul, p_lt, p_le, p_gt, p_ge, p_eqI, p_neI, p_isN, p_isnN, p_isB, p_isnB, p_isNone_n, p_isNone_i, p_isNone_t, p_isNone_l, p_appL, p_appT, b_mc, b_mn, b_ac, b_an, b_rs, b_rz, b_lc, b_ln, b_it, b_if, b_itt, b_iff, p_dSeq, p_eqB, p_neB, len_eT, len_eR, len_eV, isNone_eO, seq_eT, seq_eR, seq_eV, seq_eL, eO_some, eO_none, len_eL, p_dOrT, ↓p_eqN, ↓p_neN, ↓p_ltN, ↓p_leN, ↓p_gtN, ↓p_geN, lk_st_o, lk_st_i, lk_un_o, len_st, len_un, Nat.reduceBEq, Nat.reduceLT, l2, b5, ↓ge, Bool.false_eq_true, if_false])]
        have : (List.range 8).filter (fun _ => false) = [] := rfl
        rw [this]
        rfl
      have n0 : opNe (.lst []) (.lst []) = some (.bl false) := rfl
      refine ⟨ρ2, ?_, by rw [← hρ2]; exact ag1.st (by decide)⟩
      have isn' : opIs (.int (x : Nat)) .non = some (.bl false) := rfl
      have isnn' : opIsNot (.int (x : Nat)) .non = some (.bl true) := rfl
      have nb' : opNe (.bl false) (.bl false) = some (.bl false) := rfl
      have a11' : lk ρ1 11 = some (.bl false) := a11
      unfold m_k28_b1
      rw [p_dSeq, pre]
      simp only [bnd_some, bnd_none, p_dc, p_dv, lk_z, lk_s, st_z, st_s, un_z, un_s, wipe_n, wipe_c, p_d2, p_d1, p_dnil, p_dcons, p_dL, p_asB, p_asI, p_asL, p_asSeqL, p_asSeqT, p_bV, p_dB, p_bAnd, p_bOr, p_bNot, p_dIf, p_dAnd, p_dOr, p_dNot, p_dCh, p_bYes, p_gN, p_gT, p_gsNil, p_gsCons, p_dNx, p_dRet, p_dSet, p_dIfS, p_dAsg, p_dPar, p_dAug, p_dApp, p_dSetIx, p_nLst, p_nRep, p_nOf, p_dSetN, p_dParN1, p_dParNN, p_iSeq, p_iRng1, p_iRng2, p_oNo, p_oIx, p_dSl, p_asIx, p_opTup, p_opLst, p_lenT, p_lenL, p_lenS, p_tupT, p_tupL, p_add, p_sub, p_mul, p_lt, p_le, p_gt, p_ge, p_eqI, p_neI, p_isN, p_isnN, p_isB, p_isnB, p_isNone_n, p_isNone_i, p_isNone_t, p_isNone_l, p_appL, p_appT, b_mc, b_mn, b_ac, b_an, b_rs, b_rz, b_lc, b_ln, b_it, b_if, b_itt, b_iff, p_dSeq, p_eqB, p_neB, len_eT, len_eR, len_eV, isNone_eO, seq_eT, seq_eR, seq_eV, seq_eL, eO_some, eO_none, len_eL, p_dOrT, ↓p_eqN, ↓p_neN, ↓p_ltN, ↓p_leN, ↓p_gtN, ↓p_geN, a9', a11', a5, a3, a6, a8, isn', isnn', ↓nb', di, dn, ↓a500, ↓lt, rn, ↓nS, Bool.not_true, Bool.not_false, Bool.false_eq_true, if_false, if_true, c1, hρ2, c2, Nat.zero_le, n0]
  · rw [vs] at di dn
    have di : opDin (eI S) (.ext (.dic kvs)) = some (.bl true) := di
    have dn : opDnin (eI S) (.ext (.dic kvs)) = some (.bl false) := dn
    have dg := dget_m vs
    cases v with
    | none => exact absurd vr (first_none hp hA hS fv _)
    | some x =>
      obtain ⟨f1, f2, f3⟩ := (first_some hp hA hS).mp fv
      have ex : x = low + i := by
        apply Nat.le_antisymm (f3 _ (by omega) vr)
        apply Nat.le_of_not_lt
        intro z
        exact vf (x - low) (by omega) (by rw [show low + (x - low) = x by omega]; exact f2)
      subst ex
      have nx := neN_refl (low + i)
      have a9' : lk ρ1 9 = some (.int ((low + i : Nat) : Int)) := a9
      have isn' : opIs (.int ((low + i : Nat) : Int)) .non = some (.bl false) := rfl
      have isnn' : opIsNot (.int ((low + i : Nat) : Int)) .non = some (.bl true) := rfl
      have nb' : opNe (.bl false) (.bl false) = some (.bl false) := rfl
      have a11' : lk ρ1 11 = some (.bl false) := a11
      refine ⟨ρ1, ?_, ag1⟩
      unfold m_k28_b1
      rw [p_dSeq, pre]
      simp only [bnd_some, bnd_none, p_dc, p_dv, lk_z, lk_s, st_z, st_s, un_z, un_s, wipe_n, wipe_c, p_d2, p_d1, p_dnil, p_dcons, p_dL, p_asB, p_asI, p_asL, p_asSeqL, p_asSeqT, p_bV, p_dB, p_bAnd, p_bOr, p_bNot, p_dIf, p_dAnd, p_dOr, p_dNot, p_dCh, p_bYes, p_gN, p_gT, p_gsNil, p_gsCons, p_dNx, p_dRet, p_dSet, p_dIfS, p_dAsg, p_dPar, p_dAug, p_dApp, p_dSetIx, p_nLst, p_nRep, p_nOf, p_dSetN, p_dParN1, p_dParNN, p_iSeq, p_iRng1, p_iRng2, p_oNo, p_oIx, p_dSl, p_asIx, p_opTup, p_opLst, p_lenT, p_lenL, p_lenS, p_tupT, p_tupL, p_add, p_sub, p_mul, p_lt, p_le, p_gt, p_ge, p_eqI, p_neI, p_isN, p_isnN, p_isB, p_isnB, p_isNone_n, p_isNone_i, p_isNone_t, p_isNone_l, p_appL, p_appT, b_mc, b_mn, b_ac, b_an, b_rs, b_rz, b_lc, b_ln, b_it, b_if, b_itt, b_iff, p_dSeq, p_eqB, p_neB, len_eT, len_eR, len_eV, isNone_eO, seq_eT, seq_eR, seq_eV, seq_eL, eO_some, eO_none, len_eL, p_dOrT, ↓p_eqN, ↓p_neN, ↓p_ltN, ↓p_leN, ↓p_gtN, ↓p_geN, a9', a11', a6, a8, isn', isnn', ↓nb', di, dn, dg, ↓nx, Bool.not_true, Bool.not_false, Bool.false_eq_true, if_false, if_true]
theorem p28_15 : opPow (.int 10) (.int 15) = some (.int 1000000000000000) := sameO_eq (by decide +kernel)
theorem k28_b2 {ns : List Int} (hns : ns.length ≤ 63) {i : Nat} (hi : i < 8) {ρ : Rho} (hl : ρ.length = 15) (h0 : lk ρ 0 = some (.scr ns)) (h1 : lk ρ 1 = some (.int i)) :
    ∃ ρ', m_k28_b2 ρ = some (.nx ρ') ∧ Ag [1, 2, 3, 4, 5, 6, 7, 8, 9, 10, 11, 12, 13, 14] ρ ρ' := by
  obtain ⟨ds, hd, hb, hds⟩ := digits_m hns (i := i) (count := 40) (base := 27720) (by omega) (by decide) (by decide) (by decide)
  have hds : m_law_digits [.scr ns, .int i, .int 40, .int 27720] = some (eL ds) := hds
  have hbi : ∀ k, k < 40 → ds.getD k 0 < 27720 := fun k hk => by
    have := hb (ds.getD k 0) (by rw [List.getD_eq_getElem?_getD, List.getElem?_eq_getElem (by omega)]; exact List.getElem_mem (by omega))
    omega
  obtain ⟨ps, hp, lb⟩ := law_bells_g (ds := ds) (by omega) (most := 40) (by decide) (by decide)
  have lb : m_law_bells [eL ds, .int 40] = some (eI ps) := lb
  have tw := tower_m hp
  have h5 := hp.five
  have d10 : opIx (eL ds) (.int 10) = some (.int (ds.getD 10 0)) := ix_eL (k := 10) (by omega)
  have d12 : opIx (eL ds) (.int 12) = some (.int (ds.getD 12 0)) := ix_eL (k := 12) (by omega)
  have d13 : opIx (eL ds) (.int 13) = some (.int (ds.getD 13 0)) := ix_eL (k := 13) (by omega)
  have m10 : opMod (.int (ds.getD 10 0 : Nat)) (.int 200) = some (.int ((ds.getD 10 0 % 200 : Nat) : Int)) := mod_n (b := 200) (by decide)
  have b10 : ds.getD 10 0 % 200 < 200 := Nat.mod_lt _ (by decide)
  have b13 := hbi 13 (by decide)
  generalize ds.getD 10 0 % 200 = low at m10 b10
  generalize ds.getD 12 0 = x12 at d12
  generalize ds.getD 13 0 = x13 at d13 b13
  generalize hρ : st (st (st (st ρ 2 (eL ds)) 3 (eI ps)) 4 (eB ps)) 5 (.int (low : Nat)) = ρ1
  have l1 : ρ1.length = 15 := by rw [← hρ]; simp only [len_st, hl]
  have a2 : lk ρ1 2 = some (eL ds) := by rw [← hρ]; simp only [lk_st_o, lk_st_i, len_st, Nat.reduceBEq, Nat.reduceLT, hl]
  have a3 : lk ρ1 3 = some (eI ps) := by rw [← hρ]; simp only [lk_st_o, lk_st_i, len_st, Nat.reduceBEq, Nat.reduceLT, hl]
  have a4 : lk ρ1 4 = some (eB ps) := by rw [← hρ]; simp only [lk_st_o, lk_st_i, len_st, Nat.reduceBEq, Nat.reduceLT, hl]
  have a5 : lk ρ1 5 = some (.int (low : Nat)) := by rw [← hρ]; simp only [lk_st_o, lk_st_i, len_st, Nat.reduceBEq, Nat.reduceLT, hl]
  have ag1 : Ag [1, 2, 3, 4, 5, 6, 7, 8, 9, 10, 11, 12, 13, 14] ρ ρ1 := by
    rw [← hρ]
    exact ((((Ag.refl _ ρ).st (by decide)).st (by decide)).st (by decide)).st (by decide)
  obtain ⟨kvs, fs, ρ2, q2, c6, ag2⟩ := dic_m hp (low := low) (by omega) l1 a3 a5
  have l2 : ρ2.length = 15 := by rw [ag2.1, l1]
  have c2 := ag2.lk 2 (by decide) a2
  have c3 := ag2.lk 3 (by decide) a3
  have c4 := ag2.lk 4 (by decide) a4
  have c5 := ag2.lk 5 (by decide) a5
  have st2 := sets2_m (n := ps.length) h5
  obtain ⟨sl, ss⟩ := subL_spec ps.length
  have lp : opLen [eI ps] = some (.int (ps.length : Int)) := by unfold eI; simp
  obtain ⟨ρ3, q3, ag3⟩ := for_agL (b := m_k28_b1) (i := 8) (ws := [7, 8, 9, 10, 11, 12, 14]) (ρ := ρ2) eI (subL ps.length) (by decide) (by omega) (by
    intro S hS ρ' ag e
    obtain ⟨s1, s2, s3⟩ := ss S hS
    obtain ⟨ρ'', q, ag'⟩ := k28_b1 hp s1 s2 (by omega) (low := low) (by omega) fs (by rw [ag.1, l2]) (ag.lk 3 (by decide) c3) (ag.lk 4 (by decide) c4) (ag.lk 5 (by decide) c5) (ag.lk 6 (by decide) c6) e
    exact ⟨ρ'', q, ag.trans (ag'.mono (by decide))⟩)
  have f3 := (for_eq (it := iSeq (dL m_law_sets_2 (dcons (dL opLen (dcons (dv 3) dnil)) dnil))) (ρ := ρ2) (by simp only [bnd_some, bnd_none, p_dc, p_dv, lk_z, lk_s, st_z, st_s, un_z, un_s, wipe_n, wipe_c, p_d2, p_d1, p_dnil, p_dcons, p_dL, p_asB, p_asI, p_asL, p_asSeqL, p_asSeqT, p_bV, p_dB, p_bAnd, p_bOr, p_bNot, p_dIf, p_dAnd, p_dOr, p_dNot, p_dCh, p_bYes, p_gN, p_gT, p_gsNil, p_gsCons, p_dNx, p_dRet, p_dSet, p_dIfS, p_dAsg, p_dPar, p_dAug, p_dApp, p_dSetIx, p_nLst, p_nRep, p_nOf, p_dSetN, p_dParN1, p_dParNN, p_iSeq, p_iRng1, p_iRng2, p_oNo, p_oIx, p_dSl, p_asIx, p_opTup, p_opLst, p_lenT, p_lenL, p_lenS, p_tupT, p_tupL, p_add, p_sub, p_mul, p_lt, p_le, p_gt, p_ge, p_eqI, p_neI, p_isN, p_isnN, p_isB, p_isnB, p_isNone_n, p_isNone_i, p_isNone_t, p_isNone_l, p_appL, p_appT, b_mc, b_mn, b_ac, b_an, b_rs, b_rz, b_lc, b_ln, b_it, b_if, b_itt, b_iff, p_dSeq, p_eqB, p_neB, len_eT, len_eR, len_eV, isNone_eO, seq_eT, seq_eR, seq_eV, seq_eL, eO_some, eO_none, len_eL, p_dOrT, ↓p_eqN, ↓p_neN, ↓p_ltN, ↓p_leN, ↓p_gtN, ↓p_geN, c3, lp, st2])).trans q3
  have l3 : ρ3.length = 15 := by rw [ag3.1, l2]
  have e2 := ag3.lk 2 (by decide) c2
  have e3 := ag3.lk 3 (by decide) c3
  have e4 := ag3.lk 4 (by decide) c4
  -- far on
  have sl0 : 0 < (subL ps.length).length := by rw [sl]; exact Nat.pow_pos (by decide)
  have ll : opLen [.lst ((subL ps.length).map eI)] = some (.int ((subL ps.length).length : Int)) := by simp
  have mo := mod_n (a := x12) sl0
  have mlt := Nat.mod_lt x12 sl0
  generalize x12 % (subL ps.length).length = t at mo mlt
  generalize hS : (subL ps.length)[t] = S
  have hSm : S ∈ subL ps.length := by rw [← hS]; exact List.getElem_mem mlt
  have ix : opIx (.lst ((subL ps.length).map eI)) (.int (t : Nat)) = some (eI S) := ixL (i := t) (by rw [List.getElem?_map, List.getElem?_eq_getElem mlt, hS]; rfl)
  obtain ⟨s1, s2, s3⟩ := ss S hSm
  have far : opSub (.int 1000000000000000) (.int (x13 : Nat)) = some (.int ((1000000000000000 - x13 : Nat) : Int)) := sub_nn (a := 1000000000000000) (by omega)
  have fb : 1000000000000000 - x13 ≤ 1000000000000000 := by omega
  generalize 1000000000000000 - x13 = fa at far fb
  obtain ⟨v, fv, em⟩ := first_with_m hp s2 (by omega) (low := fa) (by omega)
  generalize hρ4 : st (st (st ρ3 8 (eI S)) 13 (.int (fa : Nat))) 9 (eF v) = ρ4
  have l4 : ρ4.length = 15 := by rw [← hρ4]; simp only [len_st, l3]
  have g3 : lk ρ4 3 = some (eI ps) := by rw [← hρ4]; simp only [lk_st_o, Nat.reduceBEq, e3]
  have g4 : lk ρ4 4 = some (eB ps) := by rw [← hρ4]; simp only [lk_st_o, Nat.reduceBEq, e4]
  have g8 : lk ρ4 8 = some (eI S) := by rw [← hρ4]; simp only [lk_st_o, lk_st_i, len_st, Nat.reduceBEq, Nat.reduceLT, l3]
  have g9 : lk ρ4 9 = some (eF v) := by rw [← hρ4]; simp only [lk_st_i, len_st, Nat.reduceLT, l3]
  have g13 : lk ρ4 13 = some (.int (fa : Nat)) := by rw [← hρ4]; simp only [lk_st_o, lk_st_i, len_st, Nat.reduceBEq, Nat.reduceLT, l3]
  have ag4 : Ag [1, 2, 3, 4, 5, 6, 7, 8, 9, 10, 11, 12, 13, 14] ρ ρ4 := by
    rw [← hρ4]
    exact (((ag1.trans (ag2.mono (by decide))).trans (ag3.mono (by decide))).st (by decide)).st (by decide) |>.st (by decide)
  refine ⟨ρ4, ?_, ag4⟩
  cases v with
  | none =>
    have isnn : isNone (eF none) = true := rfl
    simp only [m_k28_b2, bnd_some, bnd_none, p_dc, p_dv, lk_z, lk_s, st_z, st_s, un_z, un_s, wipe_n, wipe_c, p_d2, p_d1, p_dnil, p_dcons, p_dL, p_asB, p_asI, p_asL, p_asSeqL, p_asSeqT, p_bV, p_dB, p_bAnd, p_bOr, p_bNot, p_dIf, p_dAnd, p_dOr, p_dNot, p_dCh, p_bYes, p_gN, p_gT, p_gsNil, p_gsCons, p_dNx, p_dRet, p_dSet, p_dIfS, p_dAsg, p_dPar, p_dAug, p_dApp, p_dSetIx, p_nLst, p_nRep, p_nOf, p_dSetN, p_dParN1, p_dParNN, p_iSeq, p_iRng1, p_iRng2, p_oNo, p_oIx, p_dSl, p_asIx, p_opTup, p_opLst, p_lenT, p_lenL, p_lenS, p_tupT, p_tupL, p_add, p_sub, p_mul, p_lt, p_le, p_gt, p_ge, p_eqI, p_neI, p_isN, p_isnN, p_isB, p_isnB, p_isNone_n, p_isNone_i, p_isNone_t, p_isNone_l, p_appL, p_appT, b_mc, b_mn, b_ac, b_an, b_rs, b_rz, b_lc, b_ln, b_it, b_if, b_itt, b_iff, p_dSeq, p_eqB, p_neB, len_eT, len_eR, len_eV, isNone_eO, seq_eT, seq_eR, seq_eV, seq_eL, eO_some, eO_none, len_eL, p_dOrT, ↓p_eqN, ↓p_neN, ↓p_ltN, ↓p_leN, ↓p_gtN, ↓p_geN, lk_st_o, lk_st_i, lk_un_o, len_st, len_un, Nat.reduceBEq, Nat.reduceLT, hl, h0, h1, hds, lb, tw, d10, m10, hρ, q2, f3, l3, e2, e3, e4, lp, st2, ll, d12, ↓mo, ix, p28_15, d13, ↓far, em, hρ4, g9, isnn, Bool.not_true, Bool.false_eq_true, if_false]
  | some x =>
    obtain ⟨f1, f2, f3'⟩ := (first_some hp s1 s2).mp fv
    have g9' : lk ρ4 9 = some (.int (x : Nat)) := g9
    have isnn : opIsNot (.int (x : Nat)) .non = some (.bl true) := rfl
    have lt := p_ltN x fa
    rw [decide_eq_false (by omega)] at lt
    have rn := ringing_e hp x
    rw [f2] at rn
    have nS := ned_eI S S
    rw [decide_eq_true rfl] at nS
    have le15 : opLe (.int (x : Nat)) (.int 1000000000000000) = some (.bl (decide (x ≤ 1000000000000000))) := p_leN x 1000000000000000
    have lS : opLen [eI S] = some (.int (S.length : Int)) := by unfold eI; simp
    have cj := count_just_m hp (k := S.length) (by omega) x x
    rw [if_pos (Nat.le_refl _), upTo_succ] at cj
    have jr : justR ps S.length x = true := by
      unfold justR
      rw [← ringL_len, f2]
      exact decide_eq_true rfl
    rw [jr, if_pos rfl, show upTo (justR ps S.length) x + 1 - upTo (justR ps S.length) x = 1 by omega] at cj
    have cj : m_count_just [eB ps, .int (S.length : Int), .int (x : Nat), .int (x : Nat)] = some (.int 1) := cj
    have n1 : opNe (.int 1) (.int 1) = some (.bl false) := rfl
    have mn : opMin [.int (x : Nat), .int 1000000000000000] = some (.int ((min x 1000000000000000 : Nat) : Int)) := min_n x 1000000000000000
    have mb : fa ≤ min x 1000000000000000 ∧ min x 1000000000000000 ≤ x ∧ min x 1000000000000000 ≤ 1000000000000000 := by omega
    generalize min x 1000000000000000 = mm at mn mb
    obtain ⟨v', fv', em'⟩ := first_with_m hp s2 (by omega) (low := mm) (by omega)
    have ev : v' = some x := by
      cases v' with
      | none => exact absurd f2 (first_none hp s1 s2 fv' x)
      | some y =>
        obtain ⟨y1, y2, y3⟩ := (first_some hp s1 s2).mp fv'
        exact congrArg some (Nat.le_antisymm (y3 x mb.2.1 f2) (f3' y (by omega) y2))
    subst ev
    have nx := neN_refl x
    have em : m_first_with [eB ps, eI S, .int (fa : Nat)] = some (.int (x : Nat)) := em
    have em' : m_first_with [eB ps, eI S, .int (mm : Nat)] = some (.int (x : Nat)) := em'
    have hρ4 : st (st (st ρ3 8 (eI S)) 13 (.int (fa : Nat))) 9 (.int (x : Nat)) = ρ4 := hρ4
    by_cases z : x ≤ 1000000000000000
    · rw [decide_eq_true z] at le15
      simp only [m_k28_b2, bnd_some, bnd_none, p_dc, p_dv, lk_z, lk_s, st_z, st_s, un_z, un_s, wipe_n, wipe_c, p_d2, p_d1, p_dnil, p_dcons, p_dL, p_asB, p_asI, p_asL, p_asSeqL, p_asSeqT, p_bV, p_dB, p_bAnd, p_bOr, p_bNot, p_dIf, p_dAnd, p_dOr, p_dNot, p_dCh, p_bYes, p_gN, p_gT, p_gsNil, p_gsCons, p_dNx, p_dRet, p_dSet, p_dIfS, p_dAsg, p_dPar, p_dAug, p_dApp, p_dSetIx, p_nLst, p_nRep, p_nOf, p_dSetN, p_dParN1, p_dParNN, p_iSeq, p_iRng1, p_iRng2, p_oNo, p_oIx, p_dSl, p_asIx, p_opTup, p_opLst, p_lenT, p_lenL, p_lenS, p_tupT, p_tupL, p_add, p_sub, p_mul, p_lt, p_le, p_gt, p_ge, p_eqI, p_neI, p_isN, p_isnN, p_isB, p_isnB, p_isNone_n, p_isNone_i, p_isNone_t, p_isNone_l, p_appL, p_appT, b_mc, b_mn, b_ac, b_an, b_rs, b_rz, b_lc, b_ln, b_it, b_if, b_itt, b_iff, p_dSeq, p_eqB, p_neB, len_eT, len_eR, len_eV, isNone_eO, seq_eT, seq_eR, seq_eV, seq_eL, eO_some, eO_none, len_eL, p_dOrT, ↓p_eqN, ↓p_neN, ↓p_ltN, ↓p_leN, ↓p_gtN, ↓p_geN, lk_st_o, lk_st_i, lk_un_o, len_st, len_un, Nat.reduceBEq, Nat.reduceLT, hl, h0, h1, hds, lb, tw, d10, m10, hρ, q2, f3, l3, e2, e3, e4, lp, st2, ll, d12, ↓mo, ix, p28_15, d13, ↓far, em, hρ4, g9', g13, g3, g4, g8, isnn, ↓lt, rn, ↓nS, ↓le15, lS, cj, ↓n1, ↓mn, em', ↓nx, Bool.not_true, Bool.not_false, Bool.false_eq_true, if_false, if_true]
    · rw [decide_eq_false z] at le15
      simp only [m_k28_b2, bnd_some, bnd_none, p_dc, p_dv, lk_z, lk_s, st_z, st_s, un_z, un_s, wipe_n, wipe_c, p_d2, p_d1, p_dnil, p_dcons, p_dL, p_asB, p_asI, p_asL, p_asSeqL, p_asSeqT, p_bV, p_dB, p_bAnd, p_bOr, p_bNot, p_dIf, p_dAnd, p_dOr, p_dNot, p_dCh, p_bYes, p_gN, p_gT, p_gsNil, p_gsCons, p_dNx, p_dRet, p_dSet, p_dIfS, p_dAsg, p_dPar, p_dAug, p_dApp, p_dSetIx, p_nLst, p_nRep, p_nOf, p_dSetN, p_dParN1, p_dParNN, p_iSeq, p_iRng1, p_iRng2, p_oNo, p_oIx, p_dSl, p_asIx, p_opTup, p_opLst, p_lenT, p_lenL, p_lenS, p_tupT, p_tupL, p_add, p_sub, p_mul, p_lt, p_le, p_gt, p_ge, p_eqI, p_neI, p_isN, p_isnN, p_isB, p_isnB, p_isNone_n, p_isNone_i, p_isNone_t, p_isNone_l, p_appL, p_appT, b_mc, b_mn, b_ac, b_an, b_rs, b_rz, b_lc, b_ln, b_it, b_if, b_itt, b_iff, p_dSeq, p_eqB, p_neB, len_eT, len_eR, len_eV, isNone_eO, seq_eT, seq_eR, seq_eV, seq_eL, eO_some, eO_none, len_eL, p_dOrT, ↓p_eqN, ↓p_neN, ↓p_ltN, ↓p_leN, ↓p_gtN, ↓p_geN, lk_st_o, lk_st_i, lk_un_o, len_st, len_un, Nat.reduceBEq, Nat.reduceLT, hl, h0, h1, hds, lb, tw, d10, m10, hρ, q2, f3, l3, e2, e3, e4, lp, st2, ll, d12, ↓mo, ix, p28_15, d13, ↓far, em, hρ4, g9', g13, g3, g4, g8, isnn, ↓lt, rn, ↓nS, ↓le15, ↓mn, em', ↓nx, Bool.not_true, Bool.not_false, Bool.false_eq_true, if_false, if_true]
def k28x : List (List Nat × Nat) := [([0], 4), ([1], 6), ([0, 1], 12), ([], 1)]
theorem k28_g : ∀ z ∈ k28x, sameO (m_first_with [.bell [4, 6], eI z.1, .int 1]) (.int (z.2 : Nat)) = true := by decide +kernel
theorem k28_g1 : m_first_with [.bell [4, 8], .tup [.int 1], .int 0] = some .non := sameO_eq (by decide +kernel)
theorem k28_g2 : m_first_with [.bell [1], .tup [], .int 0] = some .non := sameO_eq (by decide +kernel)
theorem k28_g3 : m_first_with [.bell [4, 6], .tup [], .int 0] = some (.int 1) := sameO_eq (by decide +kernel)
theorem plain_k28 (ns : List Int) (h : ns.length ≤ 63) : m_k28 [.scr ns] = some (.bl true) := by
  obtain ⟨ρ', q1, ag⟩ := for_ag (b := m_k28_b2) (i := 1) (n := 8) (ws := [1, 2, 3, 4, 5, 6, 7, 8, 9, 10, 11, 12, 13, 14]) (ρ := some (.scr ns) :: List.replicate 14 none) (fun i : Nat => D.int i) (by decide) (by simp) (by
    intro k hk ρ' ag e
    obtain ⟨ρ'', q, ag'⟩ := k28_b2 h hk (by rw [ag.1]; rfl) (ag.lk 0 (by decide) rfl) e
    exact ⟨ρ'', q, ag.trans ag'⟩)
  have r8 : opRng1 [.int 8] = some ((List.range 8).map fun i : Nat => D.int i) := rng1 (n := 8) (by decide)
  have f := (for_eq (it := iRng1 (dcons (dc (.int 8)) dnil)) (ρ := some (.scr ns) :: List.replicate 14 none) (by simp only [bnd_some, bnd_none, p_dc, p_dv, lk_z, lk_s, st_z, st_s, un_z, un_s, wipe_n, wipe_c, p_d2, p_d1, p_dnil, p_dcons, p_dL, p_asB, p_asI, p_asL, p_asSeqL, p_asSeqT, p_bV, p_dB, p_bAnd, p_bOr, p_bNot, p_dIf, p_dAnd, p_dOr, p_dNot, p_dCh, p_bYes, p_gN, p_gT, p_gsNil, p_gsCons, p_dNx, p_dRet, p_dSet, p_dIfS, p_dAsg, p_dPar, p_dAug, p_dApp, p_dSetIx, p_nLst, p_nRep, p_nOf, p_dSetN, p_dParN1, p_dParNN, p_iSeq, p_iRng1, p_iRng2, p_oNo, p_oIx, p_dSl, p_asIx, p_opTup, p_opLst, p_lenT, p_lenL, p_lenS, p_tupT, p_tupL, p_add, p_sub, p_mul, p_lt, p_le, p_gt, p_ge, p_eqI, p_neI, p_isN, p_isnN, p_isB, p_isnB, p_isNone_n, p_isNone_i, p_isNone_t, p_isNone_l, p_appL, p_appT, b_mc, b_mn, b_ac, b_an, b_rs, b_rz, b_lc, b_ln, b_it, b_if, b_itt, b_iff, p_dSeq, p_eqB, p_neB, len_eT, len_eR, len_eV, isNone_eO, seq_eT, seq_eR, seq_eV, seq_eL, eO_some, eO_none, len_eL, p_dOrT, ↓p_eqN, ↓p_neN, ↓p_ltN, ↓p_leN, ↓p_gtN, ↓p_geN, r8])).trans q1
  have hl : ρ'.length = 15 := by rw [ag.1]; rfl
  refine run_rt rfl ?_
  have f : dFor (iRng1 (dcons (dc (.int 8)) dnil)) (gN 1) m_k28_b2 ([D.scr ns].map some ++ List.replicate (15 - 1) none) = some (.nx ρ') := f
  have b46 : opBells [.int 4, .int 6] = some (.bell [4, 6]) := rfl
  have b48 : opBells [.int 4, .int 8] = some (.bell [4, 8]) := rfl
  have b1 : opBells [.int 1] = some (.bell [1]) := rfl
  have c3 : m_k28_c3 ρ' = some (.lst [.int 4, .int 6, .int 12, .int 1]) := by
    unfold m_k28_c3
    rw [comp_all (fun z : List Nat × Nat => eI z.1) (fun z => D.int (z.2 : Nat)) k28x (by simp only [bnd_some, bnd_none, p_dc, p_dv, lk_z, lk_s, st_z, st_s, un_z, un_s, wipe_n, wipe_c, p_d2, p_d1, p_dnil, p_dcons, p_dL, p_asB, p_asI, p_asL, p_asSeqL, p_asSeqT, p_bV, p_dB, p_bAnd, p_bOr, p_bNot, p_dIf, p_dAnd, p_dOr, p_dNot, p_dCh, p_bYes, p_gN, p_gT, p_gsNil, p_gsCons, p_dNx, p_dRet, p_dSet, p_dIfS, p_dAsg, p_dPar, p_dAug, p_dApp, p_dSetIx, p_nLst, p_nRep, p_nOf, p_dSetN, p_dParN1, p_dParNN, p_iSeq, p_iRng1, p_iRng2, p_oNo, p_oIx, p_dSl, p_asIx, p_opTup, p_opLst, p_lenT, p_lenL, p_lenS, p_tupT, p_tupL, p_add, p_sub, p_mul, p_lt, p_le, p_gt, p_ge, p_eqI, p_neI, p_isN, p_isnN, p_isB, p_isnB, p_isNone_n, p_isNone_i, p_isNone_t, p_isNone_l, p_appL, p_appT, b_mc, b_mn, b_ac, b_an, b_rs, b_rz, b_lc, b_ln, b_it, b_if, b_itt, b_iff, p_dSeq, p_eqB, p_neB, len_eT, len_eR, len_eV, isNone_eO, seq_eT, seq_eR, seq_eV, seq_eL, eO_some, eO_none, len_eL, p_dOrT, ↓p_eqN, ↓p_neN, ↓p_ltN, ↓p_leN, ↓p_gtN, ↓p_geN, Nat.reduceAdd, Nat.reduceLeDiff]; rfl) (by decide) (by
      intro z hz
      have g := sameO_eq (k28_g z hz)
      refine ⟨_, rfl, ?_⟩
      simp only [bnd_some, bnd_none, p_dc, p_dv, lk_z, lk_s, st_z, st_s, un_z, un_s, wipe_n, wipe_c, p_d2, p_d1, p_dnil, p_dcons, p_dL, p_asB, p_asI, p_asL, p_asSeqL, p_asSeqT, p_bV, p_dB, p_bAnd, p_bOr, p_bNot, p_dIf, p_dAnd, p_dOr, p_dNot, p_dCh, p_bYes, p_gN, p_gT, p_gsNil, p_gsCons, p_dNx, p_dRet, p_dSet, p_dIfS, p_dAsg, p_dPar, p_dAug, p_dApp, p_dSetIx, p_nLst, p_nRep, p_nOf, p_dSetN, p_dParN1, p_dParNN, p_iSeq, p_iRng1, p_iRng2, p_oNo, p_oIx, p_dSl, p_asIx, p_opTup, p_opLst, p_lenT, p_lenL, p_lenS, p_tupT, p_tupL, p_add, p_sub, p_mul, p_lt, p_le, p_gt, p_ge, p_eqI, p_neI, p_isN, p_isnN, p_isB, p_isnB, p_isNone_n, p_isNone_i, p_isNone_t, p_isNone_l, p_appL, p_appT, b_mc, b_mn, b_ac, b_an, b_rs, b_rz, b_lc, b_ln, b_it, b_if, b_itt, b_iff, p_dSeq, p_eqB, p_neB, len_eT, len_eR, len_eV, isNone_eO, seq_eT, seq_eR, seq_eV, seq_eL, eO_some, eO_none, len_eL, p_dOrT, ↓p_eqN, ↓p_neN, ↓p_ltN, ↓p_leN, ↓p_gtN, ↓p_geN, lk_st_o, lk_st_i, lk_un_o, len_st, len_un, Nat.reduceBEq, Nat.reduceLT, hl, b46, g])]
    rfl
  have e1 : opNe (.lst [.int 4, .int 6, .int 12, .int 1]) (.lst [.int 4, .int 6, .int 12, .int 1]) = some (.bl false) := sameO_eq (by decide +kernel)
  have n0 : opIsNot .non .non = some (.bl false) := rfl
  have e2 : opEq (.int 1) (.int 1) = some (.bl true) := rfl
  rw [p_dSeq, f]
  simp only [bnd_some, bnd_none, p_dc, p_dv, lk_z, lk_s, st_z, st_s, un_z, un_s, wipe_n, wipe_c, p_d2, p_d1, p_dnil, p_dcons, p_dL, p_asB, p_asI, p_asL, p_asSeqL, p_asSeqT, p_bV, p_dB, p_bAnd, p_bOr, p_bNot, p_dIf, p_dAnd, p_dOr, p_dNot, p_dCh, p_bYes, p_gN, p_gT, p_gsNil, p_gsCons, p_dNx, p_dRet, p_dSet, p_dIfS, p_dAsg, p_dPar, p_dAug, p_dApp, p_dSetIx, p_nLst, p_nRep, p_nOf, p_dSetN, p_dParN1, p_dParNN, p_iSeq, p_iRng1, p_iRng2, p_oNo, p_oIx, p_dSl, p_asIx, p_opTup, p_opLst, p_lenT, p_lenL, p_lenS, p_tupT, p_tupL, p_add, p_sub, p_mul, p_lt, p_le, p_gt, p_ge, p_eqI, p_neI, p_isN, p_isnN, p_isB, p_isnB, p_isNone_n, p_isNone_i, p_isNone_t, p_isNone_l, p_appL, p_appT, b_mc, b_mn, b_ac, b_an, b_rs, b_rz, b_lc, b_ln, b_it, b_if, b_itt, b_iff, p_dSeq, p_eqB, p_neB, len_eT, len_eR, len_eV, isNone_eO, seq_eT, seq_eR, seq_eV, seq_eL, eO_some, eO_none, len_eL, p_dOrT, ↓p_eqN, ↓p_neN, ↓p_ltN, ↓p_leN, ↓p_gtN, ↓p_geN, Nat.reduceAdd, Nat.reduceLeDiff, Nat.zero_le, c3, e1, b46, b48, b1, k28_g1, k28_g2, k28_g3, n0, e2, Bool.not_true, Bool.not_false, Bool.false_eq_true, if_false, if_true]
end Mi
namespace My
open PySem PySem.Spec PyProof.Rows L2 DL Mi
def topS (i : Nat) : Stmt := PySem.Challenge.pw_meetperiods_k28_whole_first_times_with_j.main.body.getD i (.Pass ⟨0, 0, 0, 0⟩)
abbrev s_is_integer : Stmt := topS 2
abbrev N_is_integer : List Str := ["value", "low", "high"]
theorem sc_is_integer : FnScope N_is_integer ["value", "low", "high"] (defScope s_is_integer) := ⟨rfl, rfl, rfl, by decide +kernel, rfl, by decide +kernel, by decide +kernel⟩
abbrev s_gcd : Stmt := topS 3
abbrev N_gcd : List Str := ["one", "other"]
theorem sc_gcd : FnScope N_gcd ["one", "other"] (defScope s_gcd) := ⟨rfl, rfl, rfl, by decide +kernel, rfl, by decide +kernel, by decide +kernel⟩
abbrev s_lcm : Stmt := topS 4
abbrev N_lcm : List Str := ["one", "other"]
theorem sc_lcm : FnScope N_lcm ["one", "other"] (defScope s_lcm) := ⟨rfl, rfl, rfl, by decide +kernel, rfl, by decide +kernel, by decide +kernel⟩
abbrev s_meetings : Stmt := topS 6
abbrev N_meetings : List Str := ["bells", "found", "period", "many", "length"]
theorem sc_meetings : FnScope N_meetings ["bells"] (defScope s_meetings) := ⟨rfl, rfl, rfl, by decide +kernel, rfl, by decide +kernel, by decide +kernel⟩
abbrev s_choose : Stmt := topS 7
abbrev N_choose : List Str := ["many", "some", "found", "turn"]
theorem sc_choose : FnScope N_choose ["many", "some"] (defScope s_choose) := ⟨rfl, rfl, rfl, by decide +kernel, rfl, by decide +kernel, by decide +kernel⟩
abbrev s_just_to : Stmt := topS 8
abbrev N_just_to : List Str := ["sets", "some", "time", "found", "many", "length"]
theorem sc_just_to : FnScope N_just_to ["sets", "some", "time"] (defScope s_just_to) := ⟨rfl, rfl, rfl, by decide +kernel, rfl, by decide +kernel, by decide +kernel⟩
abbrev s_count_just : Stmt := topS 9
abbrev N_count_just : List Str := ["bells", "many", "low", "high", "sets"]
theorem sc_count_just : FnScope N_count_just ["bells", "many", "low", "high"] (defScope s_count_just) := ⟨rfl, rfl, rfl, by decide +kernel, rfl, by decide +kernel, by decide +kernel⟩
abbrev s_first_with : Stmt := topS 10
abbrev N_first_with : List Str := ["bells", "numbers", "low", "length", "number", "others", "parts", "turn", "period", "part"]
theorem sc_first_with : FnScope N_first_with ["bells", "numbers", "low"] (defScope s_first_with) := ⟨rfl, rfl, rfl, by decide +kernel, rfl, by decide +kernel, by decide +kernel⟩
abbrev s__law_cell : Stmt := topS 19
abbrev N__law_cell : List Str := ["script", "index"]
theorem sc__law_cell : FnScope N__law_cell ["script", "index"] (defScope s__law_cell) := ⟨rfl, rfl, rfl, by decide +kernel, rfl, by decide +kernel, by decide +kernel⟩
abbrev s__law_digits : Stmt := topS 20
abbrev N__law_digits : List Str := ["script", "index", "count", "base", "primes", "cell", "rest", "digits", "k", "mixed"]
theorem sc__law_digits : FnScope N__law_digits ["script", "index", "count", "base"] (defScope s__law_digits) := ⟨rfl, rfl, rfl, by decide +kernel, rfl, by decide +kernel, by decide +kernel⟩
abbrev s__law_gcd : Stmt := topS 21
abbrev N__law_gcd : List Str := ["one", "other"]
theorem sc__law_gcd : FnScope N__law_gcd ["one", "other"] (defScope s__law_gcd) := ⟨rfl, rfl, rfl, by decide +kernel, rfl, by decide +kernel, by decide +kernel⟩
abbrev s__law_lcm : Stmt := topS 22
abbrev N__law_lcm : List Str := ["one", "other"]
theorem sc__law_lcm : FnScope N__law_lcm ["one", "other"] (defScope s__law_lcm) := ⟨rfl, rfl, rfl, by decide +kernel, rfl, by decide +kernel, by decide +kernel⟩
abbrev s__law_bells : Stmt := topS 23
abbrev N__law_bells : List Str := ["digits", "most", "found", "k"]
theorem sc__law_bells : FnScope N__law_bells ["digits", "most"] (defScope s__law_bells) := ⟨rfl, rfl, rfl, by decide +kernel, rfl, by decide +kernel, by decide +kernel⟩
abbrev s__law_tower : Stmt := topS 24
abbrev N__law_tower : List Str := ["periods"]
theorem sc__law_tower : FnScope N__law_tower ["periods"] (defScope s__law_tower) := ⟨rfl, rfl, rfl, by decide +kernel, rfl, by decide +kernel, by decide +kernel⟩
abbrev s__law_ringing : Stmt := topS 25
abbrev N__law_ringing : List Str := ["periods", "time", "at", "period"]
theorem sc__law_ringing : FnScope N__law_ringing ["periods", "time"] (defScope s__law_ringing) := ⟨rfl, rfl, rfl, by decide +kernel, rfl, by decide +kernel, by decide +kernel⟩
abbrev s__law_sets : Stmt := topS 26
abbrev N__law_sets : List Str := ["many", "found", "number", "some"]
theorem sc__law_sets : FnScope N__law_sets ["many"] (defScope s__law_sets) := ⟨rfl, rfl, rfl, by decide +kernel, rfl, by decide +kernel, by decide +kernel⟩
abbrev s__law_long : Stmt := topS 27
abbrev N__law_long : List Str := ["periods", "some", "length", "number", "others", "period"]
theorem sc__law_long : FnScope N__law_long ["periods", "some"] (defScope s__law_long) := ⟨rfl, rfl, rfl, by decide +kernel, rfl, by decide +kernel, by decide +kernel⟩
abbrev s_law : Stmt := topS 28
abbrev N_law : List Str := ["script", "index", "digits", "periods", "bells", "low", "first", "time", "some", "found", "length", "always", "ahead", "far", "turn"]
theorem sc_law : FnScope N_law ["script"] (defScope s_law) := ⟨rfl, rfl, rfl, by decide +kernel, rfl, by decide +kernel, by decide +kernel⟩
def clsS (st : Stmt) (j : Nat) : Stmt := match st with
  | .ClassDef _ _ _ body .. => body.getD j (.Pass ⟨0, 0, 0, 0⟩)
  | s => s
abbrev sB___init__ : Stmt := clsS (topS 17) 1
abbrev NB___init__ : List Str := ["self", "periods", "period"]
theorem scB___init__ : FnScope NB___init__ ["self", "periods"] (defScope sB___init__) := ⟨rfl, rfl, rfl, by decide +kernel, rfl, by decide +kernel, by decide +kernel⟩
abbrev sB_periods : Stmt := clsS (topS 17) 2
abbrev NB_periods : List Str := ["self"]
theorem scB_periods : FnScope NB_periods ["self"] (defScope sB_periods) := ⟨rfl, rfl, rfl, by decide +kernel, rfl, by decide +kernel, by decide +kernel⟩
structure Bi (mg : Str → Option Value) : Prop where
  all_ : mg "all" = none
  any_ : mg "any" = none
  bool_ : mg "bool" = none
  enumerate_ : mg "enumerate" = none
  int_ : mg "int" = none
  isinstance_ : mg "isinstance" = none
  len_ : mg "len" = none
  min_ : mg "min" = none
  range_ : mg "range" = none
  tuple_ : mg "tuple" = none
section
variable {P : Program} {w : World} {K : PySem.W.Frag} {mg : Str → Option Value} {base : Heap} {C : Addr}
theorem ok_is_integer {f : Addr} {fd : FuncData} (F : Fun K "is_integer" "is_integer" s_is_integer f fd) (B : Bi mg) : FnOk P w K mg base CX0 1 f fd ["value", "low", "high"] (spD K C m_is_integer) :=
  have nd := sc_is_integer.nd
  fnD (k := 0) F sc_is_integer (by decide) fun cdv A outer s H E hr =>
    (dss_one (ds_ret (de_and (de_isi (T := "int") (by simp) (de_var 0) (by rfl) B.isinstance_ (by rfl) B.int_ bt_int) (de_and (de_not (de_isi (T := "bool") (by simp) (de_var 0) (by rfl) B.isinstance_ (by rfl) B.bool_ bt_bool)) (de_one (de_chain od_le od_le (de_var 1) (de_var 0) (de_var 2)))))))
theorem ok_gcd {f : Addr} {fd : FuncData} (F : Fun K "gcd" "gcd" s_gcd f fd) (B : Bi mg) : FnOk P w K mg base CX0 1 f fd ["one", "other"] (spD K C m_gcd) :=
  have nd := sc_gcd.nd
  fnD (k := 0) F sc_gcd (by decide) fun cdv A outer s H E hr =>
    (dss_cons (ds_while PassesOwn.never (dt_cmp (od_gt hr.units0) (de_var 1) de_int) (dss_one (ds_par 0 1 rfl nd (de_var 1) (de_op od_mod (de_var 0) (de_var 1)))))
      (dss_one (ds_ret (de_var 0))))
theorem ok_lcm {f : Addr} {fd : FuncData} (F : Fun K "lcm" "lcm" s_lcm f fd) (B : Bi mg) (c_gcd : Cal P w K mg base C 1 "gcd" ["one", "other"] m_gcd) : FnOk P w K mg base CX0 2 f fd ["one", "other"] (spD K C m_lcm) :=
  have nd := sc_lcm.nd
  fnD (k := 1) F sc_lcm (by decide) fun cdv A outer s H E hr =>
    (dss_one (ds_ret (de_op od_mul (de_op od_fdiv (de_var 0) (de_call c_gcd hr (by rfl) (da_cons (de_var 0) (da_cons (de_var 1) da_nil)))) (de_var 1))))
theorem ok_meetings {f : Addr} {fd : FuncData} (F : Fun K "meetings" "meetings" s_meetings f fd) (B : Bi mg) (BC : BeC P w K mg base C) (c_lcm : Cal P w K mg base C 2 "lcm" ["one", "other"] m_lcm) : FnOk P w K mg base CX0 3 f fd ["bells"] (spD K C m_meetings) :=
  have nd := sc_meetings.nd
  fnD (k := 2) F sc_meetings (by decide) fun cdv A outer s H E hr =>
    (dss_cons (ds_set 1 nd (de_lst (da_cons (de_tup (da_cons de_int (da_cons de_int da_nil))) da_nil)))
      (dss_cons (ds_for PassesOwn.never rfl (di_seq (de_periods BC hr (de_var 0))) (dg_name 2 nd) (dss_one (ds_set 1 nd (de_op od_add (de_var 1) (de_comp (own := [("many", 3), ("length", 4)]) rfl nd (di_seq (de_var 1)) (blkOk_by (N := N_meetings) (sc := defScope s_meetings) (by decide +kernel)) (fun _ _ _ _ _ => (dg_tup rfl (dg_cons (dg_name 3 nd) (dg_cons (dg_name 4 nd) dg_nil)) (gl1 (gl1 gl0)))) (fun _ _ _ _ _ => dts_nil) (fun _ _ _ _ _ => (de_tup (da_cons (de_op od_add (de_var 3) de_int) (da_cons (de_call c_lcm hr (by rfl) (da_cons (de_var 4) (da_cons (de_var 2) da_nil))) da_nil)))))))))
      (dss_one (ds_ret (de_var 1)))))
theorem ok_choose {f : Addr} {fd : FuncData} (F : Fun K "choose" "choose" s_choose f fd) (B : Bi mg) : FnOk P w K mg base CX0 1 f fd ["many", "some"] (spD K C m_choose) :=
  have nd := sc_choose.nd
  fnD (k := 0) F sc_choose (by decide) fun cdv A outer s H E hr =>
    (dss_cons (ds_set 2 nd de_int)
      (dss_cons (ds_for PassesOwn.never rfl (di_rng1 (by rfl) B.range_ (da_cons (de_var 1) da_nil)) (dg_name 3 nd) (dss_one (ds_set 2 nd (de_op od_fdiv (de_op od_mul (de_var 2) (de_op od_sub (de_var 0) (de_var 3))) (de_op od_add (de_var 3) de_int)))))
      (dss_one (ds_ret (de_var 2)))))
theorem ok_just_to {f : Addr} {fd : FuncData} (F : Fun K "just_to" "just_to" s_just_to f fd) (B : Bi mg) (c_choose : Cal P w K mg base C 1 "choose" ["many", "some"] m_choose) : FnOk P w K mg base CX0 2 f fd ["sets", "some", "time"] (spD K C m_just_to) :=
  have nd := sc_just_to.nd
  fnD (k := 1) F sc_just_to (by decide) fun cdv A outer s H E hr =>
    (dss_cons (ds_set 3 nd de_int)
      (dss_cons (ds_for PassesOwn.never rfl (di_seq (de_var 0)) (dg_tup rfl (dg_cons (dg_name 4 nd) (dg_cons (dg_name 5 nd) dg_nil)) (gl1 (gl1 gl0))) (dss_one (ds_if (dt_cmp od_ge (de_var 4) (de_var 1)) (dss_one (ds_set 3 nd (de_op od_add (de_var 3) (de_op od_mul (de_op od_mul (de_op od_add (de_op od_fdiv (de_var 2) (de_var 5)) de_int) (de_call c_choose hr (by rfl) (da_cons (de_var 4) (da_cons (de_var 1) da_nil)))) (de_if (dt_cmp (od_eq hr.units) (de_op od_mod (de_op od_sub (de_var 4) (de_var 1)) de_int) de_int) de_int (de_neg de_int)))))) dss_nil)))
      (dss_one (ds_ret (de_var 3)))))
theorem ok_count_just {f : Addr} {fd : FuncData} (F : Fun K "count_just" "count_just" s_count_just f fd) (B : Bi mg) (c_just_to : Cal P w K mg base C 2 "just_to" ["sets", "some", "time"] m_just_to) (c_meetings : Cal P w K mg base C 3 "meetings" ["bells"] m_meetings) : FnOk P w K mg base CX0 4 f fd ["bells", "many", "low", "high"] (spD K C m_count_just) :=
  have nd := sc_count_just.nd
  fnD (k := 3) F sc_count_just (by decide) fun cdv A outer s H E hr =>
    (dss_cons (ds_set 4 nd (de_call c_meetings hr (by rfl) (da_cons (de_var 0) da_nil)))
      (dss_one (ds_ret (de_if (dt_cmp od_le (de_var 2) (de_var 3)) (de_op od_sub (de_call c_just_to hr (by rfl) (da_cons (de_var 4) (da_cons (de_var 1) (da_cons (de_var 3) da_nil)))) (de_call c_just_to hr (by rfl) (da_cons (de_var 4) (da_cons (de_var 1) (da_cons (de_op od_sub (de_var 2) de_int) da_nil))))) de_int))))
theorem ok_first_with {f : Addr} {fd : FuncData} (F : Fun K "first_with" "first_with" s_first_with f fd) (B : Bi mg) (BC : BeC P w K mg base C) (c_gcd : Cal P w K mg base C 1 "gcd" ["one", "other"] m_gcd) (c_lcm : Cal P w K mg base C 2 "lcm" ["one", "other"] m_lcm) : FnOk P w K mg base CX0 3 f fd ["bells", "numbers", "low"] (spD K C m_first_with) :=
  have nd := sc_first_with.nd
  fnD (k := 2) F sc_first_with (by decide) fun cdv A outer s H E hr =>
    (dss_cons (ds_set 3 nd de_int)
      (dss_cons (ds_for PassesOwn.never rfl (di_seq (de_var 1)) (dg_name 4 nd) (dss_one (ds_set 3 nd (de_call c_lcm hr (by rfl) (da_cons (de_var 3) (da_cons (de_ix ix_d (de_periods BC hr (de_var 0)) (de_var 4)) da_nil))))))
      (dss_cons (ds_setLc 5 (own := [("number", 4), ("period", 8)]) rfl nd (di_enum (by rfl) B.enumerate_ (da_cons (de_periods BC hr (de_var 0)) da_nil)) (blkOk_by (N := N_first_with) (sc := defScope s_first_with) (by decide +kernel)) (fun _ _ _ _ _ => (dg_tup rfl (dg_cons (dg_name 4 nd) (dg_cons (dg_name 8 nd) dg_nil)) (gl1 (gl1 gl0)))) (fun _ _ _ _ _ => (dts_one (dt_cmp (od_notIn (hu65 hr)) (de_var 4) (de_var 1)))) (fun _ _ _ _ _ => (de_var 8)))
      (dss_cons (ds_setLc 6 (own := [("period", 8)]) rfl nd (di_seq (de_var 5)) (blkOk_by (N := N_first_with) (sc := defScope s_first_with) (by decide +kernel)) (fun _ _ _ _ _ => (dg_name 8 nd)) (fun _ _ _ _ _ => dts_nil) (fun _ _ _ _ _ => (de_op od_fdiv (de_var 8) (de_call c_gcd hr (by rfl) (da_cons (de_var 8) (da_cons (de_var 3) da_nil))))))
      (dss_cons (ds_if (dt_cmp (od_in (hu65 hr)) de_int (de_var 6)) (dss_one (ds_ret de_non)) dss_nil)
      (dss_cons (ds_set 7 nd (de_op od_fdiv (de_op od_sub (de_op od_add (de_var 2) (de_var 3)) de_int) (de_var 3)))
      (dss_cons (ds_while PassesOwn.never (dt_val (de_callB (cd_any rfl) (by rfl) B.any_ bt_any (da_cons (de_comp (own := [("part", 9)]) rfl nd (di_seq (de_var 6)) (blkOk_by (N := N_first_with) (sc := defScope s_first_with) (by decide +kernel)) (fun _ _ _ _ _ => (dg_name 9 nd)) (fun _ _ _ _ _ => dts_nil) (fun _ _ _ _ _ => (de_cmp (od_eq hr.units) (de_op od_mod (de_var 7) (de_var 9)) de_int))) da_nil))) (dss_one (ds_aug 7 nd de_int)))
      (dss_one (ds_ret (de_op od_mul (de_var 7) (de_var 3)))))))))))
theorem ok__law_cell {f : Addr} {fd : FuncData} (F : Fun K "_law_cell" "_law_cell" s__law_cell f fd) (B : Bi mg) : FnOk P w K mg base CX0 1 f fd ["script", "index"] (spD K C m_law_cell) :=
  have nd := sc__law_cell.nd
  fnD (k := 0) F sc__law_cell (by decide) fun cdv A outer s H E hr =>
    (dss_cons (ds_if (dt_cmp (od_lt hr.units0) (de_var 1) (de_callB cd_len (by rfl) B.len_ bt_len (da_cons (de_var 0) da_nil))) (dss_one (ds_ret (de_ix ix_d (de_var 0) (de_var 1)))) dss_nil)
      (dss_cons (ds_if (dt_cmp (od_eq hr.units) (de_callB cd_len (by rfl) B.len_ bt_len (da_cons (de_var 0) da_nil)) de_int) (dss_one (ds_ret (de_op od_add (de_op od_mul de_int (de_var 1)) de_int))) dss_nil)
      (dss_one (ds_ret (de_op od_add (de_op od_mod (de_ix ix_d (de_var 0) (de_op od_mod (de_var 1) (de_callB cd_len (by rfl) B.len_ bt_len (da_cons (de_var 0) da_nil)))) de_int) (de_op od_mul de_int (de_var 1)))))))
theorem ok__law_digits {f : Addr} {fd : FuncData} (F : Fun K "_law_digits" "_law_digits" s__law_digits f fd) (B : Bi mg) (c__law_cell : Cal P w K mg base C 1 "_law_cell" ["script", "index"] m_law_cell) : FnOk P w K mg base CX0 2 f fd ["script", "index", "count", "base"] (spD K C m_law_digits) :=
  have nd := sc__law_digits.nd
  fnD (k := 1) F sc__law_digits (by decide) fun cdv A outer s H E hr =>
    (dss_cons (ds_set 4 nd (de_tup (da_cons de_int (da_cons de_int (da_cons de_int (da_cons de_int (da_cons de_int (da_cons de_int (da_cons de_int (da_cons de_int da_nil))))))))))
      (dss_cons (ds_set 5 nd (de_call c__law_cell hr (by rfl) (da_cons (de_var 0) (da_cons (de_var 1) da_nil))))
      (dss_cons (ds_set 6 nd (de_if (dt_cmp od_ge (de_var 5) (de_op od_pow de_int de_int)) (de_var 5) de_int))
      (dss_cons (ds_setN 7 nd (dn_lst da_nil))
      (dss_cons (ds_for PassesOwn.never rfl (di_rng1 (by rfl) B.range_ (da_cons (de_var 2) da_nil)) (dg_name 8 nd) (dss_cons (ds_set 9 nd (de_op od_mul (de_op od_mod (de_var 5) (de_ix ix_d (de_var 4) (de_op od_mod (de_var 8) de_int))) (de_op od_add de_int (de_op od_mul (de_op od_mul de_int (de_var 8)) (de_var 8)))))
      (dss_cons (ds_set 9 nd (de_op od_add (de_op od_add (de_var 9) (de_op od_mul (de_op od_mul de_int (de_op od_add (de_var 8) de_int)) (de_op od_add (de_var 8) de_int))) (de_op od_mul de_int (de_var 1))))
      (dss_cons (ds_set 9 nd (de_op od_mod (de_var 9) (de_ix ix_d (de_var 4) (de_op od_mod (de_op od_add (de_op od_mul de_int (de_var 8)) (de_var 1)) de_int))))
      (dss_cons (ds_set 9 nd (de_op od_mod (de_op od_mul (de_op od_mul (de_var 9) (de_var 9)) (de_var 9)) (de_ix ix_d (de_var 4) (de_op od_mod (de_op od_add (de_var 8) de_int) de_int))))
      (dss_cons (ds_if (dt_cmp (od_gt hr.units0) (de_var 6) de_int) (dss_one (ds_set 9 nd (de_var 6))) dss_nil)
      (dss_cons (ds_app 7 (de_op od_mod (de_var 9) (de_var 3)))
      (dss_one (ds_set 6 nd (de_op od_fdiv (de_var 6) (de_var 3)))))))))))
      (dss_one (ds_frz (O1 := []) 7 (ds_ret (de_var 7)))))))))
theorem ok__law_gcd {f : Addr} {fd : FuncData} (F : Fun K "_law_gcd" "_law_gcd" s__law_gcd f fd) (B : Bi mg) : FnOk P w K mg base CX0 1 f fd ["one", "other"] (spD K C m_law_gcd) :=
  have nd := sc__law_gcd.nd
  fnD (k := 0) F sc__law_gcd (by decide) fun cdv A outer s H E hr =>
    (dss_cons (ds_while PassesOwn.never (dt_cmp (od_gt hr.units0) (de_var 1) de_int) (dss_one (ds_par 0 1 rfl nd (de_var 1) (de_op od_mod (de_var 0) (de_var 1)))))
      (dss_one (ds_ret (de_var 0))))
theorem ok__law_lcm {f : Addr} {fd : FuncData} (F : Fun K "_law_lcm" "_law_lcm" s__law_lcm f fd) (B : Bi mg) (c__law_gcd : Cal P w K mg base C 1 "_law_gcd" ["one", "other"] m_law_gcd) : FnOk P w K mg base CX0 2 f fd ["one", "other"] (spD K C m_law_lcm) :=
  have nd := sc__law_lcm.nd
  fnD (k := 1) F sc__law_lcm (by decide) fun cdv A outer s H E hr =>
    (dss_one (ds_ret (de_op od_fdiv (de_op od_mul (de_var 0) (de_var 1)) (de_call c__law_gcd hr (by rfl) (da_cons (de_var 0) (da_cons (de_var 1) da_nil))))))
theorem ok__law_bells {f : Addr} {fd : FuncData} (F : Fun K "_law_bells" "_law_bells" s__law_bells f fd) (B : Bi mg) : FnOk P w K mg base CX0 1 f fd ["digits", "most"] (spD K C m_law_bells) :=
  have nd := sc__law_bells.nd
  fnD (k := 0) F sc__law_bells (by decide) fun cdv A outer s H E hr =>
    (dss_cons (ds_set 2 nd (de_tup da_nil))
      (dss_cons (ds_for PassesOwn.never rfl (di_rng1 (by rfl) B.range_ (da_cons (de_op od_add de_int (de_op od_mod (de_ix ix_d (de_var 0) de_int) de_int)) da_nil)) (dg_name 3 nd) (dss_one (ds_set 2 nd (de_op od_add (de_var 2) (de_tup (da_cons (de_op od_add de_int (de_op od_mod (de_ix ix_d (de_var 0) (de_op od_add de_int (de_var 3))) (de_ix ix_d (de_lst (da_cons de_int (da_cons de_int (da_cons (de_var 1) da_nil)))) (de_op od_mod (de_ix ix_d (de_var 0) de_int) de_int)))) da_nil))))))
      (dss_one (ds_ret (de_var 2)))))
theorem ok__law_tower {f : Addr} {fd : FuncData} (F : Fun K "_law_tower" "_law_tower" s__law_tower f fd) (B : Bi mg) (BC : BeC P w K mg base C) : FnOk P w K mg base CX0 6 f fd ["periods"] (spD K C m_law_tower) :=
  have nd := sc__law_tower.nd
  fnD (k := 5) F sc__law_tower (by decide) fun cdv A outer s H E hr =>
    (dss_cons (ds_if (dt_cmp (od_eq hr.units) (de_callB cd_len (by rfl) B.len_ bt_len (da_cons (de_var 0) da_nil)) de_int) (dss_one (ds_ret (de_bells BC hr (by rfl) (da_cons (de_ix ix_d (de_var 0) de_int) da_nil)))) dss_nil)
      (dss_cons (ds_if (dt_cmp (od_eq hr.units) (de_callB cd_len (by rfl) B.len_ bt_len (da_cons (de_var 0) da_nil)) de_int) (dss_one (ds_ret (de_bells BC hr (by rfl) (da_cons (de_ix ix_d (de_var 0) de_int) (da_cons (de_ix ix_d (de_var 0) de_int) da_nil))))) dss_nil)
      (dss_cons (ds_if (dt_cmp (od_eq hr.units) (de_callB cd_len (by rfl) B.len_ bt_len (da_cons (de_var 0) da_nil)) de_int) (dss_one (ds_ret (de_bells BC hr (by rfl) (da_cons (de_ix ix_d (de_var 0) de_int) (da_cons (de_ix ix_d (de_var 0) de_int) (da_cons (de_ix ix_d (de_var 0) de_int) da_nil)))))) dss_nil)
      (dss_cons (ds_if (dt_cmp (od_eq hr.units) (de_callB cd_len (by rfl) B.len_ bt_len (da_cons (de_var 0) da_nil)) de_int) (dss_one (ds_ret (de_bells BC hr (by rfl) (da_cons (de_ix ix_d (de_var 0) de_int) (da_cons (de_ix ix_d (de_var 0) de_int) (da_cons (de_ix ix_d (de_var 0) de_int) (da_cons (de_ix ix_d (de_var 0) de_int) da_nil))))))) dss_nil)
      (dss_one (ds_ret (de_bells BC hr (by rfl) (da_cons (de_ix ix_d (de_var 0) de_int) (da_cons (de_ix ix_d (de_var 0) de_int) (da_cons (de_ix ix_d (de_var 0) de_int) (da_cons (de_ix ix_d (de_var 0) de_int) (da_cons (de_ix ix_d (de_var 0) de_int) da_nil))))))))))))
theorem ok__law_ringing {f : Addr} {fd : FuncData} (F : Fun K "_law_ringing" "_law_ringing" s__law_ringing f fd) (B : Bi mg) : FnOk P w K mg base CX0 1 f fd ["periods", "time"] (spD K C m_law_ringing) :=
  have nd := sc__law_ringing.nd
  fnD (k := 0) F sc__law_ringing (by decide) fun cdv A outer s H E hr =>
    (dss_one (ds_ret (de_callTy cd_tuple (by rfl) B.tuple_ bt_tuple (da_cons (de_comp (own := [("at", 2), ("period", 3)]) rfl nd (di_enum (by rfl) B.enumerate_ (da_cons (de_var 0) da_nil)) (blkOk_by (N := N__law_ringing) (sc := defScope s__law_ringing) (by decide +kernel)) (fun _ _ _ _ _ => (dg_tup rfl (dg_cons (dg_name 2 nd) (dg_cons (dg_name 3 nd) dg_nil)) (gl1 (gl1 gl0)))) (fun _ _ _ _ _ => (dts_one (dt_cmp (od_eq hr.units) (de_op od_mod (de_callTy cd_int (by rfl) B.int_ bt_int (da_cons (de_var 1) da_nil)) (de_var 3)) de_int))) (fun _ _ _ _ _ => (de_var 2))) da_nil))))
theorem ok__law_sets {f : Addr} {fd : FuncData} (F : Fun K "_law_sets" "_law_sets" s__law_sets f fd) (B : Bi mg) : FnOk P w K mg base CX0 1 f fd ["many"] (spD K C m_law_sets_2) :=
  have nd := sc__law_sets.nd
  fnD (k := 0) F sc__law_sets (by decide) fun cdv A outer s H E hr =>
    (dss_cons (ds_set 1 nd (de_lst (da_cons (de_tup da_nil) da_nil)))
      (dss_cons (ds_for PassesOwn.never rfl (di_rng1 (by rfl) B.range_ (da_cons (de_var 0) da_nil)) (dg_name 2 nd) (dss_one (ds_set 1 nd (de_op od_add (de_var 1) (de_comp (own := [("some", 3)]) rfl nd (di_seq (de_var 1)) (blkOk_by (N := N__law_sets) (sc := defScope s__law_sets) (by decide +kernel)) (fun _ _ _ _ _ => (dg_name 3 nd)) (fun _ _ _ _ _ => dts_nil) (fun _ _ _ _ _ => (de_op od_add (de_var 3) (de_tup (da_cons (de_var 2) da_nil)))))))))
      (dss_one (ds_ret (de_var 1)))))
theorem ok__law_long {f : Addr} {fd : FuncData} (F : Fun K "_law_long" "_law_long" s__law_long f fd) (B : Bi mg) (c__law_lcm : Cal P w K mg base C 2 "_law_lcm" ["one", "other"] m_law_lcm) : FnOk P w K mg base CX0 3 f fd ["periods", "some"] (spD K C m_law_long) :=
  have nd := sc__law_long.nd
  fnD (k := 2) F sc__law_long (by decide) fun cdv A outer s H E hr =>
    (dss_cons (ds_set 2 nd de_int)
      (dss_cons (ds_for PassesOwn.never rfl (di_seq (de_var 1)) (dg_name 3 nd) (dss_one (ds_set 2 nd (de_call c__law_lcm hr (by rfl) (da_cons (de_var 2) (da_cons (de_ix ix_d (de_var 0) (de_var 3)) da_nil))))))
      (dss_cons (ds_setLc 4 (own := [("number", 3), ("period", 5)]) rfl nd (di_enum (by rfl) B.enumerate_ (da_cons (de_var 0) da_nil)) (blkOk_by (N := N__law_long) (sc := defScope s__law_long) (by decide +kernel)) (fun _ _ _ _ _ => (dg_tup rfl (dg_cons (dg_name 3 nd) (dg_cons (dg_name 5 nd) dg_nil)) (gl1 (gl1 gl0)))) (fun _ _ _ _ _ => (dts_one (dt_cmp (od_notIn (hu65 hr)) (de_var 3) (de_var 1)))) (fun _ _ _ _ _ => (de_var 5)))
      (dss_one (ds_ret (de_tup (da_cons (de_var 2) (da_cons (de_cmp (od_ne hr.units) (de_comp (own := [("period", 5)]) rfl nd (di_seq (de_var 4)) (blkOk_by (N := N__law_long) (sc := defScope s__law_long) (by decide +kernel)) (fun _ _ _ _ _ => (dg_name 5 nd)) (fun _ _ _ _ _ => (dts_one (dt_cmp (od_eq hr.units) (de_op od_mod (de_var 2) (de_var 5)) de_int))) (fun _ _ _ _ _ => de_int)) (de_lst da_nil)) da_nil))))))))
theorem ok_law {f : Addr} {fd : FuncData} (F : Fun K "law" "law" s_law f fd) (B : Bi mg) (BC : BeC P w K mg base C) (c__law_bells : Cal P w K mg base C 1 "_law_bells" ["digits", "most"] m_law_bells) (c__law_digits : Cal P w K mg base C 2 "_law_digits" ["script", "index", "count", "base"] m_law_digits) (c__law_long : Cal P w K mg base C 3 "_law_long" ["periods", "some"] m_law_long) (c__law_ringing : Cal P w K mg base C 1 "_law_ringing" ["periods", "time"] m_law_ringing) (c__law_sets : Cal P w K mg base C 1 "_law_sets" ["many"] m_law_sets_2) (c__law_tower : Cal P w K mg base C 6 "_law_tower" ["periods"] m_law_tower) (c_count_just : Cal P w K mg base C 4 "count_just" ["bells", "many", "low", "high"] m_count_just) (c_first_with : Cal P w K mg base C 3 "first_with" ["bells", "numbers", "low"] m_first_with) : FnOk P w K mg base CX0 7 f fd ["script"] (spD K C m_k28) :=
  have nd := sc_law.nd
  fnD (k := 6) F sc_law (by decide) fun cdv A outer s H E hr =>
    (dss_cons (ds_for PassesOwn.never rfl (di_rng1 (by rfl) B.range_ (da_cons de_int da_nil)) (dg_name 1 nd) (dss_cons (ds_set 2 nd (de_call c__law_digits hr (by rfl) (da_cons (de_var 0) (da_cons (de_var 1) (da_cons de_int (da_cons de_int da_nil))))))
      (dss_cons (ds_set 3 nd (de_call c__law_bells hr (by rfl) (da_cons (de_var 2) (da_cons de_int da_nil))))
      (dss_cons (ds_part 4 5 rfl nd (de_call c__law_tower hr (by rfl) (da_cons (de_var 3) da_nil)) (de_op od_mod (de_ix ix_d (de_var 2) de_int) de_int))
      (dss_dic (i := 6) nd (p3_for PassesOwn.never rfl (di_rng2 (by rfl) B.range_ (da_cons (de_var 5) (da_cons (de_op od_add (de_var 5) de_int) da_nil))) (dg_name 7 nd) (p3_cons (p3_set 8 nd (de_call c__law_ringing hr (by rfl) (da_cons (de_var 3) (da_cons (de_var 7) da_nil))))
      (p3_cons (p3_put (hu1 hr) (de_var 8) (de_var 8) (de_var 7))
      p3_nil)) (by decide) (gN_none (by decide)))
      (dss_cons (ds_for PassesOwn.never rfl (di_seq (de_call c__law_sets hr (by rfl) (da_cons (de_callB cd_len (by rfl) B.len_ bt_len (da_cons (de_var 3) da_nil)) da_nil))) (dg_name 8 nd) (dss_cons (ds_asg (de_tup (da_cons (de_call c_first_with hr (by rfl) (da_cons (de_var 4) (da_cons (de_var 8) (da_cons (de_var 5) da_nil)))) (da_cons (de_call c__law_long hr (by rfl) (da_cons (de_var 3) (da_cons (de_var 8) da_nil))) da_nil))) (dg_tup rfl (dg_cons (dg_name 9 nd) (dg_cons (dg_tup rfl (dg_cons (dg_name 10 nd) (dg_cons (dg_name 11 nd) dg_nil)) (gl1 (gl1 gl0))) dg_nil)) (gl1 (gl1 gl0))))
      (dss_cons (ds_if (dt_w (dw_or (dt_cmp (od_ne hr.units) (de_cmp od_is (de_var 9) de_non) (de_var 11)) (dw_or1 (dt_w (dw_and (dt_din (hu1 hr) (de_var 8) (de_var 6)) (dw_and1 (dt_cmp (od_ne hr.units) (de_var 9) (de_dget (hu1 hr) (de_var 6) (de_var 8))))))))) (dss_one (ds_ret de_bl)) dss_nil)
      (dss_one (ds_if (dt_w (dw_and (dt_cmp od_isnot (de_var 9) de_non) (dw_and1 (dt_dnin (hu1 hr) (de_var 8) (de_var 6))))) (dss_cons (ds_if (dt_w (dw_or (dt_cmp (od_lt hr.units0) (de_var 9) (de_op od_add (de_var 5) de_int)) (dw_or1 (dt_cmp (od_ne hr.units) (de_call c__law_ringing hr (by rfl) (da_cons (de_var 3) (da_cons (de_var 9) da_nil))) (de_var 8))))) (dss_one (ds_ret de_bl)) dss_nil)
      (dss_cons (ds_setLc 12 (own := [("turn", 14)]) rfl nd (di_rng2 (by rfl) B.range_ (da_cons de_int (da_cons de_int da_nil))) (blkOk_by (N := N_law) (sc := defScope s_law) (by decide +kernel)) (fun _ _ _ _ _ => (dg_name 14 nd)) (fun _ _ _ _ _ => dts_nil) (fun _ _ _ _ _ => (de_op od_sub (de_var 9) (de_op od_mul (de_var 14) (de_var 10)))))
      (dss_one (ds_if (dt_cmp (od_ne hr.units) (de_comp (own := [("time", 7)]) rfl nd (di_seq (de_var 12)) (blkOk_by (N := N_law) (sc := defScope s_law) (by decide +kernel)) (fun _ _ _ _ _ => (dg_name 7 nd)) (fun _ _ _ _ _ => (dts_one (dt_w (dw_and (dt_cmp od_ge (de_var 7) (de_var 5)) (dw_and1 (dt_cmp (od_eq hr.units) (de_call c__law_ringing hr (by rfl) (da_cons (de_var 3) (da_cons (de_var 7) da_nil))) (de_var 8))))))) (fun _ _ _ _ _ => de_int)) (de_lst da_nil)) (dss_one (ds_ret de_bl)) dss_nil)))) dss_nil)))))
      (dss_cons (ds_set 8 nd (de_ix ix_d (de_call c__law_sets hr (by rfl) (da_cons (de_callB cd_len (by rfl) B.len_ bt_len (da_cons (de_var 3) da_nil)) da_nil)) (de_op od_mod (de_ix ix_d (de_var 2) de_int) (de_callB cd_len (by rfl) B.len_ bt_len (da_cons (de_call c__law_sets hr (by rfl) (da_cons (de_callB cd_len (by rfl) B.len_ bt_len (da_cons (de_var 3) da_nil)) da_nil)) da_nil)))))
      (dss_cons (ds_set 13 nd (de_op od_sub (de_op od_pow de_int de_int) (de_ix ix_d (de_var 2) de_int)))
      (dss_cons (ds_set 9 nd (de_call c_first_with hr (by rfl) (da_cons (de_var 4) (da_cons (de_var 8) (da_cons (de_var 13) da_nil)))))
      (dss_one (ds_if (dt_cmp od_isnot (de_var 9) de_non) (dss_cons (ds_if (dt_w (dw_or (dt_cmp (od_lt hr.units0) (de_var 9) (de_var 13)) (dw_or1 (dt_cmp (od_ne hr.units) (de_call c__law_ringing hr (by rfl) (da_cons (de_var 3) (da_cons (de_var 9) da_nil))) (de_var 8))))) (dss_one (ds_ret de_bl)) dss_nil)
      (dss_cons (ds_if (dt_w (dw_and (dt_cmp od_le (de_var 9) (de_op od_pow de_int de_int)) (dw_and1 (dt_cmp (od_ne hr.units) (de_call c_count_just hr (by rfl) (da_cons (de_var 4) (da_cons (de_callB cd_len (by rfl) B.len_ bt_len (da_cons (de_var 8) da_nil)) (da_cons (de_var 9) (da_cons (de_var 9) da_nil))))) de_int)))) (dss_one (ds_ret de_bl)) dss_nil)
      (dss_one (ds_if (dt_cmp (od_ne hr.units) (de_call c_first_with hr (by rfl) (da_cons (de_var 4) (da_cons (de_var 8) (da_cons (de_callB (cd_min rfl) (by rfl) B.min_ bt_min (da_cons (de_var 9) (da_cons (de_op od_pow de_int de_int) da_nil))) da_nil)))) (de_var 9)) (dss_one (ds_ret de_bl)) dss_nil)))) dss_nil)))))))))))
      (dss_cons (ds_if (dt_cmp (od_ne hr.units) (de_comp (own := [("some", 8)]) rfl nd (di_seq (de_tup (da_cons (de_tup (da_cons de_int da_nil)) (da_cons (de_tup (da_cons de_int da_nil)) (da_cons (de_tup (da_cons de_int (da_cons de_int da_nil))) (da_cons (de_tup da_nil) da_nil)))))) (blkOk_by (N := N_law) (sc := defScope s_law) (by decide +kernel)) (fun _ _ _ _ _ => (dg_name 8 nd)) (fun _ _ _ _ _ => dts_nil) (fun _ _ _ _ _ => (de_call c_first_with hr (by rfl) (da_cons (de_bells BC hr (by rfl) (da_cons de_int (da_cons de_int da_nil))) (da_cons (de_var 8) (da_cons de_int da_nil)))))) (de_lst (da_cons de_int (da_cons de_int (da_cons de_int (da_cons de_int da_nil)))))) (dss_one (ds_ret de_bl)) dss_nil)
      (dss_cons (ds_if (dt_w (dw_or (dt_cmp od_isnot (de_call c_first_with hr (by rfl) (da_cons (de_bells BC hr (by rfl) (da_cons de_int (da_cons de_int da_nil))) (da_cons (de_tup (da_cons de_int da_nil)) (da_cons de_int da_nil)))) de_non) (dw_or1 (dt_cmp od_isnot (de_call c_first_with hr (by rfl) (da_cons (de_bells BC hr (by rfl) (da_cons de_int da_nil)) (da_cons (de_tup da_nil) (da_cons de_int da_nil)))) de_non)))) (dss_one (ds_ret de_bl)) dss_nil)
      (dss_one (ds_ret (de_cmp (od_eq hr.units) (de_call c_first_with hr (by rfl) (da_cons (de_bells BC hr (by rfl) (da_cons de_int (da_cons de_int da_nil))) (da_cons (de_tup da_nil) (da_cons de_int da_nil)))) de_int))))))
theorem ok_init {f : Addr} {fd : FuncData} (F : Fun K "__init__" "Bells.__init__" sB___init__ f fd) (B : Bi mg) (cl : Cls K C) (nr : NoAttr K C "row") (MO : Most K C) (hmB : mg "Bells" = some (.ref C)) (c_is_integer : Cal P w K mg base C 1 "is_integer" ["value", "low", "high"] m_is_integer)
    (hv : ∀ ns, bellOk ns = true → m_init_t (none :: some (.tup (ns.map .int)) :: List.replicate (NB___init__.length - 2) none) = some false) : FnR P w K mg base CX0 4 f (spStar (spInit C)) :=
  have nd := scB___init__.nd
  init_ok (k := 3) F scB___init__ cl nr rfl (fun _ _ _ _ _ _ us rest hl => match us, hl, rest with | [_], _, [] => rfl | [_], _, _ :: _ => rfl) (fun cdv A outer s H E hr =>
    (dt_w (dw_or (dt_not (dt_chain od_le od_le de_int (de_callB cd_len (by rfl) B.len_ bt_len (da_cons (de_var 1) da_nil)) (de_most MO (by rfl) hmB))) (dw_or1 (dt_not (dt_val (de_callB (cd_all rfl) (by rfl) B.all_ bt_all (da_cons (de_comp (own := [("period", 2)]) rfl nd (di_seq (de_var 1)) (blkOk_by (N := NB___init__) (sc := defScope sB___init__) (by decide +kernel)) (fun _ _ _ _ _ => (dg_name 2 nd)) (fun _ _ _ _ _ => dts_nil) (fun _ _ _ _ _ => (de_call c_is_integer hr (by rfl) (da_cons (de_var 2) (da_cons de_int (da_cons de_int da_nil)))))) da_nil)))))))) hv rfl rfl (by decide) (by first | exact Or.inl rfl | exact Or.inr (Or.inl rfl)) (by first | exact Or.inl rfl | exact Or.inr (Or.inl rfl)) (fun _ => rfl)
end
end My
namespace My
open PySem PySem.Spec PyProof.Rows L2 DL Mi
theorem all_mk {l : PySem.W.OpenLaw} {w : World} {K : PySem.W.Frag} {h : Heap} {mg : Str → Option Value} {fa f0 f1 f2 f3 f4 f5 f6 f7 f8 f9 f10 f11 f12 f13 f14 f15 f16 f17 : Addr} (X : K.In h) (G : h.Ns mainGlobals mg) (hfa : mg "law" = some (.ref fa))
    {od0 an0 : Option Addr} {sl0 : Array (Option Value)} {oc0 kV0 dc0 pm0 cd0 ct0 : Value} (a0 : PySem.W.nsIn K mainGlobals "is_integer" = some (some (.ref f0))) (l0 : K.lookup f0 = some ⟨oc0, od0, .func (PySem.W.fnOf "is_integer" "is_integer" (defArgs s_is_integer) (defBody s_is_integer) (defScope s_is_integer) .none kV0 dc0 pm0 an0 cd0 ct0), sl0⟩) (c0 : PySem.W.codeIn K cd0 "is_integer" = true) (k0 : PySem.W.keepIn K (.ref f0) = true)
    {od1 an1 : Option Addr} {sl1 : Array (Option Value)} {oc1 kV1 dc1 pm1 cd1 ct1 : Value} (a1 : PySem.W.nsIn K mainGlobals "gcd" = some (some (.ref f1))) (l1 : K.lookup f1 = some ⟨oc1, od1, .func (PySem.W.fnOf "gcd" "gcd" (defArgs s_gcd) (defBody s_gcd) (defScope s_gcd) .none kV1 dc1 pm1 an1 cd1 ct1), sl1⟩) (c1 : PySem.W.codeIn K cd1 "gcd" = true) (k1 : PySem.W.keepIn K (.ref f1) = true)
    {od2 an2 : Option Addr} {sl2 : Array (Option Value)} {oc2 kV2 dc2 pm2 cd2 ct2 : Value} (a2 : PySem.W.nsIn K mainGlobals "lcm" = some (some (.ref f2))) (l2 : K.lookup f2 = some ⟨oc2, od2, .func (PySem.W.fnOf "lcm" "lcm" (defArgs s_lcm) (defBody s_lcm) (defScope s_lcm) .none kV2 dc2 pm2 an2 cd2 ct2), sl2⟩) (c2 : PySem.W.codeIn K cd2 "lcm" = true) (k2 : PySem.W.keepIn K (.ref f2) = true)
    {od3 an3 : Option Addr} {sl3 : Array (Option Value)} {oc3 kV3 dc3 pm3 cd3 ct3 : Value} (a3 : PySem.W.nsIn K mainGlobals "meetings" = some (some (.ref f3))) (l3 : K.lookup f3 = some ⟨oc3, od3, .func (PySem.W.fnOf "meetings" "meetings" (defArgs s_meetings) (defBody s_meetings) (defScope s_meetings) .none kV3 dc3 pm3 an3 cd3 ct3), sl3⟩) (c3 : PySem.W.codeIn K cd3 "meetings" = true) (k3 : PySem.W.keepIn K (.ref f3) = true)
    {od4 an4 : Option Addr} {sl4 : Array (Option Value)} {oc4 kV4 dc4 pm4 cd4 ct4 : Value} (a4 : PySem.W.nsIn K mainGlobals "choose" = some (some (.ref f4))) (l4 : K.lookup f4 = some ⟨oc4, od4, .func (PySem.W.fnOf "choose" "choose" (defArgs s_choose) (defBody s_choose) (defScope s_choose) .none kV4 dc4 pm4 an4 cd4 ct4), sl4⟩) (c4 : PySem.W.codeIn K cd4 "choose" = true) (k4 : PySem.W.keepIn K (.ref f4) = true)
    {od5 an5 : Option Addr} {sl5 : Array (Option Value)} {oc5 kV5 dc5 pm5 cd5 ct5 : Value} (a5 : PySem.W.nsIn K mainGlobals "just_to" = some (some (.ref f5))) (l5 : K.lookup f5 = some ⟨oc5, od5, .func (PySem.W.fnOf "just_to" "just_to" (defArgs s_just_to) (defBody s_just_to) (defScope s_just_to) .none kV5 dc5 pm5 an5 cd5 ct5), sl5⟩) (c5 : PySem.W.codeIn K cd5 "just_to" = true) (k5 : PySem.W.keepIn K (.ref f5) = true)
    {od6 an6 : Option Addr} {sl6 : Array (Option Value)} {oc6 kV6 dc6 pm6 cd6 ct6 : Value} (a6 : PySem.W.nsIn K mainGlobals "count_just" = some (some (.ref f6))) (l6 : K.lookup f6 = some ⟨oc6, od6, .func (PySem.W.fnOf "count_just" "count_just" (defArgs s_count_just) (defBody s_count_just) (defScope s_count_just) .none kV6 dc6 pm6 an6 cd6 ct6), sl6⟩) (c6 : PySem.W.codeIn K cd6 "count_just" = true) (k6 : PySem.W.keepIn K (.ref f6) = true)
    {od7 an7 : Option Addr} {sl7 : Array (Option Value)} {oc7 kV7 dc7 pm7 cd7 ct7 : Value} (a7 : PySem.W.nsIn K mainGlobals "first_with" = some (some (.ref f7))) (l7 : K.lookup f7 = some ⟨oc7, od7, .func (PySem.W.fnOf "first_with" "first_with" (defArgs s_first_with) (defBody s_first_with) (defScope s_first_with) .none kV7 dc7 pm7 an7 cd7 ct7), sl7⟩) (c7 : PySem.W.codeIn K cd7 "first_with" = true) (k7 : PySem.W.keepIn K (.ref f7) = true)
    {od8 an8 : Option Addr} {sl8 : Array (Option Value)} {oc8 kV8 dc8 pm8 cd8 ct8 : Value} (a8 : PySem.W.nsIn K mainGlobals "_law_cell" = some (some (.ref f8))) (l8 : K.lookup f8 = some ⟨oc8, od8, .func (PySem.W.fnOf "_law_cell" "_law_cell" (defArgs s__law_cell) (defBody s__law_cell) (defScope s__law_cell) .none kV8 dc8 pm8 an8 cd8 ct8), sl8⟩) (c8 : PySem.W.codeIn K cd8 "_law_cell" = true) (k8 : PySem.W.keepIn K (.ref f8) = true)
    {od9 an9 : Option Addr} {sl9 : Array (Option Value)} {oc9 kV9 dc9 pm9 cd9 ct9 : Value} (a9 : PySem.W.nsIn K mainGlobals "_law_digits" = some (some (.ref f9))) (l9 : K.lookup f9 = some ⟨oc9, od9, .func (PySem.W.fnOf "_law_digits" "_law_digits" (defArgs s__law_digits) (defBody s__law_digits) (defScope s__law_digits) .none kV9 dc9 pm9 an9 cd9 ct9), sl9⟩) (c9 : PySem.W.codeIn K cd9 "_law_digits" = true) (k9 : PySem.W.keepIn K (.ref f9) = true)
    {od10 an10 : Option Addr} {sl10 : Array (Option Value)} {oc10 kV10 dc10 pm10 cd10 ct10 : Value} (a10 : PySem.W.nsIn K mainGlobals "_law_gcd" = some (some (.ref f10))) (l10 : K.lookup f10 = some ⟨oc10, od10, .func (PySem.W.fnOf "_law_gcd" "_law_gcd" (defArgs s__law_gcd) (defBody s__law_gcd) (defScope s__law_gcd) .none kV10 dc10 pm10 an10 cd10 ct10), sl10⟩) (c10 : PySem.W.codeIn K cd10 "_law_gcd" = true) (k10 : PySem.W.keepIn K (.ref f10) = true)
    {od11 an11 : Option Addr} {sl11 : Array (Option Value)} {oc11 kV11 dc11 pm11 cd11 ct11 : Value} (a11 : PySem.W.nsIn K mainGlobals "_law_lcm" = some (some (.ref f11))) (l11 : K.lookup f11 = some ⟨oc11, od11, .func (PySem.W.fnOf "_law_lcm" "_law_lcm" (defArgs s__law_lcm) (defBody s__law_lcm) (defScope s__law_lcm) .none kV11 dc11 pm11 an11 cd11 ct11), sl11⟩) (c11 : PySem.W.codeIn K cd11 "_law_lcm" = true) (k11 : PySem.W.keepIn K (.ref f11) = true)
    {od12 an12 : Option Addr} {sl12 : Array (Option Value)} {oc12 kV12 dc12 pm12 cd12 ct12 : Value} (a12 : PySem.W.nsIn K mainGlobals "_law_bells" = some (some (.ref f12))) (l12 : K.lookup f12 = some ⟨oc12, od12, .func (PySem.W.fnOf "_law_bells" "_law_bells" (defArgs s__law_bells) (defBody s__law_bells) (defScope s__law_bells) .none kV12 dc12 pm12 an12 cd12 ct12), sl12⟩) (c12 : PySem.W.codeIn K cd12 "_law_bells" = true) (k12 : PySem.W.keepIn K (.ref f12) = true)
    {od13 an13 : Option Addr} {sl13 : Array (Option Value)} {oc13 kV13 dc13 pm13 cd13 ct13 : Value} (a13 : PySem.W.nsIn K mainGlobals "_law_tower" = some (some (.ref f13))) (l13 : K.lookup f13 = some ⟨oc13, od13, .func (PySem.W.fnOf "_law_tower" "_law_tower" (defArgs s__law_tower) (defBody s__law_tower) (defScope s__law_tower) .none kV13 dc13 pm13 an13 cd13 ct13), sl13⟩) (c13 : PySem.W.codeIn K cd13 "_law_tower" = true) (k13 : PySem.W.keepIn K (.ref f13) = true)
    {od14 an14 : Option Addr} {sl14 : Array (Option Value)} {oc14 kV14 dc14 pm14 cd14 ct14 : Value} (a14 : PySem.W.nsIn K mainGlobals "_law_ringing" = some (some (.ref f14))) (l14 : K.lookup f14 = some ⟨oc14, od14, .func (PySem.W.fnOf "_law_ringing" "_law_ringing" (defArgs s__law_ringing) (defBody s__law_ringing) (defScope s__law_ringing) .none kV14 dc14 pm14 an14 cd14 ct14), sl14⟩) (c14 : PySem.W.codeIn K cd14 "_law_ringing" = true) (k14 : PySem.W.keepIn K (.ref f14) = true)
    {od15 an15 : Option Addr} {sl15 : Array (Option Value)} {oc15 kV15 dc15 pm15 cd15 ct15 : Value} (a15 : PySem.W.nsIn K mainGlobals "_law_sets" = some (some (.ref f15))) (l15 : K.lookup f15 = some ⟨oc15, od15, .func (PySem.W.fnOf "_law_sets" "_law_sets" (defArgs s__law_sets) (defBody s__law_sets) (defScope s__law_sets) .none kV15 dc15 pm15 an15 cd15 ct15), sl15⟩) (c15 : PySem.W.codeIn K cd15 "_law_sets" = true) (k15 : PySem.W.keepIn K (.ref f15) = true)
    {od16 an16 : Option Addr} {sl16 : Array (Option Value)} {oc16 kV16 dc16 pm16 cd16 ct16 : Value} (a16 : PySem.W.nsIn K mainGlobals "_law_long" = some (some (.ref f16))) (l16 : K.lookup f16 = some ⟨oc16, od16, .func (PySem.W.fnOf "_law_long" "_law_long" (defArgs s__law_long) (defBody s__law_long) (defScope s__law_long) .none kV16 dc16 pm16 an16 cd16 ct16), sl16⟩) (c16 : PySem.W.codeIn K cd16 "_law_long" = true) (k16 : PySem.W.keepIn K (.ref f16) = true)
    {od17 an17 : Option Addr} {sl17 : Array (Option Value)} {oc17 kV17 dc17 pm17 cd17 ct17 : Value} (a17 : PySem.W.nsIn K mainGlobals "law" = some (some (.ref f17))) (l17 : K.lookup f17 = some ⟨oc17, od17, .func (PySem.W.fnOf "law" "law" (defArgs s_law) (defBody s_law) (defScope s_law) .none kV17 dc17 pm17 an17 cd17 ct17), sl17⟩) (c17 : PySem.W.codeIn K cd17 "law" = true) (k17 : PySem.W.keepIn K (.ref f17) = true)
    (z_all : PySem.W.nsIn K mainGlobals "all" = some none)
    (z_any : PySem.W.nsIn K mainGlobals "any" = some none)
    (z_bool : PySem.W.nsIn K mainGlobals "bool" = some none)
    (z_enumerate : PySem.W.nsIn K mainGlobals "enumerate" = some none)
    (z_int : PySem.W.nsIn K mainGlobals "int" = some none)
    (z_isinstance : PySem.W.nsIn K mainGlobals "isinstance" = some none)
    (z_len : PySem.W.nsIn K mainGlobals "len" = some none)
    (z_min : PySem.W.nsIn K mainGlobals "min" = some none)
    (z_range : PySem.W.nsIn K mainGlobals "range" = some none)
    (z_tuple : PySem.W.nsIn K mainGlobals "tuple" = some none)
    {C fI fP pP : Addr} (e1 : PySem.W.nsIn K mainGlobals "Bells" = some (some (.ref C))) (e2 : PySem.W.plainGet K C Str.empty = true) (e3 : PySem.W.hasDictIn K C = true) (e4 : PySem.W.plainOver K C = true) (e5 : PySem.W.findIn K (.ref C) "__setattr__" = some (some (.builtin "object.__setattr__"))) (e6 : PySem.W.findIn K (.ref C) "row" = some none)
    (e7 : PySem.W.makesIn K C = true) (e8 : PySem.W.findIn K (.ref C) "__init__" = some (some (.ref fI))) (e9 : PySem.W.isFn K (.ref fI) = true) (e10 : PySem.W.keepIn K (.ref C) = true)
    {odI anI : Option Addr} {slI : Array (Option Value)} {ocI kVI dcI pmI cdI ctI : Value} (lI : K.lookup fI = some ⟨ocI, odI, .func (PySem.W.fnOf "__init__" "Bells.__init__" (defArgs sB___init__) (defBody sB___init__) (defScope sB___init__) .none kVI dcI pmI anI cdI ctI), slI⟩) (cI : PySem.W.codeIn K cdI "Bells.__init__" = true) (kI : PySem.W.keepIn K (.ref fI) = true)
    {odP anP : Option Addr} {slP : Array (Option Value)} {ocP kVP dcP pmP cdP ctP : Value} (lP : K.lookup fP = some ⟨ocP, odP, .func (PySem.W.fnOf "periods" "Bells.periods" (defArgs sB_periods) (defBody sB_periods) (defScope sB_periods) .none kVP dcP pmP anP cdP ctP), slP⟩) (cP : PySem.W.codeIn K cdP "Bells.periods" = true) (kP : PySem.W.keepIn K (.ref fP) = true)
    {tM : Tok} {rest : List Value} (e11 : PySem.W.readsIn K C (.type "type") = true) (e12 : PySem.W.specialIn K (.ref C) "__getattribute__" = some (some (.builtin "type.__getattribute__"))) (e13 : PySem.W.findCls K (.ref C) (.type "type") "MOST" = some (.val (.int 5 tM)))
    (e14 : PySem.W.findIn K (.ref C) "periods" = some (some (.ref pP))) (e15 : PySem.W.specialIn K (.ref pP) "__get__" = some (some (.builtin "property.__get__"))) (e16 : PySem.W.takesIn K (.ref pP) = some true) (e17 : PySem.W.recIn K pP "property" = some (.ref fP :: rest))
    : ∃ fd : FuncData, (∀ (s : Shared) (v : Value), BindsTo s fd ⟨[v], []⟩ [("script", v)]) ∧ ∀ base : Heap, K.In base → base.Ns mainGlobals mg → FnOk l.prog w K mg base CX0 7 fa fd ["script"] (spD K C m_k28) := by
  have e := hfa.symm.trans (PySem.W.mg_of X G a17)
  cases e
  have F0 := fun_mk (st := s_is_integer) l0 c0 k0
  have F1 := fun_mk (st := s_gcd) l1 c1 k1
  have F2 := fun_mk (st := s_lcm) l2 c2 k2
  have F3 := fun_mk (st := s_meetings) l3 c3 k3
  have F4 := fun_mk (st := s_choose) l4 c4 k4
  have F5 := fun_mk (st := s_just_to) l5 c5 k5
  have F6 := fun_mk (st := s_count_just) l6 c6 k6
  have F7 := fun_mk (st := s_first_with) l7 c7 k7
  have F8 := fun_mk (st := s__law_cell) l8 c8 k8
  have F9 := fun_mk (st := s__law_digits) l9 c9 k9
  have F10 := fun_mk (st := s__law_gcd) l10 c10 k10
  have F11 := fun_mk (st := s__law_lcm) l11 c11 k11
  have F12 := fun_mk (st := s__law_bells) l12 c12 k12
  have F13 := fun_mk (st := s__law_tower) l13 c13 k13
  have F14 := fun_mk (st := s__law_ringing) l14 c14 k14
  have F15 := fun_mk (st := s__law_sets) l15 c15 k15
  have F16 := fun_mk (st := s__law_long) l16 c16 k16
  have F17 := fun_mk (st := s_law) l17 c17 k17
  have B : Bi mg := ⟨PySem.W.mg_none_of X G z_all, PySem.W.mg_none_of X G z_any, PySem.W.mg_none_of X G z_bool, PySem.W.mg_none_of X G z_enumerate, PySem.W.mg_none_of X G z_int, PySem.W.mg_none_of X G z_isinstance, PySem.W.mg_none_of X G z_len, PySem.W.mg_none_of X G z_min, PySem.W.mg_none_of X G z_range, PySem.W.mg_none_of X G z_tuple⟩
  have b0 := F0.binds (ps := ["value", "low", "high"]) fun _ _ _ _ _ _ us hl => match us, hl with | [_, _, _], _ => rfl
  have b1 := F1.binds (ps := ["one", "other"]) fun _ _ _ _ _ _ us hl => match us, hl with | [_, _], _ => rfl
  have b2 := F2.binds (ps := ["one", "other"]) fun _ _ _ _ _ _ us hl => match us, hl with | [_, _], _ => rfl
  have b3 := F3.binds (ps := ["bells"]) fun _ _ _ _ _ _ us hl => match us, hl with | [_], _ => rfl
  have b4 := F4.binds (ps := ["many", "some"]) fun _ _ _ _ _ _ us hl => match us, hl with | [_, _], _ => rfl
  have b5 := F5.binds (ps := ["sets", "some", "time"]) fun _ _ _ _ _ _ us hl => match us, hl with | [_, _, _], _ => rfl
  have b6 := F6.binds (ps := ["bells", "many", "low", "high"]) fun _ _ _ _ _ _ us hl => match us, hl with | [_, _, _, _], _ => rfl
  have b7 := F7.binds (ps := ["bells", "numbers", "low"]) fun _ _ _ _ _ _ us hl => match us, hl with | [_, _, _], _ => rfl
  have b8 := F8.binds (ps := ["script", "index"]) fun _ _ _ _ _ _ us hl => match us, hl with | [_, _], _ => rfl
  have b9 := F9.binds (ps := ["script", "index", "count", "base"]) fun _ _ _ _ _ _ us hl => match us, hl with | [_, _, _, _], _ => rfl
  have b10 := F10.binds (ps := ["one", "other"]) fun _ _ _ _ _ _ us hl => match us, hl with | [_, _], _ => rfl
  have b11 := F11.binds (ps := ["one", "other"]) fun _ _ _ _ _ _ us hl => match us, hl with | [_, _], _ => rfl
  have b12 := F12.binds (ps := ["digits", "most"]) fun _ _ _ _ _ _ us hl => match us, hl with | [_, _], _ => rfl
  have b13 := F13.binds (ps := ["periods"]) fun _ _ _ _ _ _ us hl => match us, hl with | [_], _ => rfl
  have b14 := F14.binds (ps := ["periods", "time"]) fun _ _ _ _ _ _ us hl => match us, hl with | [_, _], _ => rfl
  have b15 := F15.binds (ps := ["many"]) fun _ _ _ _ _ _ us hl => match us, hl with | [_], _ => rfl
  have b16 := F16.binds (ps := ["periods", "some"]) fun _ _ _ _ _ _ us hl => match us, hl with | [_, _], _ => rfl
  have FI := fun_mk (st := sB___init__) lI cI kI
  have FP := fun_mk (st := sB_periods) lP cP kP
  have cl : Cls K C := ⟨e2, e3, e4, e5⟩
  have hmB : mg "Bells" = some (.ref C) := PySem.W.mg_of X G e1
  have MO : Most K C := ⟨.type "type", _, ⟨e11, e12⟩, ⟨e13, ⟨_, rfl⟩⟩⟩
  refine ⟨PySem.W.fnOf "law" "law" (defArgs s_law) (defBody s_law) (defScope s_law) .none kV17 dc17 pm17 an17 cd17 ct17, fun s v => .of_eq rfl, fun base _ _ => ?_⟩
  have C_is_integer : Cal l.prog w K mg base C 1 "is_integer" ["value", "low", "high"] m_is_integer := ⟨⟨_, _, ok_is_integer F0 B , PySem.W.mg_of X G a0, F0.kp, b0⟩⟩
  have C_gcd : Cal l.prog w K mg base C 1 "gcd" ["one", "other"] m_gcd := ⟨⟨_, _, ok_gcd F1 B , PySem.W.mg_of X G a1, F1.kp, b1⟩⟩
  have C_lcm : Cal l.prog w K mg base C 2 "lcm" ["one", "other"] m_lcm := ⟨⟨_, _, ok_lcm F2 B C_gcd, PySem.W.mg_of X G a2, F2.kp, b2⟩⟩
  have BC : BeC l.prog w K mg base C := ⟨cl, e6, ⟨fI, ⟨e7, e8, e9, e10⟩, ok_init FI B cl e6 MO hmB C_is_integer Mi.init_test, hmB⟩, prop_ok FP scB_periods rfl rfl cl e6 (fun _ _ _ _ _ _ us hl => match us, hl with | [_], _ => rfl) ⟨e14, e15, e16, ⟨rest, e17⟩⟩⟩
  have C_meetings : Cal l.prog w K mg base C 3 "meetings" ["bells"] m_meetings := ⟨⟨_, _, ok_meetings F3 B BC C_lcm, PySem.W.mg_of X G a3, F3.kp, b3⟩⟩
  have C_choose : Cal l.prog w K mg base C 1 "choose" ["many", "some"] m_choose := ⟨⟨_, _, ok_choose F4 B , PySem.W.mg_of X G a4, F4.kp, b4⟩⟩
  have C_just_to : Cal l.prog w K mg base C 2 "just_to" ["sets", "some", "time"] m_just_to := ⟨⟨_, _, ok_just_to F5 B C_choose, PySem.W.mg_of X G a5, F5.kp, b5⟩⟩
  have C_count_just : Cal l.prog w K mg base C 4 "count_just" ["bells", "many", "low", "high"] m_count_just := ⟨⟨_, _, ok_count_just F6 B C_just_to C_meetings, PySem.W.mg_of X G a6, F6.kp, b6⟩⟩
  have C_first_with : Cal l.prog w K mg base C 3 "first_with" ["bells", "numbers", "low"] m_first_with := ⟨⟨_, _, ok_first_with F7 B BC C_gcd C_lcm, PySem.W.mg_of X G a7, F7.kp, b7⟩⟩
  have C__law_cell : Cal l.prog w K mg base C 1 "_law_cell" ["script", "index"] m_law_cell := ⟨⟨_, _, ok__law_cell F8 B , PySem.W.mg_of X G a8, F8.kp, b8⟩⟩
  have C__law_digits : Cal l.prog w K mg base C 2 "_law_digits" ["script", "index", "count", "base"] m_law_digits := ⟨⟨_, _, ok__law_digits F9 B C__law_cell, PySem.W.mg_of X G a9, F9.kp, b9⟩⟩
  have C__law_gcd : Cal l.prog w K mg base C 1 "_law_gcd" ["one", "other"] m_law_gcd := ⟨⟨_, _, ok__law_gcd F10 B , PySem.W.mg_of X G a10, F10.kp, b10⟩⟩
  have C__law_lcm : Cal l.prog w K mg base C 2 "_law_lcm" ["one", "other"] m_law_lcm := ⟨⟨_, _, ok__law_lcm F11 B C__law_gcd, PySem.W.mg_of X G a11, F11.kp, b11⟩⟩
  have C__law_bells : Cal l.prog w K mg base C 1 "_law_bells" ["digits", "most"] m_law_bells := ⟨⟨_, _, ok__law_bells F12 B , PySem.W.mg_of X G a12, F12.kp, b12⟩⟩
  have C__law_tower : Cal l.prog w K mg base C 6 "_law_tower" ["periods"] m_law_tower := ⟨⟨_, _, ok__law_tower F13 B BC , PySem.W.mg_of X G a13, F13.kp, b13⟩⟩
  have C__law_ringing : Cal l.prog w K mg base C 1 "_law_ringing" ["periods", "time"] m_law_ringing := ⟨⟨_, _, ok__law_ringing F14 B , PySem.W.mg_of X G a14, F14.kp, b14⟩⟩
  have C__law_sets : Cal l.prog w K mg base C 1 "_law_sets" ["many"] m_law_sets_2 := ⟨⟨_, _, ok__law_sets F15 B , PySem.W.mg_of X G a15, F15.kp, b15⟩⟩
  have C__law_long : Cal l.prog w K mg base C 3 "_law_long" ["periods", "some"] m_law_long := ⟨⟨_, _, ok__law_long F16 B C__law_lcm, PySem.W.mg_of X G a16, F16.kp, b16⟩⟩
  exact ok_law F17 B BC C__law_bells C__law_digits C__law_long C__law_ringing C__law_sets C__law_tower C_count_just C_first_with
end My
open PySem PySem.W PyProof.Rows
set_option maxHeartbeats 0 in
theorem PySem.Challenge.cw_meetperiods_k28_whole_first_times_with_j_holds : PySem.Challenge.rw_meetperiods_k28_whole_first_times_with_j.Holds := by
  w_on; o_law; k_head; (case hw => w_witness2)
  k_fill
  refine L2.walk_of (l := PySem.Challenge.rw_meetperiods_k28_whole_first_times_with_j) (n := 63) (k := 7) (x := "script") (CX := fun _ => L2.CX0) (sp := fun w => DL.spD _ 204 Mi.m_k28) rfl (by decide) rfl ⟨rfl, by decide, by decide⟩ (fun w h Y => PySem.W.kIn_of Y) ?F (fun _ H a ns hl _ hS => ⟨H, [.scr ns], .bl true, L2.Same.refl _, DL.RpL.one ⟨a, rfl, hS⟩, Mi.plain_k28 ns hl, fun _ _ _ _ r => r⟩) (fun _ _ _ _ _ h => h)
  case F =>
    intro w mg fa h KX G hmg
    refine' My.all_mk KX G hmg ?a0 ?l0 ?c0 ?k0 ?a1 ?l1 ?c1 ?k1 ?a2 ?l2 ?c2 ?k2 ?a3 ?l3 ?c3 ?k3 ?a4 ?l4 ?c4 ?k4 ?a5 ?l5 ?c5 ?k5 ?a6 ?l6 ?c6 ?k6 ?a7 ?l7 ?c7 ?k7 ?a8 ?l8 ?c8 ?k8 ?a9 ?l9 ?c9 ?k9 ?a10 ?l10 ?c10 ?k10 ?a11 ?l11 ?c11 ?k11 ?a12 ?l12 ?c12 ?k12 ?a13 ?l13 ?c13 ?k13 ?a14 ?l14 ?c14 ?k14 ?a15 ?l15 ?c15 ?k15 ?a16 ?l16 ?c16 ?k16 ?a17 ?l17 ?c17 ?k17 ?z_all ?z_any ?z_bool ?z_enumerate ?z_int ?z_isinstance ?z_len ?z_min ?z_range ?z_tuple ?e1 ?e2 ?e3 ?e4 ?e5 ?e6 ?e7 ?e8 ?e9 ?e10 ?lI ?cI ?kI ?lP ?cP ?kP ?e11 ?e12 ?e13 ?e14 ?e15 ?e16 ?e17
    (case a0 => k_is)
    (case l0 => k_is)
    (case c0 => k_is)
    (case k0 => k_is)
    (case a1 => k_is)
    (case l1 => k_is)
    (case c1 => k_is)
    (case k1 => k_is)
    (case a2 => k_is)
    (case l2 => k_is)
    (case c2 => k_is)
    (case k2 => k_is)
    (case a3 => k_is)
    (case l3 => k_is)
    (case c3 => k_is)
    (case k3 => k_is)
    (case a4 => k_is)
    (case l4 => k_is)
    (case c4 => k_is)
    (case k4 => k_is)
    (case a5 => k_is)
    (case l5 => k_is)
    (case c5 => k_is)
    (case k5 => k_is)
    (case a6 => k_is)
    (case l6 => k_is)
    (case c6 => k_is)
    (case k6 => k_is)
    (case a7 => k_is)
    (case l7 => k_is)
    (case c7 => k_is)
    (case k7 => k_is)
    (case a8 => k_is)
    (case l8 => k_is)
    (case c8 => k_is)
    (case k8 => k_is)
    (case a9 => k_is)
    (case l9 => k_is)
    (case c9 => k_is)
    (case k9 => k_is)
    (case a10 => k_is)
    (case l10 => k_is)
    (case c10 => k_is)
    (case k10 => k_is)
    (case a11 => k_is)
    (case l11 => k_is)
    (case c11 => k_is)
    (case k11 => k_is)
    (case a12 => k_is)
    (case l12 => k_is)
    (case c12 => k_is)
    (case k12 => k_is)
    (case a13 => k_is)
    (case l13 => k_is)
    (case c13 => k_is)
    (case k13 => k_is)
    (case a14 => k_is)
    (case l14 => k_is)
    (case c14 => k_is)
    (case k14 => k_is)
    (case a15 => k_is)
    (case l15 => k_is)
    (case c15 => k_is)
    (case k15 => k_is)
    (case a16 => k_is)
    (case l16 => k_is)
    (case c16 => k_is)
    (case k16 => k_is)
    (case a17 => k_is)
    (case l17 => k_is)
    (case c17 => k_is)
    (case k17 => k_is)
    (case z_all => k_is)
    (case z_any => k_is)
    (case z_bool => k_is)
    (case z_enumerate => k_is)
    (case z_int => k_is)
    (case z_isinstance => k_is)
    (case z_len => k_is)
    (case z_min => k_is)
    (case z_range => k_is)
    (case z_tuple => k_is)
    (case e1 => k_is)
    (case e2 => k_is)
    (case e3 => k_is)
    (case e4 => k_is)
    (case e5 => k_is)
    (case e6 => k_is)
    (case e7 => k_is)
    (case e8 => k_is)
    (case e9 => k_is)
    (case e10 => k_is)
    (case e11 => k_is)
    (case e12 => k_is)
    (case e13 => k_is)
    (case e14 => k_is)
    (case e15 => k_is)
    (case e16 => k_is)
    (case e17 => k_is)
    (case lI => k_is)
    (case cI => k_is)
    (case kI => k_is)
    (case lP => k_is)
    (case cP => k_is)
    (case kP => k_is)
