import PyProof.Rows.All
import Wide.All
import OpenK.AllK
import Wide.FinOn
import HandS.ClsMeth
import HandS.Deep
import HandS.Flow
import HandS.ForMost
import HandS.GenCall
import HandS.GenList
import HandS.GenYield
import HandS.IsInst
import HandS.Property
import HandS.SetFor
import HandS.SortInts
import HandS.SortRule
import HandS.Star
import HandS.Strs
import HandS.Style
import HandS.TupAny
import HandS.TupLe
import HandS.TupMul
import HandS.TupSets
import HandS.Wide
import HandS.Zip
import KE.DataMinMax
import KE.GoesEnum
import KE.GoesMore
import KE.GoesZip
import KE.SortData
import PyProof.P3In
import PySem.Challenge.RW_meetperiods_k23_whole_single_mends
set_option Elab.async false
set_option linter.all false
set_option maxRecDepth 100000
set_option maxHeartbeats 4000000
namespace DL
open PySem PySem.Spec PyProof.Rows L2
/-- other data: dicts (tuples of ints to ints) -/
inductive XD where
  | dic (kvs : List (List Int × Int))
def encD (kvs : List (List Int × Int)) : List (List L2.Key × V) := kvs.map fun p => (p.1.map Sum.inl, V.int p.2)
def RpX (H : Hp) : XD → V → Prop
  | .dic kvs, v => ∃ a, v = .ref a ∧ H a = some (.dT (encD kvs))
theorem RpX.mono {F F' : Hp} (s : Same F F') : ∀ (x : XD) (v : V), RpX F x v → RpX F' x v
  | .dic kvs, v, h => by
    obtain ⟨a, e, ha⟩ := h
    exact ⟨a, e, s _ _ ha⟩
/-- data: none, bools, ints, texts, tuples, lists, bells (by their periods), the script -/
inductive D where
  | non | bl (b : Bool) | int (i : Int) | str (x : Str) | tup (xs : List D) | lst (xs : List D) | bell (ps : List Int) | scr (ns : List Int) | ext (x : XD)
mutual
/-- v stands for d in the frozen heap H -/
def Rp (K : PySem.W.Frag) (C : Addr) (H : Hp) : D → V → Prop
  | .non, v => v = .non
  | .bl b, v => v = .bl b
  | .int i, v => v = .int i
  | .str x, v => v = .str x
  | .tup ds, v => ∃ a xs, v = .ref a ∧ H a = some (.tup xs) ∧ RpL K C H ds xs
  | .lst ds, v => ∃ a xs, v = .ref a ∧ H a = some (.lst xs) ∧ RpL K C H ds xs
  | .bell ps, v => ∃ a dx t, v = .ref a ∧ H a = some (.ins C dx [("row", .ref t)]) ∧ H t = some (.tup (ps.map V.int))
  | .scr ns, v => ∃ a, v = .ref a ∧ SqL K H a (ns.map V.int)
  | .ext x, v => RpX H x v
def RpL (K : PySem.W.Frag) (C : Addr) (H : Hp) : List D → List V → Prop
  | [], xs => xs = []
  | d :: ds, xs => ∃ x r, xs = x :: r ∧ Rp K C H d x ∧ RpL K C H ds r
end
section
variable {K : PySem.W.Frag} {C : Addr} {F F' H H' : Hp}
mutual
theorem Rp.mono (s : Same F F') : ∀ (d : D) (v : V), Rp K C F d v → Rp K C F' d v
  | .non, _, h => h
  | .bl _, _, h => h
  | .int _, _, h => h
  | .str _, _, h => h
  | .tup ds, v, h => by
    simp only [Rp] at h ⊢
    obtain ⟨a, xs, e, ha, hl⟩ := h
    exact ⟨a, xs, e, s _ _ ha, RpL.mono s ds xs hl⟩
  | .lst ds, v, h => by
    simp only [Rp] at h ⊢
    obtain ⟨a, xs, e, ha, hl⟩ := h
    exact ⟨a, xs, e, s _ _ ha, RpL.mono s ds xs hl⟩
  | .bell ps, v, h => by
    simp only [Rp] at h ⊢
    obtain ⟨a, dx, t, e, ha, ht⟩ := h
    exact ⟨a, dx, t, e, s _ _ ha, s _ _ ht⟩
  | .scr ns, v, h => by
    simp only [Rp] at h ⊢
    obtain ⟨a, e, ha⟩ := h
    exact ⟨a, e, s.seq ha⟩
  | .ext x, v, h => by
    simp only [Rp] at h ⊢
    exact RpX.mono s x v h
theorem RpL.mono (s : Same F F') : ∀ (ds : List D) (vs : List V), RpL K C F ds vs → RpL K C F' ds vs
  | [], _, h => h
  | d :: ds, vs, h => by
    simp only [RpL] at h ⊢
    obtain ⟨x, r, e, h1, h2⟩ := h
    exact ⟨x, r, e, Rp.mono s d x h1, RpL.mono s ds r h2⟩
end
theorem RpL.nil : RpL K C F [] [] := rfl
theorem RpL.cons {d : D} {ds : List D} {x : V} {r : List V} (h1 : Rp K C F d x) (h2 : RpL K C F ds r) : RpL K C F (d :: ds) (x :: r) := ⟨x, r, rfl, h1, h2⟩
theorem RpL.len : ∀ {ds : List D} {vs : List V}, RpL K C F ds vs → ds.length = vs.length
  | [], vs, h => by
    have e : vs = [] := h
    subst e
    rfl
  | d :: ds, vs, h => by
    obtain ⟨x, r, e, _, h2⟩ := h
    subst e
    rw [List.length_cons, List.length_cons, RpL.len h2]
theorem RpL.get : ∀ {ds : List D} {vs : List V} {i : Nat} {d : D}, RpL K C F ds vs → ds[i]? = some d → ∃ v, vs[i]? = some v ∧ Rp K C F d v
  | [], _, i, d, _, e => by simp at e
  | d0 :: ds, vs, i, d, h, e => by
    obtain ⟨x, r, e1, h1, h2⟩ := h
    subst e1
    cases i with
    | zero =>
      simp only [List.getElem?_cons_zero, Option.some.injEq] at e
      subst e
      exact ⟨x, rfl, h1⟩
    | succ i =>
      rw [List.getElem?_cons_succ] at e
      rw [List.getElem?_cons_succ]
      exact RpL.get h2 e
theorem RpL.append : ∀ {ds es : List D} {vs ws : List V}, RpL K C F ds vs → RpL K C F es ws → RpL K C F (ds ++ es) (vs ++ ws)
  | [], es, vs, ws, h, h' => by
    have e : vs = [] := h
    subst e
    exact h'
  | d :: ds, es, vs, ws, h, h' => by
    obtain ⟨x, r, e, h1, h2⟩ := h
    subst e
    exact RpL.cons h1 (RpL.append h2 h')
theorem RpL.one {d : D} {v : V} (h : Rp K C F d v) : RpL K C F [d] [v] := RpL.cons h RpL.nil
theorem RpL.set : ∀ {ds : List D} {vs : List V} (i : Nat) {d : D} {v : V}, RpL K C F ds vs → Rp K C F d v → RpL K C F (ds.set i d) (vs.set i v)
  | [], vs, i, d, v, h, _ => by
    have e : vs = [] := h
    subst e
    exact h
  | d0 :: ds, vs, i, d, v, h, hv => by
    obtain ⟨x, r, e, h1, h2⟩ := h
    subst e
    cases i with
    | zero => exact RpL.cons hv h2
    | succ i => exact RpL.cons h1 (RpL.set i h2 hv)
theorem RpL.drop : ∀ {ds : List D} {vs : List V} (n : Nat), RpL K C F ds vs → RpL K C F (ds.drop n) (vs.drop n)
  | ds, vs, 0, h => h
  | [], vs, n + 1, h => by
    have e : vs = [] := h
    subst e
    exact h
  | d :: ds, vs, n + 1, h => by
    obtain ⟨x, r, e, _, h2⟩ := h
    subst e
    exact RpL.drop n h2
theorem RpL.take : ∀ {ds : List D} {vs : List V} (n : Nat), RpL K C F ds vs → RpL K C F (ds.take n) (vs.take n)
  | _, _, 0, _ => rfl
  | [], vs, n + 1, h => by
    have e : vs = [] := h
    subst e
    exact h
  | d :: ds, vs, n + 1, h => by
    obtain ⟨x, r, e, h1, h2⟩ := h
    subst e
    exact RpL.cons h1 (RpL.take n h2)
theorem RpL.rep {ds : List D} {vs : List V} (h : RpL K C F ds vs) : ∀ k : Nat, RpL K C F (List.replicate k ds).flatten (List.replicate k vs).flatten
  | 0 => rfl
  | k + 1 => by
    rw [List.replicate_succ, List.replicate_succ, List.flatten_cons, List.flatten_cons]
    exact RpL.append h (RpL.rep h k)
theorem RpL.ints : ∀ {ns : List Int} {vs : List V}, RpL K C F (ns.map D.int) vs → vs = ns.map V.int
  | [], vs, h => h
  | n :: ns, vs, h => by
    obtain ⟨x, r, e, h1, h2⟩ := h
    have h1' : x = .int n := h1
    rw [e, h1', RpL.ints h2]
    rfl
theorem RpL.ofInts : ∀ (ns : List Int), RpL K C F (ns.map D.int) (ns.map V.int)
  | [] => rfl
  | n :: ns => RpL.cons (show Rp K C F (.int n) (.int n) from rfl) (RpL.ofInts ns)
/-- one list and one tuple for each -/
theorem Rp.int {i : Int} {v : V} (h : Rp K C F (.int i) v) : v = .int i := h
theorem Rp.bl {b : Bool} {v : V} (h : Rp K C F (.bl b) v) : v = .bl b := h
/-- a step: more is frozen, all that stood stands, what is frozen anew is new -/
structure Stp (F H F' H' : Hp) : Prop where
  ff : Same F F'
  hh : Same H H'
  fh : Same F' H'
  old : ∀ a o, H a = some o → F' a = F a
theorem Stp.refl (fh : Same F H) : Stp F H F H := ⟨Same.refl _, Same.refl _, fh, fun _ _ _ => rfl⟩
theorem Stp.trans {F1 H1 F2 H2 : Hp} (a : Stp F H F1 H1) (b : Stp F1 H1 F2 H2) : Stp F H F2 H2 :=
  ⟨a.ff.trans b.ff, a.hh.trans b.hh, b.fh, fun x o h => (b.old x o (a.hh x o h)).trans (a.old x o h)⟩
theorem same_upd {H : Hp} {p : Addr} {o : HO} (h : H p = none) : Same H (upd H p o) := fun b x e => by
  rw [upd_ne (ne_of_none e h)]
  exact e
theorem none_of_same {F H : Hp} (s : Same F H) {p : Addr} (h : H p = none) : F p = none := s.free h
/-- a new object, frozen -/
theorem Stp.new (fh : Same F H) {p : Addr} {o : HO} (h : H p = none) : Stp F H (upd F p o) (upd H p o) := by
  refine ⟨same_upd (none_of_same fh h), same_upd h, fun b x e => ?_, fun a u e => upd_ne (ne_of_none e h)⟩
  by_cases hb : b = p
  · subst hb
    rw [upd_same] at e ⊢
    exact e
  · rw [upd_ne hb] at e ⊢
    exact fh b x e
/-- a new object that is not frozen -/
theorem Stp.own (fh : Same F H) {p : Addr} {o : HO} (h : H p = none) : Stp F H F (upd H p o) :=
  ⟨Same.refl _, same_upd h, fh.trans (same_upd h), fun _ _ _ => rfl⟩
abbrev Rho := List (Option D)
def lk : Rho → Nat → Option D
  | [], _ => none
  | x :: _, 0 => x
  | _ :: r, n + 1 => lk r n
def st : Rho → Nat → D → Rho
  | [], _, _ => []
  | _ :: r, 0, d => some d :: r
  | x :: r, n + 1, d => x :: st r n d
def un : Rho → Nat → Rho
  | [], _ => []
  | _ :: r, 0 => none :: r
  | x :: r, n + 1 => x :: un r n
def wipeR (ρ : Rho) : List Nat → Rho
  | [] => ρ
  | v :: vs => un (wipeR ρ vs) v
theorem st_len : ∀ (ρ : Rho) (i : Nat) (d : D), (st ρ i d).length = ρ.length
  | [], _, _ => rfl
  | _ :: _, 0, _ => rfl
  | x :: r, n + 1, d => by
    show (st r n d).length + 1 = r.length + 1
    rw [st_len r n d]
theorem un_len : ∀ (ρ : Rho) (i : Nat), (un ρ i).length = ρ.length
  | [], _ => rfl
  | _ :: _, 0 => rfl
  | x :: r, n + 1 => by
    show (un r n).length + 1 = r.length + 1
    rw [un_len r n]
theorem lk_lt : ∀ {ρ : Rho} {i : Nat} {d : D}, lk ρ i = some d → i < ρ.length
  | [], _, _, h => by simp [lk] at h
  | _ :: _, 0, _, _ => by simp
  | x :: r, n + 1, d, h => by
    have := lk_lt (ρ := r) (i := n) (d := d) h
    simpa using this
theorem lk_st_same : ∀ {ρ : Rho} {i : Nat} {d e : D}, lk (st ρ i d) i = some e → e = d
  | [], _, _, _, h => by simp [st, lk] at h
  | _ :: _, 0, d, e, h => by
    have h' : some d = some e := h
    exact (Option.some.inj h').symm
  | x :: r, n + 1, d, e, h => lk_st_same (ρ := r) (i := n) h
theorem lk_st_ne : ∀ {ρ : Rho} {i j : Nat} {d : D}, j ≠ i → lk (st ρ i d) j = lk ρ j
  | [], _, _, _, _ => rfl
  | _ :: _, 0, 0, _, h => absurd rfl h
  | _ :: _, 0, j + 1, _, _ => rfl
  | x :: r, n + 1, 0, d, _ => rfl
  | x :: r, n + 1, j + 1, d, h => lk_st_ne (ρ := r) (i := n) (j := j) fun e => h (by rw [e])
theorem lk_un_same : ∀ {ρ : Rho} {i : Nat}, lk (un ρ i) i = none
  | [], _ => rfl
  | _ :: _, 0 => rfl
  | x :: r, n + 1 => lk_un_same (ρ := r) (i := n)
theorem lk_un_ne : ∀ {ρ : Rho} {i j : Nat}, j ≠ i → lk (un ρ i) j = lk ρ j
  | [], _, _, _ => rfl
  | _ :: _, 0, 0, h => absurd rfl h
  | _ :: _, 0, j + 1, _ => rfl
  | x :: r, n + 1, 0, _ => rfl
  | x :: r, n + 1, j + 1, h => lk_un_ne (ρ := r) (i := n) (j := j) fun e => h (by rw [e])
/-- the slots σ hold ρ: frozen data, but at the places O lists of one's own -/
structure En (K : PySem.W.Frag) (C : Addr) (O : List Nat) (F H : Hp) (σ : L2.St) (ρ : Rho) : Prop where
  fh : Same F H
  len : σ.length = ρ.length
  pl : ∀ i d, i ∉ O → lk ρ i = some d → ∃ v, σ[i]? = some (some v) ∧ Rp K C F d v
  ow : ∀ i d, i ∈ O → lk ρ i = some d → ∃ p vs ds, σ[i]? = some (some (.ref p)) ∧ d = .lst ds ∧ H p = some (.lst vs) ∧ F p = none ∧ RpL K C F ds vs
  ap : ∀ i j d e p, i ∈ O → j ∈ O → lk ρ i = some d → lk ρ j = some e → σ[i]? = some (some (.ref p)) → σ[j]? = some (some (.ref p)) → i = j
variable {O : List Nat} {σ : L2.St} {ρ : Rho}
theorem En.step (h : En K C O F H σ ρ) (s : Stp F H F' H') : En K C O F' H' σ ρ where
  fh := s.fh
  len := h.len
  pl := fun i d hi e => by
    obtain ⟨v, h1, h2⟩ := h.pl i d hi e
    exact ⟨v, h1, Rp.mono s.ff d v h2⟩
  ow := fun i d hi e => by
    obtain ⟨p, vs, ds, h1, h2, h3, h4, h5⟩ := h.ow i d hi e
    exact ⟨p, vs, ds, h1, h2, s.hh _ _ h3, (s.old _ _ h3).trans h4, RpL.mono s.ff ds vs h5⟩
  ap := h.ap
theorem En.set {i : Nat} {d : D} {v : V} (h : En K C O F H σ ρ) (hi : i ∉ O) (hv : Rp K C F d v) : En K C O F H (σ.set i (some v)) (st ρ i d) where
  fh := h.fh
  len := by rw [List.length_set, st_len]; exact h.len
  pl := fun j e hj q => by
    by_cases hji : j = i
    · subst hji
      have e1 := lk_st_same q
      subst e1
      have hl := lk_lt q
      rw [st_len, ← h.len] at hl
      exact ⟨v, List.getElem?_set_self hl, hv⟩
    · rw [lk_st_ne hji] at q
      rw [List.getElem?_set_ne (Ne.symm hji)]
      exact h.pl j e hj q
  ow := fun j e hj q => by
    have hji : j ≠ i := fun z => hi (z ▸ hj)
    rw [lk_st_ne hji] at q
    rw [List.getElem?_set_ne (Ne.symm hji)]
    exact h.ow j e hj q
  ap := fun j k e e' p hj hk q1 q2 q3 q4 => by
    have hji : j ≠ i := fun z => hi (z ▸ hj)
    have hki : k ≠ i := fun z => hi (z ▸ hk)
    rw [lk_st_ne hji] at q1
    rw [lk_st_ne hki] at q2
    rw [List.getElem?_set_ne (Ne.symm hji)] at q3
    rw [List.getElem?_set_ne (Ne.symm hki)] at q4
    exact h.ap j k e e' p hj hk q1 q2 q3 q4
theorem En.unset {i : Nat} (h : En K C O F H σ ρ) : En K C O F H (σ.set i none) (un ρ i) where
  fh := h.fh
  len := by rw [List.length_set, un_len]; exact h.len
  pl := fun j e hj q => by
    by_cases hji : j = i
    · subst hji
      rw [lk_un_same] at q
      cases q
    · rw [lk_un_ne hji] at q
      rw [List.getElem?_set_ne (Ne.symm hji)]
      exact h.pl j e hj q
  ow := fun j e hj q => by
    have hji : j ≠ i := fun z => by
      subst z
      rw [lk_un_same] at q
      cases q
    rw [lk_un_ne hji] at q
    rw [List.getElem?_set_ne (Ne.symm hji)]
    exact h.ow j e hj q
  ap := fun j k e e' p hj hk q1 q2 q3 q4 => by
    have hji : j ≠ i := fun z => by
      subst z
      rw [lk_un_same] at q1
      cases q1
    have hki : k ≠ i := fun z => by
      subst z
      rw [lk_un_same] at q2
      cases q2
    rw [lk_un_ne hji] at q1
    rw [lk_un_ne hki] at q2
    rw [List.getElem?_set_ne (Ne.symm hji)] at q3
    rw [List.getElem?_set_ne (Ne.symm hki)] at q4
    exact h.ap j k e e' p hj hk q1 q2 q3 q4
theorem En.wipe (h : En K C O F H σ ρ) : ∀ vs : List Nat, En K C O F H (wipe σ vs) (wipeR ρ vs)
  | [] => h
  | v :: vs => by
    unfold L2.wipe wipeR
    exact (En.wipe h vs).unset
/-- a new list of one's own at the place i -/
theorem En.own {i : Nat} {p : Addr} {ds : List D} {vs : List V} (h : En K C O F H σ ρ) (hi : i ∉ O) (hH : H p = none) (hl : RpL K C F ds vs) :
    En K C (i :: O) F (upd H p (.lst vs)) (σ.set i (some (.ref p))) (st ρ i (.lst ds)) where
  fh := h.fh.trans (same_upd hH)
  len := by rw [List.length_set, st_len]; exact h.len
  pl := fun j e hj q => by
    have hji : j ≠ i := fun z => hj (by rw [z]; exact List.mem_cons_self)
    rw [lk_st_ne hji] at q
    rw [List.getElem?_set_ne (Ne.symm hji)]
    exact h.pl j e (fun z => hj (List.mem_cons_of_mem _ z)) q
  ow := fun j e hj q => by
    by_cases hji : j = i
    · subst hji
      have e1 := lk_st_same q
      subst e1
      have hl' := lk_lt q
      rw [st_len, ← h.len] at hl'
      exact ⟨p, vs, ds, List.getElem?_set_self hl', rfl, upd_same, h.fh.free hH, hl⟩
    · rw [lk_st_ne hji] at q
      rw [List.getElem?_set_ne (Ne.symm hji)]
      have hjO : j ∈ O := (List.mem_cons.mp hj).elim (fun z => absurd z hji) id
      obtain ⟨p', vs', ds', h1, h2, h3, h4, h5⟩ := h.ow j e hjO q
      exact ⟨p', vs', ds', h1, h2, by rw [upd_ne (ne_of_none h3 hH)]; exact h3, h4, h5⟩
  ap := fun j k e e' p' hj hk q1 q2 q3 q4 => by
    by_cases hji : j = i
    · by_cases hki : k = i
      · rw [hji, hki]
      · exfalso
        subst hji
        rw [lk_st_ne hki] at q2
        rw [List.getElem?_set_ne (Ne.symm hki)] at q4
        have hl' := lk_lt q1
        rw [st_len, ← h.len] at hl'
        rw [List.getElem?_set_self hl'] at q3
        cases q3
        have hkO : k ∈ O := (List.mem_cons.mp hk).elim (fun z => absurd z hki) id
        obtain ⟨p2, _, _, h1, _, h3, _, _⟩ := h.ow k e' hkO q2
        rw [h1] at q4
        cases q4
        rw [hH] at h3
        cases h3
    · by_cases hki : k = i
      · exfalso
        subst hki
        rw [lk_st_ne hji] at q1
        rw [List.getElem?_set_ne (Ne.symm hji)] at q3
        have hl' := lk_lt q2
        rw [st_len, ← h.len] at hl'
        rw [List.getElem?_set_self hl'] at q4
        cases q4
        have hjO : j ∈ O := (List.mem_cons.mp hj).elim (fun z => absurd z hji) id
        obtain ⟨p2, _, _, h1, _, h3, _, _⟩ := h.ow j e hjO q1
        rw [h1] at q3
        cases q3
        rw [hH] at h3
        cases h3
      · rw [lk_st_ne hji] at q1
        rw [lk_st_ne hki] at q2
        rw [List.getElem?_set_ne (Ne.symm hji)] at q3
        rw [List.getElem?_set_ne (Ne.symm hki)] at q4
        exact h.ap j k e e' p' ((List.mem_cons.mp hj).elim (fun z => absurd z hji) id) ((List.mem_cons.mp hk).elim (fun z => absurd z hki) id) q1 q2 q3 q4
/-- the list of one's own at i is changed -/
theorem En.mut {i : Nat} {p : Addr} {ds ds' : List D} {vs vs' : List V} (h : En K C O F H σ ρ) (hi : i ∈ O) (he : lk ρ i = some (.lst ds)) (hp : σ[i]? = some (some (.ref p))) (hH : H p = some (.lst vs)) (hF : F p = none) (hl : RpL K C F ds' vs') :
    En K C O F (upd H p (.lst vs')) σ (st ρ i (.lst ds')) where
  fh := fun b x e => by
    rw [upd_ne (ne_of_none e hF)]
    exact h.fh b x e
  len := by rw [st_len]; exact h.len
  pl := fun j e hj q => by
    have hji : j ≠ i := fun z => hj (z ▸ hi)
    rw [lk_st_ne hji] at q
    exact h.pl j e hj q
  ow := fun j e hj q => by
    by_cases hji : j = i
    · subst hji
      have e1 := lk_st_same q
      subst e1
      exact ⟨p, vs', ds', hp, rfl, upd_same, hF, hl⟩
    · rw [lk_st_ne hji] at q
      obtain ⟨p', vs2, ds2, h1, h2, h3, h4, h5⟩ := h.ow j e hj q
      have hne : p' ≠ p := fun z => by
        subst z
        exact hji (h.ap j i e _ _ hj hi q he h1 hp)
      exact ⟨p', vs2, ds2, h1, h2, by rw [upd_ne hne]; exact h3, h4, h5⟩
  ap := fun j k e e' p' hj hk q1 q2 q3 q4 => by
    have fx : ∀ {m : Nat} {x : D}, lk (st ρ i (.lst ds')) m = some x → ∃ y, lk ρ m = some y := fun {m x} q => by
      by_cases hm : m = i
      · exact ⟨_, hm ▸ he⟩
      · rw [lk_st_ne hm] at q
        exact ⟨_, q⟩
    obtain ⟨y1, z1⟩ := fx q1
    obtain ⟨y2, z2⟩ := fx q2
    exact h.ap j k y1 y2 p' hj hk z1 z2 q3 q4
/-- the list of one's own at i is frozen -/
theorem En.freeze {i : Nat} {O' : List Nat} (h : En K C O F H σ ρ) (hO : ∀ j, j ∈ O' ↔ j ∈ O ∧ j ≠ i) : ∃ F', Same F F' ∧ En K C O' F' H σ ρ ∧ (∀ a, F' a ≠ F a → i ∈ O ∧ ∃ d, lk ρ i = some d ∧ σ[i]? = some (some (.ref a))) := by
  by_cases hi : i ∈ O
  · cases e : lk ρ i with
    | none =>
      refine ⟨F, Same.refl _, ⟨h.fh, h.len, fun j d hj q => ?_, fun j d hj q => h.ow j d ((hO j).mp hj).1 q, fun j k d e p hj hk => h.ap j k d e p ((hO j).mp hj).1 ((hO k).mp hk).1⟩, fun a z => absurd rfl z⟩
      by_cases hji : j = i
      · subst hji
        rw [e] at q
        cases q
      · exact h.pl j d (fun z => hj ((hO j).mpr ⟨z, hji⟩)) q
    | some d =>
      obtain ⟨p, vs, ds, h1, rfl, h3, h4, h5⟩ := h.ow i d hi e
      have sm : Same F (upd F p (.lst vs)) := same_upd h4
      refine ⟨upd F p (.lst vs), sm, ⟨fun b x q => ?_, h.len, fun j d' hj q => ?_, fun j d' hj q => ?_, fun j k d e p hj hk => h.ap j k d e p ((hO j).mp hj).1 ((hO k).mp hk).1⟩, fun a z => ?_⟩
      · by_cases hb : b = p
        · subst hb
          rw [upd_same] at q
          rw [← q]
          exact h3
        · rw [upd_ne hb] at q
          exact h.fh b x q
      · by_cases hji : j = i
        · subst hji
          rw [e] at q
          cases q
          exact ⟨.ref p, h1, p, vs, rfl, upd_same, RpL.mono sm ds vs h5⟩
        · obtain ⟨v, q1, q2⟩ := h.pl j d' (fun z => hj ((hO j).mpr ⟨z, hji⟩)) q
          exact ⟨v, q1, Rp.mono sm d' v q2⟩
      · obtain ⟨hjO, hji⟩ := (hO j).mp hj
        obtain ⟨p', vs', ds', g1, g2, g3, g4, g5⟩ := h.ow j d' hjO q
        have hne : p' ≠ p := fun z => by
          subst z
          exact hji (h.ap j i _ _ _ hjO hi q e g1 h1)
        exact ⟨p', vs', ds', g1, g2, g3, by rw [upd_ne hne]; exact g4, RpL.mono sm ds' vs' g5⟩
      · by_cases ha : a = p
        · subst ha
          exact ⟨hi, _, rfl, h1⟩
        · rw [upd_ne ha] at z
          exact absurd rfl z
  · refine ⟨F, Same.refl _, ⟨h.fh, h.len, fun j d hj q => h.pl j d (fun z => hj ((hO j).mpr ⟨z, fun w => hi (w ▸ z)⟩)) q, fun j d hj q => h.ow j d ((hO j).mp hj).1 q, fun j k d e p hj hk => h.ap j k d e p ((hO j).mp hj).1 ((hO k).mp hk).1⟩, fun a z => absurd rfl z⟩
end
end DL
namespace DL
open PySem PySem.Spec PyProof.Rows L2
abbrev DF := Rho → Option D
abbrev DFs := Rho → Option (List D)
abbrev DB := Rho → Option Bool
/-- what a computed value leaves -/
def Got (K : PySem.W.Frag) (C : Addr) (F H : Hp) (d : D) (Q : VK) : Prop := ∀ v F' H', Stp F H F' H' → Rp K C F' d v → Q v H'
theorem Got.step {K : PySem.W.Frag} {C : Addr} {F H F' H' : Hp} {d : D} {Q : VK} (h : Got K C F H d Q) (s : Stp F H F' H') : Got K C F' H' d Q := fun v F2 H2 s2 r => h v F2 H2 (s.trans s2) r
def tD (K : PySem.W.Frag) (C : Addr) (O : List Nat) (f : DF) : TE := fun σ H Q => ∃ F ρ d, En K C O F H σ ρ ∧ f ρ = some d ∧ Got K C F H d Q
def tDA (K : PySem.W.Frag) (C : Addr) (O : List Nat) (f : DFs) : TA := fun σ H Q => ∃ F ρ ds, En K C O F H σ ρ ∧ f ρ = some ds ∧ ∀ vs F' H', Stp F H F' H' → RpL K C F' ds vs → Q vs H'
def tDT (K : PySem.W.Frag) (C : Addr) (O : List Nat) (g : DB) : TT := fun σ H Q => ∃ F ρ b, En K C O F H σ ρ ∧ g ρ = some b ∧ ∀ F' H', Stp F H F' H' → Q b H'
def rD2 (K : PySem.W.Frag) (C : Addr) (op : D → D → Option D) : R2 := fun x y H Q => ∃ F d e c, Same F H ∧ Rp K C F d x ∧ Rp K C F e y ∧ op d e = some c ∧ Got K C F H c Q
def rDL (K : PySem.W.Frag) (C : Addr) (op : List D → Option D) : List V → Hp → VK → Prop := fun xs H Q => ∃ F ds c, Same F H ∧ RpL K C F ds xs ∧ op ds = some c ∧ Got K C F H c Q
abbrev DE (X : Cx) (C : Addr) (O : List Nat) (e : Expr) (f : DF) : Prop := PE X e (tD X.K C O f)
abbrev DT (X : Cx) (C : Addr) (O : List Nat) (e : Expr) (g : DB) : Prop := PT X e (tDT X.K C O g)
abbrev DWt (X : Cx) (C : Addr) (O : List Nat) (e : Expr) (g : DB) : Prop := PW X e (tDT X.K C O g)
abbrev DA (X : Cx) (C : Addr) (O : List Nat) (es : List Expr) (f : DFs) : Prop := PA X es (tDA X.K C O f)
abbrev OpD (X : Cx) (C : Addr) (f : Value → Value → Sem Value) (op : D → D → Option D) : Prop := OpR X f (rD2 X.K C op)
abbrev CallD (X : Cx) (C : Addr) (f : Value) (op : List D → Option D) : Prop := CallR X f (rDL X.K C op)
abbrev IxD (X : Cx) (C : Addr) (op : D → D → Option D) : Prop := IxR X (rD2 X.K C op)
section
variable {X : Cx}
theorem PEw {e : Expr} {t t' : TE} (h : PE X e t) (w : ∀ σ H Q, t' σ H Q → t σ H Q) : PE X e t' := ⟨fun pins s σ H Q I q => h.run pins s σ H Q I (w σ H Q q)⟩
theorem PTw {e : Expr} {t t' : TT} (h : PT X e t) (w : ∀ σ H Q, t' σ H Q → t σ H Q) : PT X e t' := ⟨fun pins s σ H Q I q => h.run pins s σ H Q I (w σ H Q q)⟩
theorem PWw {e : Expr} {t t' : TT} (h : PW X e t) (w : ∀ σ H Q, t' σ H Q → t σ H Q) : PW X e t' := ⟨fun wh pins s σ H Q I q => h.run wh pins s σ H Q I (w σ H Q q)⟩
theorem PAw {es : List Expr} {t t' : TA} (h : PA X es t) (w : ∀ σ H Q, t' σ H Q → t σ H Q) : PA X es t' := ⟨fun pos pins s σ H Q I q => h.run pos pins s σ H Q I (w σ H Q q)⟩
theorem PSw {e : Stmt} {t t' : TS} (h : PS X e t) (w : ∀ D σ H, t' D σ H → t D σ H) : PS X e t' := ⟨fun pins s σ H D I q => h.run pins s σ H D I (w D σ H q)⟩
theorem PSsw {e : List Stmt} {t t' : TS} (h : PSs X e t) (w : ∀ D σ H, t' D σ H → t D σ H) : PSs X e t' := ⟨fun pins s σ H D I q => h.run pins s σ H D I (w D σ H q)⟩
theorem OpRw {f : Value → Value → Sem Value} {r r' : R2} (h : OpR X f r) (w : ∀ x y H Q, r' x y H Q → r x y H Q) : OpR X f r' := fun pins s σ H x y v u Q I rx ry q => h pins s σ H x y v u Q I rx ry (w x y H Q q)
theorem CallRw {f : Value} {r r' : List V → Hp → VK → Prop} (h : CallR X f r) (w : ∀ xs H Q, r' xs H Q → r xs H Q) : CallR X f r' := fun pins s σ H xs us Q I r q => h pins s σ H xs us Q I r (w xs H Q q)
end
def dv (i : Nat) : DF := fun ρ => lk ρ i
def dc (d : D) : DF := fun _ => some d
def d2 (op : D → D → Option D) (f g : DF) : DF := fun ρ => (f ρ).bind fun x => (g ρ).bind fun y => op x y
def d1 (op : D → Option D) (f : DF) : DF := fun ρ => (f ρ).bind op
def dnil : DFs := fun _ => some []
def dcons (f : DF) (g : DFs) : DFs := fun ρ => (f ρ).bind fun x => (g ρ).bind fun xs => some (x :: xs)
def dL (op : List D → Option D) (f : DFs) : DF := fun ρ => (f ρ).bind op
def asB : D → Option Bool
  | .bl b => some b
  | _ => none
theorem asB_some {d : D} {b : Bool} (h : asB d = some b) : d = .bl b := by
  cases d <;> first | (cases h; rfl) | cases h
def bV (f : DF) : DB := fun ρ => (f ρ).bind asB
def dB (g : DB) : DF := fun ρ => (g ρ).bind fun b => some (.bl b)
def bAnd (g h : DB) : DB := fun ρ => (g ρ).bind fun b => if b = true then h ρ else some false
def bOr (g h : DB) : DB := fun ρ => (g ρ).bind fun b => if b = true then some true else h ρ
def bNot (g : DB) : DB := fun ρ => (g ρ).bind fun b => some (!b)
def dIf (g : DB) (f h : DF) : DF := fun ρ => (g ρ).bind fun b => if b = true then f ρ else h ρ
def opTup (ds : List D) : Option D := if ds.length ≤ 100000 then some (.tup ds) else none
def opLst (ds : List D) : Option D := if ds.length ≤ 100000 then some (.lst ds) else none
section
variable {X : Cx} {C : Addr} {O : List Nat} {a b c e : Expr} {es : List Expr} {f g h : DF} {fs : DFs} {p q r : DB} {pos : Pos}
theorem sz100 {n : Nat} (h : n ≤ 100000) : n ≤ sizeLine := Nat.le_trans h (by decide)
theorem de_var (i : Nat) {x : Str} (hN : X.N[i]? = some x := by rfl) (hv : Vis X.env.scope x := by first | exact Or.inl rfl | exact Or.inr (Or.inl rfl) | exact Or.inr (Or.inr rfl)) (hi : i ∉ O := by decide)
    (hd : (x == ("__debug__" : Str)) = false := by decide) (hcd : (x == ("__classdict__" : Str)) = false := by decide) : DE X C O (.Name x pos) (dv i) :=
  PEw (pe_var hN hv hd hcd) fun σ H Q ⟨F, ρ, d, E, hf, k⟩ => by
    obtain ⟨v, h1, h2⟩ := E.pl i d hi hf
    exact ⟨v, h1, k v F H (Stp.refl E.fh) h2⟩
theorem de_int {i : Int} {j : Nat} : DE X C O (.Constant (.int i) j pos) (dc (.int i)) := PEw pe_int fun σ H Q ⟨F, ρ, d, E, hf, k⟩ => by
  cases hf
  exact k (.int i) F H (Stp.refl E.fh) rfl
theorem de_bl {i : Bool} {j : Nat} : DE X C O (.Constant (.bool i) j pos) (dc (.bl i)) := PEw pe_bl fun σ H Q ⟨F, ρ, d, E, hf, k⟩ => by
  cases hf
  exact k (.bl i) F H (Stp.refl E.fh) rfl
theorem de_non {j : Nat} : DE X C O (.Constant .none j pos) (dc .non) := PEw pe_non fun σ H Q ⟨F, ρ, d, E, hf, k⟩ => by
  cases hf
  exact k .non F H (Stp.refl E.fh) rfl
theorem bind_some {α β : Type} {o : Option α} {k : α → Option β} {y : β} (h : o.bind k = some y) : ∃ x, o = some x ∧ k x = some y := by
  cases o with
  | none => cases h
  | some x => exact ⟨x, rfl, h⟩
/-- two in a row -/
theorem two {K : PySem.W.Frag} {op : D → D → Option D} {σ : L2.St} {H : Hp} {Q : VK} (hw : tD K C O (d2 op f g) σ H Q) : tOp (rD2 K C op) (tD K C O f) (tD K C O g) σ H Q := by
  obtain ⟨F, ρ, d, E, hf, k⟩ := hw
  obtain ⟨x, h1, hf⟩ := bind_some hf
  obtain ⟨y, h2, hf⟩ := bind_some hf
  refine ⟨F, ρ, x, E, h1, fun v F1 H1 s1 r1 => ⟨F1, ρ, y, E.step s1, h2, fun u F2 H2 s2 r2 => ?_⟩⟩
  exact ⟨F2, x, y, d, s2.fh, Rp.mono s2.ff x v r1, r2, hf, k.step (s1.trans s2)⟩
theorem de_op {op : Operator} {o : D → D → Option D} (ho : OpD X C (binaryOp op) o) (ha : DE X C O a f) (hb : DE X C O b g) : DE X C O (.BinOp a op b pos) (d2 o f g) := PEw (pe_op ho ha hb) fun _ _ _ hw => two hw
theorem de_cmp {op : CmpOp} {o : D → D → Option D} (ho : OpD X C (compareOp op) o) (ha : DE X C O a f) (hb : DE X C O b g) (hm : behindInMarks op b = false := by first | exact nomark _ | rfl | with_unfolding_all rfl) : DE X C O (.Compare a [op] [b] pos) (d2 o f g) :=
  PEw (pe_cmpR ho ha hb hm) fun _ _ _ hw => two hw
theorem dt_cmp {op : CmpOp} {o : D → D → Option D} (ho : OpD X C (compareOp op) o) (ha : DE X C O a f) (hb : DE X C O b g) (hm : behindInMarks op b = false := by first | exact nomark _ | rfl | with_unfolding_all rfl) : DT X C O (.Compare a [op] [b] pos) (bV (d2 o f g)) :=
  PTw (pt_cmpR ho ha hb hm) fun σ H Q ⟨F, ρ, t, E, hf, k⟩ => by
    obtain ⟨d, h1, h2⟩ := bind_some hf
    refine two ⟨F, ρ, d, E, h1, fun v F' H' s' r' => ?_⟩
    obtain rfl := asB_some h2
    exact ⟨t, r', k F' H' s'⟩
def dCh (o o' : D → D → Option D) (f g h : DF) : DF := fun ρ => (f ρ).bind fun x => (g ρ).bind fun y => (o x y).bind fun z => (asB z).bind fun k => if k = true then (h ρ).bind fun w => o' y w else some (.bl false)
theorem dt_val (ha : DE X C O a f) (he : ∀ whole, isTrue a X.env whole = (do let v ← whole; standAt a.pos; holding [v] (truthy v)) := by intro _; rfl) : DT X C O a (bV f) :=
  PTw (pt_val ha he) fun σ H Q ⟨F, ρ, t, E, hf, k⟩ => by
    obtain ⟨d, h1, h2⟩ := bind_some hf
    refine ⟨F, ρ, d, E, h1, fun v F' H' s' r' => ?_⟩
    obtain rfl := asB_some h2
    exact ⟨t, r', k F' H' s'⟩
theorem or_rd {K : PySem.W.Frag} {σ : L2.St} {H : Hp} {Q : Bool → Hp → Prop} (hw : tDT K C O (bOr p q) σ H Q) : tOr (tDT K C O p) (tDT K C O q) σ H Q := by
  obtain ⟨F, ρ, t, E, hf, k⟩ := hw
  obtain ⟨d, h1, hf⟩ := bind_some hf
  refine ⟨F, ρ, d, E, h1, fun F1 H1 s1 => ?_⟩
  cases d with
  | false =>
    rw [if_neg Bool.false_ne_true] at hf ⊢
    exact ⟨F1, ρ, t, E.step s1, hf, fun F2 H2 s2 => k F2 H2 (s1.trans s2)⟩
  | true =>
    rw [if_pos rfl] at hf ⊢
    cases hf
    exact k F1 H1 s1
variable {rest : List Expr}
theorem dw_or1 (ha : DT X C O a p) : DWt X C O (.BoolOp .Or [a] pos) p := pw_or1 ha
theorem dw_or (ha : DT X C O a p) (hb : DWt X C O (.BoolOp .Or (b :: rest) pos) q) : DWt X C O (.BoolOp .Or (a :: b :: rest) pos) (bOr p q) := PWw (pw_or ha hb) fun _ _ _ hw => or_rd hw
theorem dt_w (h : DWt X C O e p) : DT X C O e p := h.pt
/-- and, or, not as values (of bools) -/
theorem de_one {op : BoolOp} (ha : DE X C O a f) : DE X C O (.BoolOp op [a] pos) f := pe_one ha
def dAnd (f g : DF) : DF := fun ρ => (f ρ).bind fun x => (asB x).bind fun b => if b = true then g ρ else some (.bl false)
def dOr (f g : DF) : DF := fun ρ => (f ρ).bind fun x => (asB x).bind fun b => if b = true then some (.bl true) else g ρ
def dNot (f : DF) : DF := fun ρ => (f ρ).bind fun x => (asB x).bind fun b => some (.bl (!b))
theorem de_and (ha : DE X C O a f) (hb : DE X C O (.BoolOp .And (b :: rest) pos) g) : DE X C O (.BoolOp .And (a :: b :: rest) pos) (dAnd f g) := PEw (pe_and ha hb) fun σ H Q ⟨F, ρ, t, E, hf, k⟩ => by
  obtain ⟨x, h1, hf1⟩ := bind_some hf
  obtain ⟨d, h2, hf2⟩ := bind_some hf1
  obtain rfl := asB_some h2
  clear hf hf1
  have hf := hf2
  clear hf2
  refine ⟨F, ρ, _, E, h1, fun v F1 H1 s1 r1 => ⟨d, r1, ?_⟩⟩
  cases d with
  | true =>
    rw [if_pos rfl] at hf ⊢
    exact ⟨F1, ρ, t, E.step s1, hf, k.step s1⟩
  | false =>
    rw [if_neg Bool.false_ne_true] at hf ⊢
    cases hf
    exact k _ F1 H1 s1 rfl
theorem de_or (ha : DE X C O a f) (hb : DE X C O (.BoolOp .Or (b :: rest) pos) g) : DE X C O (.BoolOp .Or (a :: b :: rest) pos) (dOr f g) := PEw (pe_or ha hb) fun σ H Q ⟨F, ρ, t, E, hf, k⟩ => by
  obtain ⟨x, h1, hf1⟩ := bind_some hf
  obtain ⟨d, h2, hf2⟩ := bind_some hf1
  obtain rfl := asB_some h2
  clear hf hf1
  have hf := hf2
  clear hf2
  refine ⟨F, ρ, _, E, h1, fun v F1 H1 s1 r1 => ⟨d, r1, ?_⟩⟩
  cases d with
  | false =>
    rw [if_neg Bool.false_ne_true] at hf ⊢
    exact ⟨F1, ρ, t, E.step s1, hf, k.step s1⟩
  | true =>
    rw [if_pos rfl] at hf ⊢
    cases hf
    exact k _ F1 H1 s1 rfl
theorem de_if (ht : DT X C O c p) (ha : DE X C O a f) (hb : DE X C O b g) : DE X C O (.IfExp c a b pos) (dIf p f g) := PEw (pe_ifExp ht ha hb) fun σ H Q ⟨F, ρ, t, E, hf, k⟩ => by
  obtain ⟨d, h1, hf⟩ := bind_some hf
  refine ⟨F, ρ, d, E, h1, fun F1 H1 s1 => ?_⟩
  cases d with
  | true =>
    rw [if_pos rfl] at hf ⊢
    exact ⟨F1, ρ, t, E.step s1, hf, k.step s1⟩
  | false =>
    rw [if_neg Bool.false_ne_true] at hf ⊢
    exact ⟨F1, ρ, t, E.step s1, hf, k.step s1⟩
theorem da_nil : DA X C O [] dnil := PAw pa_nil fun σ H Q ⟨F, ρ, t, E, hf, k⟩ => by
  cases hf
  exact k [] F H (Stp.refl E.fh) RpL.nil
theorem da_cons (ha : DE X C O a f) (hr : DA X C O es fs) (hs : starEach (a :: es) X.env = (false, eval a X.env) :: starEach es X.env := by rfl) : DA X C O (a :: es) (dcons f fs) := PAw (pa_cons ha hr hs) fun σ H Q ⟨F, ρ, t, E, hf, k⟩ => by
  obtain ⟨x, h1, hf⟩ := bind_some hf
  obtain ⟨xs, h2, hf⟩ := bind_some hf
  cases hf
  exact ⟨F, ρ, x, E, h1, fun v F1 H1 s1 r1 => ⟨F1, ρ, xs, E.step s1, h2, fun vs F2 H2 s2 r2 => k _ F2 H2 (s1.trans s2) (RpL.cons (Rp.mono s2.ff x v r1) r2)⟩⟩
theorem de_tup {j : Nat} (ha : DA X C O es fs) : DE X C O (.Tuple es j pos) (dL opTup fs) := PEw (pe_tup ha) fun σ H Q ⟨F, ρ, t, E, hf, k⟩ => by
  obtain ⟨ds, h1, hf⟩ := bind_some hf
  unfold opTup at hf
  split at hf
  · rename_i hz
    cases hf
    refine ⟨F, ρ, ds, E, h1, fun vs F1 H1 s1 r1 => ⟨by rw [← r1.len]; exact sz100 hz, fun p hp => ?_⟩⟩
    have s2 := Stp.new (o := .tup vs) s1.fh hp
    exact k _ _ _ (s1.trans s2) ⟨p, vs, rfl, upd_same, RpL.mono s2.ff _ _ r1⟩
  · cases hf
theorem de_lst (ha : DA X C O es fs) : DE X C O (.List es pos) (dL opLst fs) := PEw (pe_lst ha) fun σ H Q ⟨F, ρ, t, E, hf, k⟩ => by
  obtain ⟨ds, h1, hf⟩ := bind_some hf
  unfold opLst at hf
  split at hf
  · rename_i hz
    cases hf
    refine ⟨F, ρ, ds, E, h1, fun vs F1 H1 s1 r1 => ⟨by rw [← r1.len]; exact sz100 hz, fun p hp => ?_⟩⟩
    have s2 := Stp.new (o := .lst vs) s1.fh hp
    exact k _ _ _ (s1.trans s2) ⟨p, vs, rfl, upd_same, RpL.mono s2.ff _ _ r1⟩
  · cases hf
theorem rdl_rd {K : PySem.W.Frag} {o : List D → Option D} {σ : L2.St} {H : Hp} {Q : VK} (hw : tD K C O (dL o fs) σ H Q) : tCB (rDL K C o) (tDA K C O fs) σ H Q := by
  obtain ⟨F, ρ, t, E, hf, k⟩ := hw
  obtain ⟨ds, h1, hf⟩ := bind_some hf
  exact ⟨F, ρ, ds, E, h1, fun vs F1 H1 s1 r1 => ⟨F1, ds, t, s1.fh, r1, hf, k.step s1⟩⟩
theorem de_callB {x : Str} {id : String} {p : Pos} {o : List D → Option D} (hc : CallD X C (.builtin id) o) (hg : Gl X x) (hm : X.mg x = none) (hv : bootBuiltins x = some (.builtin id)) (ha : DA X C O (e :: es) fs)
    (hn : x ≠ "__name__" := by decide) (hd : (x == ("__debug__" : Str)) = false := by decide) (he : starEach (e :: es) X.env = (false, eval e X.env) :: starEach es X.env := by rfl) (hpl : (backTo pos (starEach es X.env)).any (·.1) = false := by rfl) :
    DE X C O (.Call (.Name x p) (e :: es) [] pos) (dL o fs) := PEw (by first | exact pe_callB hc hg hm hv ha | exact pe_callB hc hg hm hv ha hn hd he hpl) fun _ _ _ hw => rdl_rd hw
theorem de_callTy {x : Str} {T : String} {p : Pos} {o : List D → Option D} (hc : CallD X C (.type T) o) (hg : Gl X x) (hm : X.mg x = none) (hv : bootBuiltins x = some (.type T)) (ha : DA X C O (e :: es) fs)
    (hn : x ≠ "__name__" := by decide) (hd : (x == ("__debug__" : Str)) = false := by decide) (he : starEach (e :: es) X.env = (false, eval e X.env) :: starEach es X.env := by rfl) (hpl : (backTo pos (starEach es X.env)).any (·.1) = false := by rfl) :
    DE X C O (.Call (.Name x p) (e :: es) [] pos) (dL o fs) := PEw (by first | exact pe_callTy hc hg hm hv ha | exact pe_callTy hc hg hm hv ha hn hd he hpl) fun _ _ _ hw => rdl_rd hw
/-- the promise of a pure def -/
def spD (K : PySem.W.Frag) (C : Addr) (m : List D → Option D) : Sp := fun vs H Q _ => ∃ F ds d, Same F H ∧ RpL K C F ds vs ∧ m ds = some d ∧ Got K C F H d Q
/-- a pure def that may be called by its name x -/
structure Cal (P : Program) (w : World) (K : PySem.W.Frag) (mg : Str → Option Value) (base : Heap) (C : Addr) (k : Nat) (x : Str) (ps : List Str) (m : List D → Option D) : Prop where
  ex : ∃ f fd, FnOk P w K mg base CX0 k f fd ps (spD K C m) ∧ mg x = some (.ref f) ∧ PySem.W.keepIn K (.ref f) = true ∧ Binds K fd ps []
theorem de_call {x : Str} {p : Pos} {k j : Nat} {ps : List Str} {m : List D → Option D} (cl : Cal X.prog X.w X.K X.mg X.base C k x ps m) (hr : Room j X.A) (hg : Gl X x) (ha : DA X C O (e :: es) fs) (hk : k ≤ j := by decide)
    (hdb : (x == ("__debug__" : Str)) = false := by decide) (he : starEach (e :: es) X.env = (false, eval e X.env) :: starEach es X.env := by rfl) (hpl : (backTo pos (starEach es X.env)).any (·.1) = false := by rfl) :
    DE X C O (.Call (.Name x p) (e :: es) [] pos) (dL m fs) := by
  obtain ⟨f, fd, F, hm, hkp, hb⟩ := cl.ex
  refine PEw (pe_call F (hr.mono hk) hg hm hkp hb .nil pass0 ha hdb he hpl) fun σ H Q ⟨F, ρ, t, E, hf, k⟩ => ?_
  obtain ⟨ds, h1, hf⟩ := bind_some hf
  refine ⟨F, ρ, ds, E, h1, fun vs F1 H1 s1 r1 => ?_⟩
  show spD X.K C m (vs ++ []) H1 Q E0
  rw [List.append_nil]
  exact ⟨F1, ds, t, s1.fh, r1, hf, k.step s1⟩
theorem de_ix {o : D → D → Option D} (ho : IxD X C o) (ha : DE X C O a f) (hb : DE X C O b g) (hs : PlainIx b := by exact fun _ _ => rfl) : DE X C O (.Subscript a b pos) (d2 o f g) := PEw (pe_ix ho ha hb hs) fun _ _ _ hw => two hw
end
end DL
namespace DL
open PySem PySem.Spec PyProof.Rows L2
mutual
def eqD : D → D → Bool
  | .non, .non => true
  | .bl a, .bl b => a == b
  | .bl a, .int j => (if a then 1 else 0) == j
  | .int i, .bl b => i == (if b then 1 else 0)
  | .int i, .int j => i == j
  | .str x, .str y => x == y
  | .tup xs, .tup ys => eqDs xs ys
  | .lst xs, .lst ys => eqDs xs ys
  | _, _ => false
def eqDs : List D → List D → Bool
  | [], [] => true
  | x :: xs, y :: ys => eqD x y && eqDs xs ys
  | _, _ => false
end
mutual
/-- nested at most n deep, no bells, no script within -/
def okD : Nat → D → Bool
  | _, .non => true
  | _, .bl _ => true
  | _, .int _ => true
  | _, .str x => PySem.PyData.strOk x
  | 0, .tup _ => false
  | 0, .lst _ => false
  | n + 1, .tup xs => okDs n xs
  | n + 1, .lst xs => okDs n xs
  | _, .bell _ => false
  | _, .scr _ => false
  | _, .ext _ => false
def okDs : Nat → List D → Bool
  | _, [] => true
  | n, x :: xs => okD n x && okDs n xs
end
mutual
def toP : D → PyData
  | .non => .none
  | .bl b => .bool b
  | .int i => .int i
  | .str x => .str x
  | .tup xs => .tuple (toPs xs)
  | .lst xs => .list (toPs xs)
  | .bell _ => .dict []
  | .scr _ => .dict []
  | .ext _ => .dict []
def toPs : List D → List PyData
  | [] => []
  | x :: xs => toP x :: toPs xs
end
mutual
theorem eqD_toP : ∀ (n : Nat) (d e : D), okD n d = true → okD n e = true → PyData.eqv (toP d) (toP e) = eqD d e
  | n, .non, e, h1, h2 => by cases e <;> simp [okD, toP, eqD, PyData.eqv] at h2 ⊢
  | n, .bl b, e, h1, h2 => by cases e <;> simp [okD, toP, eqD, PyData.eqv] at h2 ⊢
  | n, .int i, e, h1, h2 => by cases e <;> simp [okD, toP, eqD, PyData.eqv] at h2 ⊢
  | n, .str x, e, h1, h2 => by cases e <;> simp [okD, toP, eqD, PyData.eqv] at h2 ⊢
  | 0, .tup xs, e, h1, h2 => by simp [okD] at h1
  | 0, .lst xs, e, h1, h2 => by simp [okD] at h1
  | n + 1, .tup xs, e, h1, h2 => by
    cases e with
    | tup ys =>
      simp only [okD, toP, eqD, PyData.eqv] at h1 h2 ⊢
      exact eqDs_toP n xs ys h1 h2
    | _ => simp [okD, toP, eqD, PyData.eqv] at h2 ⊢
  | n + 1, .lst xs, e, h1, h2 => by
    cases e with
    | lst ys =>
      simp only [okD, toP, eqD, PyData.eqv] at h1 h2 ⊢
      exact eqDs_toP n xs ys h1 h2
    | _ => simp [okD, toP, eqD, PyData.eqv] at h2 ⊢
  | n, .bell _, e, h1, h2 => by cases n <;> simp [okD] at h1
  | n, .scr _, e, h1, h2 => by cases n <;> simp [okD] at h1
  | n, .ext _, e, h1, h2 => by cases n <;> simp [okD] at h1
theorem eqDs_toP : ∀ (n : Nat) (xs ys : List D), okDs n xs = true → okDs n ys = true → PyData.eqvAll (toPs xs) (toPs ys) = eqDs xs ys
  | n, [], ys, h1, h2 => by cases ys <;> simp [toPs, eqDs, PyData.eqvAll]
  | n, x :: xs, [], h1, h2 => by simp [toPs, eqDs, PyData.eqvAll]
  | n, x :: xs, y :: ys, h1, h2 => by
    simp only [okDs, Bool.and_eq_true] at h1 h2
    simp only [toPs, eqDs, PyData.eqvAll]
    rw [eqD_toP n x y h1.1 h2.1, eqDs_toP n xs ys h1.2 h2.2]
end
mutual
theorem okD_lay : ∀ (n : Nat) (d : D), okD n d = true → (toP d).canLay0 = true ∧ (toP d).depth ≤ n
  | n, .non, _ => by simp [toP, PyData.canLay0, PyData.depth]
  | n, .bl b, _ => by simp [toP, PyData.canLay0, PyData.depth]
  | n, .int i, _ => by simp [toP, PyData.canLay0, PyData.depth]
  | n, .str x, h => by cases n <;> simpa [okD, toP, PyData.canLay0, PyData.depth] using h
  | 0, .tup xs, h => by simp [okD] at h
  | 0, .lst xs, h => by simp [okD] at h
  | n + 1, .tup xs, h => by
    simp only [okD] at h
    obtain ⟨h1, h2⟩ := okDs_lay n xs h
    simp only [toP, PyData.canLay0, PyData.depth]
    exact ⟨h1, by omega⟩
  | n + 1, .lst xs, h => by
    simp only [okD] at h
    obtain ⟨h1, h2⟩ := okDs_lay n xs h
    simp only [toP, PyData.canLay0, PyData.depth]
    exact ⟨h1, by omega⟩
  | n, .bell _, h => by cases n <;> simp [okD] at h
  | n, .scr _, h => by cases n <;> simp [okD] at h
  | n, .ext _, h => by cases n <;> simp [okD] at h
theorem okDs_lay : ∀ (n : Nat) (ds : List D), okDs n ds = true → PyData.canLayAll0 (toPs ds) = true ∧ PyData.depthAll (toPs ds) ≤ n
  | n, [], _ => by simp [toPs, PyData.canLayAll0, PyData.depthAll]
  | n, x :: xs, h => by
    simp only [okDs, Bool.and_eq_true] at h
    obtain ⟨h1, h2⟩ := okD_lay n x h.1
    obtain ⟨h3, h4⟩ := okDs_lay n xs h.2
    simp only [toPs, PyData.canLayAll0, PyData.depthAll, h1, h3, Bool.and_self]
    exact ⟨trivial, by omega⟩
end
theorem shaped_ok {d : D} {n : Nat} (h : okD n d = true) (hn : n ≤ 64) : SeqAt.shaped (toP d) = true := by
  obtain ⟨h1, h2⟩ := okD_lay n d h
  unfold SeqAt.shaped
  rw [h1, decide_eq_true (Nat.le_trans h2 hn)]
  rfl
section
variable {K : PySem.W.Frag} {C : Addr} {H : Hp}
mutual
theorem Rp.dp : ∀ (n : Nat) (d : D) (v : V), okD n d = true → Rp K C H d v → Dp K H v (toP d)
  | _, .non, v, _, h => by
    have e : v = .non := h
    subst e
    exact .non
  | _, .bl b, v, _, h => by
    have e : v = .bl b := h
    subst e
    exact .bl b
  | _, .int i, v, _, h => by
    have e : v = .int i := h
    subst e
    exact .int i
  | _, .str x, v, _, h => by
    have e : v = .str x := h
    subst e
    exact .str x
  | 0, .tup xs, v, o, h => by simp [okD] at o
  | 0, .lst xs, v, o, h => by simp [okD] at o
  | n + 1, .tup ds, v, o, h => by
    simp only [Rp] at h
    simp only [okD] at o
    obtain ⟨a, xs, rfl, ha, hl⟩ := h
    simp only [toP]
    exact .tup (SqT.of ha) (RpL.dp n ds xs o hl)
  | n + 1, .lst ds, v, o, h => by
    simp only [Rp] at h
    simp only [okD] at o
    obtain ⟨a, xs, rfl, ha, hl⟩ := h
    simp only [toP]
    exact .lst (SqL.of ha) (RpL.dp n ds xs o hl)
  | n, .bell _, _, o, _ => by cases n <;> simp [okD] at o
  | n, .scr _, _, o, _ => by cases n <;> simp [okD] at o
  | n, .ext _, _, o, _ => by cases n <;> simp [okD] at o
theorem RpL.dp : ∀ (n : Nat) (ds : List D) (vs : List V), okDs n ds = true → RpL K C H ds vs → DpAll K H vs (toPs ds)
  | _, [], vs, _, h => by
    have e : vs = [] := h
    subst e
    simp only [toPs]
    exact .nil
  | n, d :: ds, vs, o, h => by
    simp only [RpL] at h
    simp only [okDs, Bool.and_eq_true] at o
    obtain ⟨x, r, rfl, h1, h2⟩ := h
    simp only [toPs]
    exact .cons (Rp.dp n d x o.1 h1) (RpL.dp n ds r o.2 h2)
end
end
theorem szl_ok {n : Nat} (h : n ≤ 16777216) : n ≤ sizeLine := by rw [sizeLine_eq]; exact h
def opAdd : D → D → Option D
  | .int a, .int b => some (.int (a + b))
  | .tup a, .tup b => if a.length + b.length ≤ 16777216 then some (.tup (a ++ b)) else none
  | .lst a, .lst b => if a.length + b.length ≤ 16777216 then some (.lst (a ++ b)) else none
  | .str a, .str b => if a.length + b.length ≤ 16777216 then some (.str (a ++ b)) else none
  | _, _ => none
def opSub : D → D → Option D
  | .int a, .int b => some (.int (a - b))
  | _, _ => none
/-- one factor below 2 ^ 64 -/
def mulOk (a b : Int) : Bool := (decide (-18446744073709551616 < a) && decide (a < 18446744073709551616)) || (decide (-18446744073709551616 < b) && decide (b < 18446744073709551616))
def opMul : D → D → Option D
  | .int a, .int b => if mulOk a b = true then some (.int (a * b)) else none
  | .lst a, .int k => if k ≤ 16777216 ∧ -16777216 ≤ k ∧ a.length * k.toNat ≤ 16777216 then some (.lst (List.replicate k.toNat a).flatten) else none
  | .tup a, .int k => if 2 ≤ k ∧ k ≤ 1000 ∧ a.length ≤ 1000 ∧ a.isEmpty = false then some (.tup (List.replicate k.toNat a).flatten) else none
  | _, _ => none
def opFdiv : D → D → Option D
  | .int a, .int b => if 0 < b ∧ b < 18446744073709551616 then some (.int (a / b)) else none
  | _, _ => none
def opMod : D → D → Option D
  | .int a, .int b => if 0 < b then some (.int (a % b)) else none
  | _, _ => none
def opPow : D → D → Option D
  | .int a, .int b => if 0 ≤ b ∧ b ≤ 1000 ∧ 0 ≤ a ∧ a ≤ 1000000 then some (.int (a ^ b.toNat)) else none
  | _, _ => none
def opEq (d e : D) : Option D := if okD 60 d = true ∧ okD 60 e = true then some (.bl (eqD d e)) else none
def opNe (d e : D) : Option D := if okD 60 d = true ∧ okD 60 e = true then some (.bl (!eqD d e)) else none
def asInts : List D → Option (List Int)
  | [] => some []
  | .int i :: r => (asInts r).map (i :: ·)
  | _ :: _ => none
def lexI : List Int → List Int → Bool
  | _, [] => false
  | [], _ :: _ => true
  | x :: xs, y :: ys => if x = y then lexI xs ys else decide (x < y)
def opLt : D → D → Option D
  | .int a, .int b => some (.bl (decide (a < b)))
  | .tup a, .tup b => (asInts a).bind fun x => (asInts b).bind fun y => some (.bl (lexI x y))
  | _, _ => none
def opLe : D → D → Option D
  | .int a, .int b => some (.bl (decide (a ≤ b)))
  | _, _ => none
def opGt : D → D → Option D
  | .int a, .int b => some (.bl (decide (b < a)))
  | .tup a, .tup b => (asInts a).bind fun x => (asInts b).bind fun y => some (.bl (lexI y x))
  | _, _ => none
def opGe : D → D → Option D
  | .int a, .int b => some (.bl (decide (b ≤ a)))
  | _, _ => none
def inD (d : D) (ds : List D) : Bool := ds.any fun z => eqD z d
def opIn : D → D → Option D
  | d, .lst ds => if okD 60 d = true ∧ okDs 60 ds = true then some (.bl (inD d ds)) else none
  | d, .tup ds => if okD 60 d = true ∧ okDs 60 ds = true then some (.bl (inD d ds)) else none
  | _, _ => none
def opNotIn : D → D → Option D
  | d, .lst ds => if okD 60 d = true ∧ okDs 60 ds = true then some (.bl (!inD d ds)) else none
  | d, .tup ds => if okD 60 d = true ∧ okDs 60 ds = true then some (.bl (!inD d ds)) else none
  | _, _ => none
def isNone : D → Bool
  | .non => true
  | _ => false
def opIs : D → D → Option D
  | .bl a, .bl b => some (.bl (decide (a = b)))
  | d, .non => some (.bl (isNone d))
  | _, _ => none
def opIsNot : D → D → Option D
  | .bl a, .bl b => some (.bl (!decide (a = b)))
  | d, .non => some (.bl (!isNone d))
  | _, _ => none
def ixNat (n : Nat) (i : Int) : Option Nat := if 0 ≤ i then (if i < n then some i.toNat else none) else if -(n : Int) ≤ i then some (i + n).toNat else none
def opIx : D → D → Option D
  | .tup xs, .int i => (ixNat xs.length i).bind fun j => xs[j]?
  | .lst xs, .int i => (ixNat xs.length i).bind fun j => xs[j]?
  | .scr xs, .int i => (ixNat xs.length i).bind fun j => xs[j]?.map D.int
  | _, _ => none
section
variable {X : Cx} {C : Addr}
theorem got0 {K : PySem.W.Frag} {F H : Hp} {d : D} {Q : VK} {v : V} (g : Got K C F H d Q) (fh : Same F H) (r : Rp K C F d v) : Q v H := g v F H (Stp.refl fh) r
theorem gotN {K : PySem.W.Frag} {F H : Hp} {d : D} {Q : VK} {p : Addr} {o : HO} (g : Got K C F H d Q) (fh : Same F H) (hp : H p = none) (r : Rp K C (upd F p o) d (.ref p)) : Q (.ref p) (upd H p o) := g _ _ _ (Stp.new fh hp) r
theorem intsRp {K : PySem.W.Frag} {F : Hp} : ∀ {ds : List D} {ns : List Int} {vs : List V}, asInts ds = some ns → RpL K C F ds vs → vs = ns.map V.int
  | [], ns, vs, e, h => by
    cases e
    exact h
  | .int i :: ds, ns, vs, e, h => by
    simp only [asInts, Option.map_eq_some_iff] at e
    obtain ⟨ns', e1, rfl⟩ := e
    obtain ⟨x, r, rfl, h1, h2⟩ := h
    have h1' : x = .int i := h1
    rw [h1', intsRp e1 h2]
    rfl
  | .non :: _, _, _, e, _ => by simp [asInts] at e
  | .bl _ :: _, _, _, e, _ => by simp [asInts] at e
  | .str _ :: _, _, _, e, _ => by simp [asInts] at e
  | .tup _ :: _, _, _, e, _ => by simp [asInts] at e
  | .lst _ :: _, _, _, e, _ => by simp [asInts] at e
  | .bell _ :: _, _, _, e, _ => by simp [asInts] at e
  | .scr _ :: _, _, _, e, _ => by simp [asInts] at e
  | .ext _ :: _, _, _, e, _ => by simp [asInts] at e
theorem RpL.nil_of {K : PySem.W.Frag} {F : Hp} {ds : List D} (h : RpL K C F ds []) : ds = [] := List.eq_nil_of_length_eq_zero h.len
theorem od_add : OpD X C (binaryOp .Add) opAdd := OpRw (op_add.or (op_catA.or (op_cat.or op_add_str))) fun x y H Q ⟨F, d, e, c, fh, r1, r2, ho, g⟩ => by
  cases d <;> cases e <;> first | (cases ho; done) | skip
  · cases ho
    exact .inl ⟨_, _, r1, r2, got0 g fh rfl⟩
  · simp only [opAdd] at ho
    split at ho
    · rename_i hz
      cases ho
      exact .inr (.inr (.inr ⟨_, _, r1, r2, szl_ok hz, got0 g fh rfl⟩))
    · cases ho
  · simp only [opAdd] at ho
    split at ho
    · rename_i hz
      cases ho
      obtain ⟨a, xs, rfl, ha, hl⟩ := r1
      obtain ⟨b, ys, rfl, hb, hm⟩ := r2
      have l1 := hl.len
      have l2 := hm.len
      refine .inr (.inl ⟨a, b, xs, ys, rfl, rfl, SqT.of (fh _ _ ha), SqT.of (fh _ _ hb), szl_ok (by omega), fun e0 => ?_, fun e0 e1 => ?_, fun e0 e1 p hp => ?_⟩)
      · subst e0
        obtain rfl := RpL.nil_of hl
        exact got0 g fh ⟨b, ys, rfl, hb, hm⟩
      · subst e1
        obtain rfl := RpL.nil_of hm
        rw [List.append_nil] at g
        exact got0 g fh ⟨a, xs, rfl, ha, hl⟩
      · have sm := same_upd (o := .tup (xs ++ ys)) (none_of_same fh hp)
        exact gotN g fh hp ⟨p, _, rfl, upd_same, RpL.append (RpL.mono sm _ _ hl) (RpL.mono sm _ _ hm)⟩
    · cases ho
  · simp only [opAdd] at ho
    split at ho
    · rename_i hz
      cases ho
      obtain ⟨a, xs, rfl, ha, hl⟩ := r1
      obtain ⟨b, ys, rfl, hb, hm⟩ := r2
      have l1 := hl.len
      have l2 := hm.len
      refine .inr (.inr (.inl ⟨a, b, xs, ys, rfl, rfl, fh _ _ ha, fh _ _ hb, szl_ok (by omega), fun p hp => ?_⟩))
      have sm := same_upd (o := .lst (xs ++ ys)) (none_of_same fh hp)
      exact gotN g fh hp ⟨p, _, rfl, upd_same, RpL.append (RpL.mono sm _ _ hl) (RpL.mono sm _ _ hm)⟩
    · cases ho
theorem mulOk_CMul {a b : Int} (h : mulOk a b = true) : CMul a b := by
  unfold mulOk at h
  simp only [Bool.or_eq_true, Bool.and_eq_true, decide_eq_true_eq] at h
  unfold CMul
  have e : (2 : Int) ^ 64 = 18446744073709551616 := by decide
  rw [e]
  exact h
theorem od_mul : OpD X C (binaryOp .Mult) opMul := OpRw (op_mul.or (op_rep.or op_repT)) fun x y H Q ⟨F, d, e, c, fh, r1, r2, ho, g⟩ => by
  cases d <;> cases e <;> first | (cases ho; done) | skip
  · simp only [opMul] at ho
    split at ho
    · rename_i hz
      cases ho
      exact .inl ⟨_, _, r1, r2, mulOk_CMul hz, got0 g fh rfl⟩
    · cases ho
  · simp only [opMul] at ho
    split at ho
    · rename_i hz
      cases ho
      obtain ⟨a, xs, rfl, ha, hl⟩ := r1
      have l1 := hl.len
      refine .inr (.inr ⟨a, _, xs, rfl, r2, SqT.of (fh _ _ ha), fun e0 => ?_, hz.1, hz.2.1, by omega, fun p hp => ?_⟩)
      · subst e0
        obtain rfl := RpL.nil_of hl
        exact absurd hz.2.2.2 (by simp)
      · exact gotN g fh hp ⟨p, _, rfl, upd_same, RpL.rep (RpL.mono (same_upd (none_of_same fh hp)) _ _ hl) _⟩
    · cases ho
  · simp only [opMul] at ho
    split at ho
    · rename_i hz
      cases ho
      obtain ⟨a, xs, rfl, ha, hl⟩ := r1
      have l1 := hl.len
      have e63 : (2 : Int) ^ 63 = 9223372036854775808 := by decide
      refine .inr (.inl ⟨a, _, xs, rfl, r2, fh _ _ ha, by rw [e63]; omega, by rw [e63]; omega, szl_ok (by rw [← l1]; exact hz.2.2), fun p hp => ?_⟩)
      exact gotN g fh hp ⟨p, _, rfl, upd_same, RpL.rep (RpL.mono (same_upd (none_of_same fh hp)) _ _ hl) _⟩
    · cases ho
theorem od_fdiv : OpD X C (binaryOp .FloorDiv) opFdiv := OpRw op_fdivW fun x y H Q ⟨F, d, e, c, fh, r1, r2, ho, g⟩ => by
  cases d <;> cases e <;> first | (cases ho; done) | skip
  simp only [opFdiv] at ho
  split at ho
  · rename_i hz
    cases ho
    exact ⟨_, _, r1, r2, wide_div (b := 64) hz.1 (by omega) (by decide) (by decide), got0 g fh rfl⟩
  · cases ho
theorem od_mod : OpD X C (binaryOp .Mod) opMod := OpRw op_mod fun x y H Q ⟨F, d, e, c, fh, r1, r2, ho, g⟩ => by
  cases d <;> cases e <;> first | (cases ho; done) | skip
  simp only [opMod] at ho
  split at ho
  · rename_i hz
    cases ho
    exact ⟨_, _, r1, r2, hz, got0 g fh rfl⟩
  · cases ho
theorem od_pow : OpD X C (binaryOp .Pow) opPow := OpRw op_pow fun x y H Q ⟨F, d, e, c, fh, r1, r2, ho, g⟩ => by
  cases d <;> cases e <;> first | (cases ho; done) | skip
  simp only [opPow] at ho
  split at ho
  · rename_i hz
    cases ho
    exact ⟨_, _, r1, r2, ⟨hz.1, by omega, by omega⟩, got0 g fh rfl⟩
  · cases ho
theorem od_eq (hu : X.A.units + 64 < cLine) : OpD X C (compareOp .Eq) opEq := OpRw (op_eqD hu) fun x y H Q ⟨F, d, e, c, fh, r1, r2, ho, g⟩ => by
  unfold opEq at ho
  split at ho
  · rename_i hz
    cases ho
    refine ⟨_, _, Rp.dp 60 d x hz.1 (Rp.mono fh _ _ r1), Rp.dp 60 e y hz.2 (Rp.mono fh _ _ r2), shaped_ok hz.1 (by decide), shaped_ok hz.2 (by decide), ?_⟩
    rw [eqD_toP 60 d e hz.1 hz.2]
    exact got0 g fh rfl
  · cases ho
theorem od_ne (hu : X.A.units + 64 < cLine) : OpD X C (compareOp .NotEq) opNe := OpRw (op_neD hu) fun x y H Q ⟨F, d, e, c, fh, r1, r2, ho, g⟩ => by
  unfold opNe at ho
  split at ho
  · rename_i hz
    cases ho
    refine ⟨_, _, Rp.dp 60 d x hz.1 (Rp.mono fh _ _ r1), Rp.dp 60 e y hz.2 (Rp.mono fh _ _ r2), shaped_ok hz.1 (by decide), shaped_ok hz.2 (by decide), ?_⟩
    rw [eqD_toP 60 d e hz.1 hz.2]
    exact got0 g fh rfl
  · cases ho
theorem lexI_eq : ∀ xs ys : List Int, HT.lexLt xs ys = lexI xs ys
  | [], [] => rfl
  | [], _ :: _ => rfl
  | _ :: _, [] => rfl
  | x :: xs, y :: ys => by
    rw [HT.lexLt_cons]
    show _ = if x = y then lexI xs ys else decide (x < y)
    rw [lexI_eq xs ys]
theorem op_gtT {X : Cx} (hu : X.A.units < cLine) : OpR X (compareOp .Gt) (fun x y H Q => ∃ (a b : Addr) (ns ms : List Int), x = .ref a ∧ y = .ref b ∧ SqT X.K H a (ns.map V.int) ∧ SqT X.K H b (ms.map V.int) ∧
  Q (.bl (Ob.lexAt (fun j => decide (ns.getD j 0 = ms.getD j 0)) (fun j => decide (ms.getD j 0 < ns.getD j 0)) (decide (ns.length > ms.length)) 0 (min ns.length ms.length))) H) := by
  intro pins s σ H x y v u Q I rx ry h
  obtain ⟨a, b, ns, ms, rfl, rfl, ha, hb, q⟩ := h
  cases rx
  cases ry
  obtain ⟨its, r1, p1, _⟩ := I.tuple ha
  obtain ⟨its2, r2, p2, _⟩ := I.tuple hb
  have i1 : IntsAre its ns := Vals.ints r1
  have i2 : IntsAre its2 ms := Vals.ints r2
  have e1 : its.toArray.size = ns.length := by rw [List.size_toArray]; exact i1.length
  have e2 : its2.toArray.size = ms.length := by rw [List.size_toArray]; exact i2.length
  have at1 : ∀ j (h1 : j < its.toArray.size), ∃ t, its.toArray[j] = .int (ns.getD j 0) t := fun j h1 => PyProof.Rows.IntsAre.int_at i1 _ _ (by simp at h1; simp [h1])
  have at2 : ∀ j (h1 : j < its2.toArray.size), ∃ t, its2.toArray[j] = .int (ms.getD j 0) t := fun j h1 => PyProof.Rows.IntsAre.int_at i2 _ _ (by simp at h1; simp [h1])
  have R := Ob.RcOp.tuples_gt (A := X.A) (s := s) (e := fun j => decide (ns.getD j 0 = ms.getD j 0)) (r := fun j => decide (ms.getD j 0 < ns.getD j 0)) p1 p2 hu (fun j h1 h2 => by
    obtain ⟨t, et⟩ := at1 j h1
    obtain ⟨t', et'⟩ := at2 j h2
    rw [et, et']
    have z : (ns.getD j 0 == ms.getD j 0) = decide (ns.getD j 0 = ms.getD j 0) := by
      by_cases q : ns.getD j 0 = ms.getD j 0
      · rw [decide_eq_true q]; exact beq_iff_eq.mpr q
      · rw [decide_eq_false q]; exact beq_eq_false_iff_ne.mpr q
    rw [← z]
    exact SeqAt.EqAt.int_int _ _ _ _) (fun j h1 h2 _ => by
    obtain ⟨t, et⟩ := at1 j h1
    obtain ⟨t', et'⟩ := at2 j h2
    rw [et, et']
    exact Ob.RcOp.gt_int _ _ _ _)
  rw [e1, e2] at R
  have z : wpAny (model X.prog X.w) X.A (compareOp .Gt (.ref a) (.ref b)) (EP X pins σ Q) X.xe s := R X.prog X.w X.xe (EP X pins σ Q) ⟨.bl _, H, I, rfl, q⟩
  exact z
theorem lexAt_shift (e r : Nat → Bool) (z : Bool) : ∀ (k i : Nat), Ob.lexAt e r z (i + 1) k = Ob.lexAt (fun j => e (j + 1)) (fun j => r (j + 1)) z i k
  | 0, i => rfl
  | k + 1, i => by
    rw [Ob.lexAt_succ, Ob.lexAt_succ, lexAt_shift e r z k (i + 1)]
theorem lexAt_gt : ∀ (ns ms : List Int), Ob.lexAt (fun j => decide (ns.getD j 0 = ms.getD j 0)) (fun j => decide (ms.getD j 0 < ns.getD j 0)) (decide (ns.length > ms.length)) 0 (min ns.length ms.length) = lexI ms ns
  | [], [] => rfl
  | [], _ :: _ => rfl
  | _ :: _, [] => by simp [Ob.lexAt_zero, lexI]
  | x :: xs, y :: ys => by
    have e : min (x :: xs).length (y :: ys).length = min xs.length ys.length + 1 := by simp only [List.length_cons]; omega
    rw [e, Ob.lexAt_succ, lexAt_shift]
    have e2 : decide ((x :: xs).length > (y :: ys).length) = decide (xs.length > ys.length) := by
      rw [List.length_cons, List.length_cons]
      exact decide_eq_decide.mpr (by omega)
    rw [e2]
    show (if decide (x = y) = true then Ob.lexAt (fun j => decide (xs.getD j 0 = ys.getD j 0)) (fun j => decide (ys.getD j 0 < xs.getD j 0)) (decide (xs.length > ys.length)) 0 (min xs.length ys.length) else decide (y < x)) = if y = x then lexI ys xs else decide (y < x)
    rw [lexAt_gt xs ys]
    by_cases h : x = y
    · rw [decide_eq_true h, if_pos rfl, if_pos h.symm]
    · rw [decide_eq_false h, if_neg Bool.false_ne_true, if_neg (fun z => h z.symm)]
theorem od_lt (hu : X.A.units < cLine) : OpD X C (compareOp .Lt) opLt := OpRw (op_lt.or (op_ltT hu)) fun x y H Q ⟨F, d, e, c, fh, r1, r2, ho, g⟩ => by
  cases d <;> cases e <;> first | (cases ho; done) | skip
  · cases ho
    exact .inl ⟨_, _, r1, r2, got0 g fh rfl⟩
  · obtain ⟨ns, e1, ho1⟩ := bind_some ho
    obtain ⟨ms, e2, ho2⟩ := bind_some ho1
    cases ho2
    obtain ⟨a, xs, rfl, ha, hl⟩ := r1
    obtain ⟨b, ys, rfl, hb, hm⟩ := r2
    rw [intsRp e1 hl] at ha
    rw [intsRp e2 hm] at hb
    refine .inr ⟨a, b, ns, ms, rfl, rfl, SqT.of (fh _ _ ha), SqT.of (fh _ _ hb), ?_⟩
    rw [lexI_eq]
    exact got0 g fh rfl
theorem od_gt (hu : X.A.units < cLine) : OpD X C (compareOp .Gt) opGt := OpRw (op_gt.or (op_gtT hu)) fun x y H Q ⟨F, d, e, c, fh, r1, r2, ho, g⟩ => by
  cases d <;> cases e <;> first | (cases ho; done) | skip
  · cases ho
    exact .inl ⟨_, _, r1, r2, got0 g fh rfl⟩
  · obtain ⟨ns, e1, ho1⟩ := bind_some ho
    obtain ⟨ms, e2, ho2⟩ := bind_some ho1
    cases ho2
    obtain ⟨a, xs, rfl, ha, hl⟩ := r1
    obtain ⟨b, ys, rfl, hb, hm⟩ := r2
    rw [intsRp e1 hl] at ha
    rw [intsRp e2 hm] at hb
    refine .inr ⟨a, b, ns, ms, rfl, rfl, SqT.of (fh _ _ ha), SqT.of (fh _ _ hb), ?_⟩
    rw [lexAt_gt]
    exact got0 g fh rfl
theorem od_le : OpD X C (compareOp .LtE) opLe := OpRw op_le fun x y H Q ⟨F, d, e, c, fh, r1, r2, ho, g⟩ => by
  cases d <;> cases e <;> first | (cases ho; done) | skip
  cases ho
  exact ⟨_, _, r1, r2, got0 g fh rfl⟩
theorem od_ge : OpD X C (compareOp .GtE) opGe := OpRw op_ge fun x y H Q ⟨F, d, e, c, fh, r1, r2, ho, g⟩ => by
  cases d <;> cases e <;> first | (cases ho; done) | skip
  cases ho
  exact ⟨_, _, r1, r2, got0 g fh rfl⟩
def rInT (K : PySem.W.Frag) : R2 := fun x y H Q => ∃ d ds, Dp K H x d ∧ Dp K H y (.tuple ds) ∧ SeqAt.shaped d = true ∧ SeqAt.shaped (.tuple ds) = true ∧ Q (.bl (ds.any fun z => PyData.eqv z d)) H
def rNotInT (K : PySem.W.Frag) : R2 := fun x y H Q => ∃ d ds, Dp K H x d ∧ Dp K H y (.tuple ds) ∧ SeqAt.shaped d = true ∧ SeqAt.shaped (.tuple ds) = true ∧ Q (.bl (!ds.any fun z => PyData.eqv z d)) H
theorem op_inT (hu : X.A.units + 65 < cLine) : OpR X (compareOp .In) (rInT X.K) := by
  intro pins s σ H x y v u Q I rx ry h
  obtain ⟨d, ds, hd, he, sd, se, q⟩ := h
  obtain ⟨as, r1⟩ := Dp.reads I d x v hd rx
  obtain ⟨bs, r2⟩ := Dp.reads I (.tuple ds) y u he ry
  exact SeqAt.in_tuple_reads r2 r1 (SeqAt.canLay_of_shaped se) (SeqAt.canLay_of_shaped sd) (room_in_shaped sd hu) ⟨.bl _, H, I, rfl, q⟩
theorem op_notInT (hu : X.A.units + 65 < cLine) : OpR X (compareOp .NotIn) (rNotInT X.K) := by
  intro pins s σ H x y v u Q I rx ry h
  obtain ⟨d, ds, hd, he, sd, se, q⟩ := h
  obtain ⟨as, r1⟩ := Dp.reads I d x v hd rx
  obtain ⟨bs, r2⟩ := Dp.reads I (.tuple ds) y u he ry
  exact SeqAt.notIn_tuple_reads r2 r1 (SeqAt.canLay_of_shaped se) (SeqAt.canLay_of_shaped sd) (room_in_shaped sd hu) ⟨.bl _, H, I, rfl, q⟩
theorem any_toP {d : D} (hd : okD 60 d = true) : ∀ {ds : List D}, okDs 60 ds = true → ((toPs ds).any fun z => PyData.eqv z (toP d)) = inD d ds
  | [], _ => by simp [toPs, inD]
  | x :: xs, h => by
    simp only [okDs, Bool.and_eq_true] at h
    simp only [toPs, inD, List.any_cons]
    rw [eqD_toP 60 x d h.1 hd, any_toP hd h.2]
    rfl
theorem okDs_tup {ds : List D} (h : okDs 60 ds = true) : okD 61 (.tup ds) = true := by simpa [okD] using h
theorem okDs_lst {ds : List D} (h : okDs 60 ds = true) : okD 61 (.lst ds) = true := by simpa [okD] using h
theorem od_in (hu : X.A.units + 65 < cLine) : OpD X C (compareOp .In) opIn := OpRw ((op_inD hu).or (op_inT hu)) fun x y H Q ⟨F, d, e, c, fh, r1, r2, ho, g⟩ => by
  cases e with
  | lst ds =>
    simp only [opIn] at ho
    split at ho
    · rename_i hz
      cases ho
      refine .inl ⟨toP d, toPs ds, Rp.dp 60 d x hz.1 (Rp.mono fh _ _ r1), ?_, shaped_ok hz.1 (by decide), ?_, ?_⟩
      · have := Rp.dp 61 (.lst ds) y (okDs_lst hz.2) (Rp.mono fh _ _ r2)
        simpa [toP] using this
      · have := shaped_ok (okDs_lst hz.2) (by decide)
        simpa [toP] using this
      · rw [any_toP hz.1 hz.2]
        exact got0 g fh rfl
    · cases ho
  | tup ds =>
    simp only [opIn] at ho
    split at ho
    · rename_i hz
      cases ho
      refine .inr ⟨toP d, toPs ds, Rp.dp 60 d x hz.1 (Rp.mono fh _ _ r1), ?_, shaped_ok hz.1 (by decide), ?_, ?_⟩
      · have := Rp.dp 61 (.tup ds) y (okDs_tup hz.2) (Rp.mono fh _ _ r2)
        simpa [toP] using this
      · have := shaped_ok (okDs_tup hz.2) (by decide)
        simpa [toP] using this
      · rw [any_toP hz.1 hz.2]
        exact got0 g fh rfl
    · cases ho
  | _ => cases ho
theorem od_notIn (hu : X.A.units + 65 < cLine) : OpD X C (compareOp .NotIn) opNotIn := OpRw ((op_notInD hu).or (op_notInT hu)) fun x y H Q ⟨F, d, e, c, fh, r1, r2, ho, g⟩ => by
  cases e with
  | lst ds =>
    simp only [opNotIn] at ho
    split at ho
    · rename_i hz
      cases ho
      refine .inl ⟨toP d, toPs ds, Rp.dp 60 d x hz.1 (Rp.mono fh _ _ r1), ?_, shaped_ok hz.1 (by decide), ?_, ?_⟩
      · have := Rp.dp 61 (.lst ds) y (okDs_lst hz.2) (Rp.mono fh _ _ r2)
        simpa [toP] using this
      · have := shaped_ok (okDs_lst hz.2) (by decide)
        simpa [toP] using this
      · rw [any_toP hz.1 hz.2]
        exact got0 g fh rfl
    · cases ho
  | tup ds =>
    simp only [opNotIn] at ho
    split at ho
    · rename_i hz
      cases ho
      refine .inr ⟨toP d, toPs ds, Rp.dp 60 d x hz.1 (Rp.mono fh _ _ r1), ?_, shaped_ok hz.1 (by decide), ?_, ?_⟩
      · have := Rp.dp 61 (.tup ds) y (okDs_tup hz.2) (Rp.mono fh _ _ r2)
        simpa [toP] using this
      · have := shaped_ok (okDs_tup hz.2) (by decide)
        simpa [toP] using this
      · rw [any_toP hz.1 hz.2]
        exact got0 g fh rfl
    · cases ho
  | _ => cases ho
theorem non_iff {K : PySem.W.Frag} {F : Hp} {d : D} {x : V} (r : Rp K C F d x) : decide (x = .non) = isNone d := by
  cases d with
  | non =>
    have e : x = .non := r
    subst e
    rfl
  | bl _ =>
    have e : x = .bl _ := r
    subst e
    rfl
  | int _ =>
    have e : x = .int _ := r
    subst e
    rfl
  | str _ =>
    have e : x = .str _ := r
    subst e
    rfl
  | tup _ => obtain ⟨a, xs, rfl, _⟩ := r; rfl
  | lst _ => obtain ⟨a, xs, rfl, _⟩ := r; rfl
  | bell _ => obtain ⟨a, dx, t, rfl, _⟩ := r; rfl
  | scr _ => obtain ⟨a, rfl, _⟩ := r; rfl
  | ext x => cases x with
    | dic _ => obtain ⟨a, rfl, _⟩ := r; rfl
theorem od_isnot : OpD X C (compareOp .IsNot) opIsNot := OpRw (op_notN.or op_isnot_bl) fun x y H Q ⟨F, d, e, c, fh, r1, r2, ho, g⟩ => by
  have nn : ∀ {d' : D}, Rp X.K C F d' x → opIsNot d' .non = some c → y = .non → y = .non ∧ Q (.bl (!decide (x = .non))) H := fun {d'} rr hh e0 => by
    refine ⟨e0, ?_⟩
    rw [non_iff rr]
    cases d' <;> (cases hh; exact got0 g fh rfl)
  cases e with
  | non => exact .inl (nn r1 ho r2)
  | bl b =>
    cases d with
    | bl a =>
      cases ho
      exact .inr ⟨_, _, r1, r2, got0 g fh rfl⟩
    | _ => cases ho
  | _ => cases d <;> cases ho
theorem ixNat_eq (n : Nat) (i : Int) : ixNat n i = ixN n i := rfl
theorem ix_d : IxD X C opIx := by
  intro vl sl pins s σ H x y v u Q I rx ry q
  refine (ix_tup.or ix_list) vl sl pins s σ H x y v u Q I rx ry ?_
  obtain ⟨F, d, e, c, fh, r1, r2, ho, g⟩ := q
  cases d <;> cases e <;> first | (cases ho; done) | skip
  · obtain ⟨j, e1, e2⟩ := bind_some ho
    obtain ⟨a, xs, rfl, ha, hl⟩ := r1
    obtain ⟨w, h1, h2⟩ := RpL.get hl e2
    refine .inl ⟨a, xs, _, w, rfl, r2, SqT.of (fh _ _ ha), ?_, got0 g fh h2⟩
    unfold atI
    rw [← hl.len, ← ixNat_eq, e1]
    exact h1
  · obtain ⟨j, e1, e2⟩ := bind_some ho
    obtain ⟨a, xs, rfl, ha, hl⟩ := r1
    obtain ⟨w, h1, h2⟩ := RpL.get hl e2
    refine .inr ⟨a, xs, _, w, rfl, r2, SqL.of (fh _ _ ha), ?_, got0 g fh h2⟩
    unfold atI
    rw [← hl.len, ← ixNat_eq, e1]
    exact h1
  · obtain ⟨j, e1, e2⟩ := bind_some ho
    obtain ⟨a, rfl, ha⟩ := r1
    obtain ⟨i', e3, rfl⟩ := Option.map_eq_some_iff.mp e2
    refine .inr ⟨a, _, _, .int i', rfl, r2, fh.seq ha, ?_, got0 g fh rfl⟩
    unfold atI
    rw [List.length_map, ← ixNat_eq, e1]
    show (List.map V.int _)[j]? = _
    rw [List.getElem?_map, e3]
    rfl
end
end DL
namespace DL
open PySem PySem.Spec PyProof.Rows L2
def opLen : List D → Option D
  | [.tup xs] => some (.int xs.length)
  | [.lst xs] => some (.int xs.length)
  | [.scr xs] => some (.int xs.length)
  | [.str x] => if x.length ≤ 16777216 then some (.int x.length) else none
  | _ => none
def opTuple : List D → Option D
  | [.tup xs] => some (.tup xs)
  | [.lst xs] => some (.tup xs)
  | _ => none
/-- sorted -/
def ins (a : Int) : List Int → List Int
  | [] => [a]
  | b :: r => if a ≤ b then a :: b :: r else b :: ins a r
def isort : List Int → List Int
  | [] => []
  | a :: r => ins a (isort r)
def opSorted : List D → Option D
  | [.lst xs] => (asInts xs).bind fun ns => some (.lst ((isort ns).map D.int))
  | _ => none
def asBls : List D → Option (List Bool)
  | [] => some []
  | .bl i :: r => (asBls r).map (i :: ·)
  | _ :: _ => none
def opAll : List D → Option D
  | [.lst xs] => (asBls xs).bind fun bs => some (.bl (bs.all id))
  | _ => none
theorem ins_perm (a : Int) : ∀ l : List Int, (ins a l).Perm (a :: l)
  | [] => .refl _
  | b :: r => by
    unfold ins
    split
    · exact .refl _
    · exact ((ins_perm a r).cons b).trans (.swap a b r)
theorem isort_perm : ∀ l : List Int, (isort l).Perm l
  | [] => .refl _
  | a :: r => (ins_perm a _).trans ((isort_perm r).cons a)
theorem ins_sorted (a : Int) : ∀ {l : List Int}, l.Pairwise (· ≤ ·) → (ins a l).Pairwise (· ≤ ·)
  | [], _ => by simp [ins]
  | b :: r, h => by
    rw [List.pairwise_cons] at h
    unfold ins
    split
    · rename_i hab
      rw [List.pairwise_cons]
      refine ⟨fun x hx => ?_, List.pairwise_cons.mpr h⟩
      rcases List.mem_cons.mp hx with rfl | hx
      · exact hab
      · exact Int.le_trans hab (h.1 x hx)
    · rename_i hab
      rw [List.pairwise_cons]
      refine ⟨fun x hx => ?_, ins_sorted a h.2⟩
      rcases List.mem_cons.mp ((ins_perm a r).mem_iff.mp hx) with rfl | hx
      · omega
      · exact h.1 x hx
theorem isort_sorted : ∀ l : List Int, (isort l).Pairwise (· ≤ ·)
  | [] => .nil
  | a :: r => ins_sorted a (isort_sorted r)
theorem sorted_uniq : ∀ {l m : List Int}, l.Perm m → l.Pairwise (· ≤ ·) → m.Pairwise (· ≤ ·) → l = m
  | [], m, h, _, _ => (List.nil_perm.mp h).symm
  | a :: l, m, h, hl, hm => by
    cases m with
    | nil => exact absurd h.length_eq (by simp)
    | cons b m =>
      rw [List.pairwise_cons] at hl hm
      have e : a = b := by
        have h1 : a ∈ b :: m := h.mem_iff.mp List.mem_cons_self
        have h2 : b ∈ a :: l := h.mem_iff.mpr List.mem_cons_self
        rcases List.mem_cons.mp h1 with e | h1
        · exact e
        · rcases List.mem_cons.mp h2 with e | h2
          · exact e.symm
          · exact Int.le_antisymm (hl.1 b h2) (hm.1 a h1)
      subst e
      rw [sorted_uniq (h.cons_inv) hl.2 hm.2]
section
variable {X : Cx} {C : Addr}
theorem RpL.one_inv {K : PySem.W.Frag} {F : Hp} {d : D} {vs : List V} (h : RpL K C F [d] vs) : ∃ v, vs = [v] ∧ Rp K C F d v := by
  obtain ⟨x, r, e, h1, h2⟩ := h
  have e2 : r = [] := h2
  subst e2
  exact ⟨x, e, h1⟩
theorem RpL.two_inv {K : PySem.W.Frag} {F : Hp} {d e : D} {vs : List V} (h : RpL K C F [d, e] vs) : ∃ v w, vs = [v, w] ∧ Rp K C F d v ∧ Rp K C F e w := by
  obtain ⟨x, r, e1, h1, h2⟩ := h
  obtain ⟨w, rfl, h3⟩ := RpL.one_inv h2
  exact ⟨x, w, e1, h1, h3⟩
theorem cd_len : CallD X C (.builtin "len") opLen := CallRw (call_len_seq.or call_len_str) fun xs H Q ⟨F, ds, c, fh, r, ho, g⟩ => by
  match ds, ho, r with
  | [.tup es], ho, r =>
    cases ho
    obtain ⟨v, rfl, a, xs, rfl, ha, hl⟩ := RpL.one_inv r
    refine .inl ⟨a, xs, rfl, .inr (SqT.of (fh _ _ ha)), ?_⟩
    rw [← hl.len]
    exact got0 g fh rfl
  | [.lst es], ho, r =>
    cases ho
    obtain ⟨v, rfl, a, xs, rfl, ha, hl⟩ := RpL.one_inv r
    refine .inl ⟨a, xs, rfl, .inl (SqL.of (fh _ _ ha)), ?_⟩
    rw [← hl.len]
    exact got0 g fh rfl
  | [.scr es], ho, r =>
    cases ho
    obtain ⟨v, rfl, a, rfl, ha⟩ := RpL.one_inv r
    refine .inl ⟨a, _, rfl, .inl (fh.seq ha), ?_⟩
    rw [List.length_map]
    exact got0 g fh rfl
  | [.str z], ho, r =>
    simp only [opLen] at ho
    split at ho
    · rename_i hz
      cases ho
      obtain ⟨v, rfl, h⟩ := RpL.one_inv r
      have e : v = .str z := h
      subst e
      exact .inr ⟨z, rfl, szl_ok hz, got0 g fh rfl⟩
    · cases ho
theorem cd_tuple : CallD X C (.type "tuple") opTuple := CallRw call_tuple_of fun xs H Q ⟨F, ds, c, fh, r, ho, g⟩ => by
  match ds, ho, r with
  | [.tup es], ho, r =>
    cases ho
    obtain ⟨v, rfl, a, xs, rfl, ha, hl⟩ := RpL.one_inv r
    exact ⟨a, xs, rfl, .inr ⟨SqT.of (fh _ _ ha), got0 g fh ⟨a, xs, rfl, ha, hl⟩⟩⟩
  | [.lst es], ho, r =>
    cases ho
    obtain ⟨v, rfl, a, xs, rfl, ha, hl⟩ := RpL.one_inv r
    exact ⟨a, xs, rfl, .inl ⟨SqL.of (fh _ _ ha), fun l hn => gotN g fh hn ⟨l, xs, rfl, upd_same, RpL.mono (same_upd (none_of_same fh hn)) _ _ hl⟩⟩⟩
theorem cd_sorted : CallD X C (.builtin "sorted") opSorted := CallRw cr_sortedI fun xs H Q ⟨F, ds, c, fh, r, ho, g⟩ => by
  match ds, ho, r with
  | [.lst es], ho, r =>
    obtain ⟨ns, e1, ho1⟩ := bind_some ho
    cases ho1
    obtain ⟨v, rfl, a, xs, rfl, ha, hl⟩ := RpL.one_inv r
    rw [intsRp e1 hl] at ha
    refine ⟨a, ns, rfl, SqL.of (fh _ _ ha), fun ns' p pm st hp => ?_⟩
    have e : ns' = isort ns := sorted_uniq (pm.trans (isort_perm ns).symm) st (isort_sorted ns)
    subst e
    exact gotN g fh hp ⟨p, _, rfl, upd_same, RpL.ofInts _⟩
theorem blsRp {K : PySem.W.Frag} {F : Hp} : ∀ {ds : List D} {ns : List Bool} {vs : List V}, asBls ds = some ns → RpL K C F ds vs → vs = ns.map V.bl
  | [], ns, vs, e, h => by
    cases e
    exact h
  | .bl i :: ds, ns, vs, e, h => by
    simp only [asBls, Option.map_eq_some_iff] at e
    obtain ⟨ns', e1, rfl⟩ := e
    obtain ⟨x, r, rfl, h1, h2⟩ := h
    have h1' : x = .bl i := h1
    rw [h1', blsRp e1 h2]
    rfl
  | .non :: _, _, _, e, _ => by simp [asBls] at e
  | .int _ :: _, _, _, e, _ => by simp [asBls] at e
  | .str _ :: _, _, _, e, _ => by simp [asBls] at e
  | .tup _ :: _, _, _, e, _ => by simp [asBls] at e
  | .lst _ :: _, _, _, e, _ => by simp [asBls] at e
  | .bell _ :: _, _, _, e, _ => by simp [asBls] at e
  | .scr _ :: _, _, _, e, _ => by simp [asBls] at e
  | .ext _ :: _, _, _, e, _ => by simp [asBls] at e
theorem cd_all (hc : X.calm = true) : CallD X C (.builtin "all") opAll := CallRw (cr_all hc) fun xs H Q ⟨F, ds, c, fh, r, ho, g⟩ => by
  match ds, ho, r with
  | [.lst es], ho, r =>
    obtain ⟨ns, e1, ho1⟩ := bind_some ho
    cases ho1
    obtain ⟨v, rfl, a, xs, rfl, ha, hl⟩ := RpL.one_inv r
    rw [blsRp e1 hl] at ha
    exact ⟨a, ns, rfl, SqL.of (fh _ _ ha), got0 g fh rfl⟩
variable {O : List Nat} {e : Expr} {f : DF} {pos p p' : Pos}
end
def cutL (xs : List D) (lo hi : Option Int) : List D := (xs.drop (HT.sIx xs.length 0 lo)).take (HT.sIx xs.length xs.length hi - HT.sIx xs.length 0 lo)
def opSl (lo hi : Option Int) : D → Option D
  | .tup xs => some (.tup (cutL xs lo hi))
  | .lst xs => some (.lst (cutL xs lo hi))
  | _ => none
def asIx : D → Option Int
  | .int i => some i
  | _ => none
abbrev DOx := Rho → Option (Option Int)
def oNo : DOx := fun _ => some none
def oIx (f : DF) : DOx := fun ρ => (f ρ).bind fun d => (asIx d).bind fun i => some (some i)
def dSl (f : DF) (l u : DOx) : DF := fun ρ => (f ρ).bind fun x => (l ρ).bind fun lo => (u ρ).bind fun hi => opSl lo hi x
def tDO (K : PySem.W.Frag) (C : Addr) (O : List Nat) (f : DOx) : TO := fun σ H Q => ∃ F ρ o, En K C O F H σ ρ ∧ f ρ = some o ∧ ∀ F' H', Stp F H F' H' → Q o H'
section
variable {X : Cx} {C : Addr} {O : List Nat} {e : Expr} {f : DF} {l u : DOx} {pos p2 : Pos} {lo hi : Option Expr}
theorem POw {e : Option Expr} {t t' : TO} (h : PO X e t) (w : ∀ σ H Q, t' σ H Q → t σ H Q) : PO X e t' := ⟨fun pins s σ H Q I q => h.run pins s σ H Q I (w σ H Q q)⟩
theorem do_no : PO X none (tDO X.K C O oNo) := POw po_none fun σ H Q ⟨F, ρ, o, E, hf, k⟩ => by
  cases hf
  exact k F H (Stp.refl E.fh)
theorem do_ix (h : DE X C O e f) : PO X (some e) (tDO X.K C O (oIx f)) := POw (po_some h) fun σ H Q ⟨F, ρ, o, E, hf, k⟩ => by
  obtain ⟨d, h1, hf1⟩ := bind_some hf
  obtain ⟨i, h2, hf2⟩ := bind_some hf1
  cases hf2
  refine ⟨F, ρ, d, E, h1, fun v F1 H1 s1 r1 => ?_⟩
  cases d <;> first | (cases h2; done) | skip
  cases h2
  exact ⟨i, r1, k F1 H1 s1⟩
theorem RpL.cut {K : PySem.W.Frag} {F : Hp} {ds : List D} {vs : List V} (h : RpL K C F ds vs) (lo hi : Option Int) : RpL K C F (cutL ds lo hi) (cutV vs lo hi) := by
  unfold cutL cutV
  rw [h.len]
  exact RpL.take _ (RpL.drop _ h)
theorem whole_cut {ds : List D} {lo hi : Option Int} (h : HT.sIx ds.length 0 lo = 0 ∧ HT.sIx ds.length ds.length hi = ds.length) : cutL ds lo hi = ds := by
  unfold cutL
  rw [h.1, h.2, List.drop_zero, Nat.sub_zero, List.take_length]
theorem SlRw {r r' : V → Option Int → Option Int → Hp → VK → Prop} (h : SlR X r) (w : ∀ x lo hi H Q, r' x lo hi H Q → r x lo hi H Q) : SlR X r' := fun pins s σ H x v vl vu lo hi sl Q I rx hs pl pu q => h pins s σ H x v vl vu lo hi sl Q I rx hs pl pu (w x lo hi H Q q)
theorem sl_d : SlR X (fun x lo hi H Q => ∃ F d c, Same F H ∧ Rp X.K C F d x ∧ opSl lo hi d = some c ∧ Got X.K C F H c Q) := SlRw (sl_list.or sl_tupA) fun x lo hi H Q ⟨F, d, c, fh, r, ho, g⟩ => by
  cases d <;> first | (cases ho; done) | skip
  · cases ho
    obtain ⟨a, xs, rfl, ha, hl⟩ := r
    refine .inr ⟨a, xs, rfl, SqT.of (fh _ _ ha), fun hw => ?_, fun hw p hp => gotN g fh hp ⟨p, _, rfl, upd_same, (RpL.mono (same_upd (none_of_same fh hp)) _ _ (RpL.cut hl lo hi))⟩⟩
    rw [← hl.len] at hw
    rw [whole_cut hw] at g
    exact got0 g fh ⟨a, xs, rfl, ha, hl⟩
  · cases ho
    obtain ⟨a, xs, rfl, ha, hl⟩ := r
    exact .inl ⟨a, xs, rfl, SqL.of (fh _ _ ha), fun p hp => gotN g fh hp ⟨p, _, rfl, upd_same, (RpL.mono (same_upd (none_of_same fh hp)) _ _ (RpL.cut hl lo hi))⟩⟩
theorem de_slice (he : DE X C O e f) (hl : PO X lo (tDO X.K C O l)) (hu : PO X hi (tDO X.K C O u)) : DE X C O (.Subscript e (.Slice lo hi none p2) pos) (dSl f l u) := PEw (pe_slice sl_d he hl hu) fun σ H Q ⟨F, ρ, t, E, hf, k⟩ => by
  obtain ⟨x, h1, hf1⟩ := bind_some hf
  obtain ⟨lo', h2, hf2⟩ := bind_some hf1
  obtain ⟨hi', h3, hf3⟩ := bind_some hf2
  exact ⟨F, ρ, x, E, h1, fun v F1 H1 s1 r1 => ⟨F1, ρ, lo', E.step s1, h2, fun F2 H2 s2 => ⟨F2, ρ, hi', E.step (s1.trans s2), h3, fun F3 H3 s3 => ⟨F3, x, t, s3.fh, Rp.mono (s2.ff.trans s3.ff) x v r1, hf3, k.step (s1.trans (s2.trans s3))⟩⟩⟩⟩
end
end DL
namespace DL
open PySem PySem.Spec PyProof.Rows L2
theorem meets_enum1 {v : Value} {o : Obj} {H : Heap → Prop} (B : Begins v o H) :
    Meets (Builtin.«enumerate.__new__» ⟨[.type "enumerate", v], []⟩) (fun _ R s => H s.heap ∧
      R (.ok (.ret (.ref (s.heap.push o).objs.size))) { s with heap := (s.heap.push o).push { cls := .type "enumerate", data := .fields #[.none, .bool false, .ref s.heap.objs.size, rawInt 0, .none, .none] } }) :=
  .of_wp fun prog w A R s h => by
    obtain ⟨hp, g, d, tk, os⟩ := s; obtain ⟨h1, h⟩ := h
    have hsub := sub_enumerate
    have q1 : ∀ {A' : Around} {E : Value → Shared → Prop} {Q : Value → Shared → Prop}, Q (.ref hp.objs.size) ⟨hp.push o, g, d, tk, os⟩ → wpAny (model prog w) A' (pyIter v) Q E ⟨hp, g, d, tk, os⟩ :=
      fun q => B.iter prog w _ _ ⟨hp, g, d, tk, os⟩ _ h1 q
    wp_walk using q1
    refine wpAny_stack_any fun st => wpAny_pure ?_
    split
    · rename_i c _ _ _ _ _
      cases (c == Value.type "enumerate")
      · wp_walk using q1
        exact ⟨_, rfl, h⟩
      · wp_walk using q1
        exact ⟨_, rfl, h⟩
    · wp_walk using q1
      exact ⟨_, rfl, h⟩
theorem call_enum_begins {prog : Program} {w : World} {A : Around} {E : Value → Shared → Prop} {s : Shared} {v : Value} {o : Obj} {H : Heap → Prop} {Q : Value → Shared → Prop} (B : Begins v o H) (h1 : H s.heap)
    (h : ∀ h', IsEnum h' (s.heap.objs.size + 1) s.heap.objs.size 0 .none → h'.get? s.heap.objs.size = some o → h'.objs.size = s.heap.objs.size + 2 →
      (∀ b o, s.heap.get? b = some o → h'.get? b = some o) → Q (.ref (s.heap.objs.size + 1)) { s with heap := h' }) :
    wpAny (model prog w) A (call (.type "enumerate") [v]) Q E s := by
  refine callType_new F.called_enumerate (by decide) (F.typeCall_enumerate_1 _) (F.newCall_enumerate_1 _) (fun obj => F.args_object_init_2 obj _) F.entry_enumerate_new
    (meets_enum1 B) ⟨h1, ?_⟩
  have hz : (s.heap.push o).objs.size = s.heap.objs.size + 1 := Heap.size_push ..
  show _ ∧ _
  rw [hz]
  have he : IsEnum ((s.heap.push o).push { cls := .type "enumerate", data := .fields #[.none, .bool false, .ref s.heap.objs.size, rawInt 0, .none, .none] }) (s.heap.objs.size + 1) s.heap.objs.size 0 .none := by
    have := Heap.get?_push_size (s.heap.push o) (o := { cls := .type "enumerate", data := .fields #[.none, .bool false, .ref s.heap.objs.size, rawInt 0, .none, .none] }) rfl
    rw [hz] at this; exact this
  refine ⟨⟨_, he, rfl⟩, h _ he (Heap.get?_push_of_some _ (Heap.get?_push_size _ B.free)) (by rw [Heap.size_push, hz]) fun b o x => Heap.get?_push_of_some _ (Heap.get?_push_of_some _ x)⟩
def IteT (K : PySem.W.Frag) (a : Addr) : It :=
  ⟨fun i H => ∃ (xs : List V) (x : V), SqT K H a xs ∧ xs[i]? = some x, fun i H v H' => ∃ T x, v = .ref T ∧ H T = none ∧ H' = upd H T (.tup [.int (i : Nat), x]) ∧ ∀ xs, SqT K H a xs → xs[i]? = some x, fun i H => ∃ xs : List V, SqT K H a xs ∧ xs.length = i⟩
theorem turn_enumT {P : Program} {w : World} {K : PySem.W.Frag} {elts : List Expr} {kk : Nat} {tpos : Pos} (a e it : Addr) (hai : a ≠ it) (hae : a ≠ e) :
    Turn P w K (.Tuple elts kk tpos) (IteT K a) [e, it] e (fun i h => (∃ old, IsEnum h e it ((i : Nat) : Int) old) ∧ h.IsTupleIter it a i ∧ e ≠ it) where
  mem := by simp
  obj := fun i h st b hb => by
    obtain ⟨⟨old, he⟩, ⟨o, ho, hc, hd⟩, _⟩ := st
    have e' : b = e ∨ b = it := by simpa using hb
    rcases e' with z | z
    · rw [z]; exact ⟨_, he, fun v q => nomatch q⟩
    · rw [z]; exact ⟨o, ho, fun v q => by rw [hd] at q; cases q⟩
  keep := fun i h h' st k => let ⟨⟨old, he⟩, hi, hne⟩ := st; ⟨⟨old, k e (by simp) _ he⟩, hi.at fun o q => k it (by simp) o q, hne⟩
  item := by
    intro X hP hw hK hc i pins s σ H E I hf st hg
    subst hP hw hK
    obtain ⟨⟨old, he⟩, hit, hne⟩ := st
    obtain ⟨xs, x, hq, hx⟩ := hg
    obtain ⟨its, rv, p, hz⟩ := I.tuple hq
    obtain ⟨u, hu, ru⟩ := rv.get hx
    have hel : e < s.heap.objs.size := Heap.lt_size he
    have hil : it < s.heap.objs.size := by obtain ⟨_, q, _⟩ := hit; exact Heap.lt_size q
    have hi : i < its.toArray.size := by
      have := (List.getElem?_eq_some_iff.mp hu).1
      simpa using this
    refine wpAny_pyNext_enum_itemC (Draws.tuple (A := X.A.in1) (I.ok.hd hc) it a hai its.toArray) he ⟨hit, p⟩ hi hne (by
      intro z
      rcases List.mem_cons.mp z with z | z
      · exact hne z
      · exact hae (List.mem_singleton.mp z).symm) fun x' h' tk hx' ho hst' hT hsz hk => ?_
    have ex : x' = u := by
      have h1 : its.toArray[i]? = some u := by simpa using hu
      rw [h1] at hx'
      exact (Option.some.inj hx').symm
    subst ex
    refine ⟨_, rfl, wpAny_letOwnedTupleGo_enum (s := { s with heap := h', toks := tk + 1 }) ho fun h'' he' sb => ?_⟩
    have hT2 : h''.get? s.heap.objs.size = some { cls := .type "tuple", data := .seq #[.int i tk, x'] } := (sb.2 _ (Nat.ne_of_gt hel)).trans hT
    have new : ObjOk X.prog X.w (upd H s.heap.objs.size (.tup [.int (i : Nat), x])) h'' s.heap.objs.size (.tup [.int (i : Nat), x]) :=
      ⟨by show 2 ≤ sizeLine; decide, [.int i tk, x'], .cons ⟨_, rfl⟩ (.cons ru .nil), ⟨_, hT2, rfl, _, rfl⟩⟩
    have I1 : Inv X pins σ (upd H s.heap.objs.size (.tup [.int (i : Nat), x])) { s with heap := h'', toks := tk + 1 } :=
      I.turnedNew (ch := [e, it]) (fun b ob hb q => (sb.2 b (fun z => hb (by simp [z]))).trans (hk b ob (fun z => hb (by simp [z])) (fun z => hb (by simp [z])) q)) hf (Nat.le_refl _) new
    refine ⟨.ref s.heap.objs.size, _, I1, rfl, ⟨_, x, rfl, I.hok.fresh (Nat.le_refl _), rfl, fun ys hy => by rw [I.tuple_inj hy hq]; exact hx⟩, ⟨⟨x', ?_⟩, hst'.1.at fun o q => (sb.2 it (Ne.symm hne)).trans q, hne⟩, fun b hb => ?_⟩
    · have e1 : ((i + 1 : Nat) : Int) = (i : Int) + 1 := by omega
      rw [e1]; exact he'
    · have hb' : b < s.heap.objs.size := by
        have e' : b = e ∨ b = it := by simpa using hb
        rcases e' with z | z
        · rw [z]; exact hel
        · rw [z]; exact hil
      rw [upd_ne (Nat.ne_of_lt hb')]
      exact (hf b hb).1
  done := by
    intro X hP hw hK hc i pins s σ H E I hf st hg
    subst hP hw hK
    obtain ⟨⟨old, he⟩, hit, hne⟩ := st
    obtain ⟨xs, hq, hx⟩ := hg
    obtain ⟨its, rv, p, hz⟩ := I.tuple hq
    obtain ⟨f0, f1, f2, f3, f4, f5⟩ := hf it (by simp)
    have hl := rv.length
    have ei : i = its.toArray.size := by
      rw [List.size_toArray, ← hl]
      exact hx.symm
    subst ei
    refine wpAny_pyNext_enum_endD (Draws.tuple (A := X.A.in1) (I.ok.hd hc) it a hai its.toArray) he ⟨hit, p⟩ fun h' eb => ⟨rfl, I.turned (t' := s.toks) (fun b o hb q => eb b o hb q) f0 f1 f3 f4 f5⟩
  self := fun A i s Q E st h => let ⟨⟨_, he⟩, _⟩ := st; wpAny_pyIter_enum he h
def iEnumT (K : PySem.W.Frag) (ta : TA) : TI := fun σ H R => ta σ H fun vs H1 => ∃ a xs, vs = [.ref a] ∧ H1 a = some (.tup xs) ∧ R (IteT K a) H1
theorem pi_enumT {X : Cx} {e : Expr} {ta : TA} {p pos tpos : Pos} {elts : List Expr} {kk : Nat} (hg : Gl X "enumerate") (hm : X.mg "enumerate" = none) (ha : PA X [e] ta) (hs : starEach [e] X.env = [(false, eval e X.env)] := by rfl) :
    PI X (.Tuple elts kk tpos) (.Call (.Name "enumerate" p) [e] [] pos) (iEnumT X.K ta) := by
  refine ⟨fun pins s σ H R I h => ?_⟩
  refine Call_ (ld_blt I hg hm boot_enumerate (PyProof.Rows.callWith_type1 (thn (ha.run pos pins s σ H _ I h) fun us s1 ⟨vs, H1, I1, r1, q1⟩ => ?_) hs rfl))
  obtain ⟨a, xs, ex, hq, q⟩ := q1
  subst ex
  cases r1 with
  | cons r rr =>
    cases rr
    cases r
    obtain ⟨its, rv, p', hz⟩ := I1.tuple (SqT.of hq)
    have hal : a < s1.heap.objs.size := p'.lt
    refine call_enum_begins (begins_tuple a its.toArray) p' fun h' he hit hsz hk => wpAny_pyIter_enum he ?_
    have I2 : Inv X pins σ H1 { s1 with heap := h' } := I1.kept (t' := s1.toks) hk
    refine ⟨s1.heap.objs.size + 1, [s1.heap.objs.size + 1, s1.heap.objs.size], _, _, H1, rfl, I2, turn_enumT a (s1.heap.objs.size + 1) s1.heap.objs.size (Nat.ne_of_lt hal) (Nat.ne_of_lt (Nat.lt_succ_of_lt hal)), ⟨⟨.none, he⟩, ⟨_, hit, rfl, rfl⟩, Nat.succ_ne_self _⟩, fun b hb => ?_, q⟩
    have e' : b = s1.heap.objs.size + 1 ∨ b = s1.heap.objs.size := by simpa using hb
    have hle : s1.heap.objs.size ≤ b := by
      rcases e' with z | z
      · rw [z]; exact Nat.le_add_right _ _
      · rw [z]; exact Nat.le_refl _
    exact I1.fpOk hle (I1.hok.fresh hle)
theorem PIor {X : Cx} {tg e : Expr} {w w' : TI} (h : PI X tg e w) (h' : PI X tg e w') : PI X tg e (fun σ H R => w σ H R ∨ w' σ H R) :=
  ⟨fun pins s σ H R I q => q.elim (h.run pins s σ H R I) (h'.run pins s σ H R I)⟩
theorem PIw {X : Cx} {tg e : Expr} {w w' : TI} (h : PI X tg e w) (k : ∀ σ H R, w' σ H R → w σ H R) : PI X tg e w' := ⟨fun pins s σ H R I q => h.run pins s σ H R I (k σ H R q)⟩
/-- J yields ds, whatever is made meanwhile -/
def JD (K : PySem.W.Frag) (C : Addr) (J : It) (F : Hp) (ds : List D) : Prop := ∀ i F1 H1, Same F F1 → Same F1 H1 → (i = ds.length → J.stop i H1) ∧
  ∀ d, ds[i]? = some d → J.go i H1 ∧ ∀ x H2, J.yld i H1 x H2 → ∃ F2, Stp F1 H1 F2 H2 ∧ Rp K C F2 d x
def tDI (K : PySem.W.Frag) (C : Addr) (O : List Nat) (f : DFs) : TI := fun σ H R => ∃ F ρ ds, En K C O F H σ ρ ∧ f ρ = some ds ∧ ∀ J F' H', Stp F H F' H' → JD K C J F' ds → R J H'
abbrev DI (X : Cx) (C : Addr) (O : List Nat) (tg e : Expr) (f : DFs) : Prop := PI X tg e (tDI X.K C O f)
def asSeq : D → Option (List D)
  | .tup xs => some xs
  | .lst xs => some xs
  | _ => none
def iSeq (f : DF) : DFs := fun ρ => (f ρ).bind asSeq
def rngD (a : Int) (n : Nat) : List D := (List.range n).map fun (i : Nat) => D.int (a + (i : Int))
def opRng1 : List D → Option (List D)
  | [.int n] => if -4611686018427387904 ≤ n ∧ n < 4611686018427387904 then some (rngD 0 n.toNat) else none
  | _ => none
def opRng2 : List D → Option (List D)
  | [.int a, .int b] => if -4611686018427387904 ≤ a ∧ a < 4611686018427387904 ∧ -4611686018427387904 ≤ b ∧ b < 4611686018427387904 then some (rngD a (b - a).toNat) else none
  | _ => none
def iRng1 (f : DFs) : DFs := fun ρ => (f ρ).bind opRng1
def iRng2 (f : DFs) : DFs := fun ρ => (f ρ).bind opRng2
def enumD (xs : List D) : List D := (List.range xs.length).zipWith (fun i d => D.tup [.int (i : Nat), d]) xs
def iEn (f : DFs) : DFs := fun ρ => (f ρ).bind fun ds => match ds with
  | [.tup xs] => some (enumD xs)
  | [.lst xs] => some (enumD xs)
  | _ => none
section
variable {K : PySem.W.Frag} {C : Addr} {F H : Hp} {a b : Addr} {xs ys : List V} {ds es : List D}
theorem jd_list (h : F a = some (.lst xs)) (hl : RpL K C F ds xs) : JD K C (Itl K a) F ds := fun i F1 H1 s1 s2 => by
  have ha : SqL K H1 a xs := SqL.of (s2 _ _ (s1 _ _ h))
  refine ⟨fun hi => ⟨xs, ha, by rw [hi, hl.len]; exact Nat.le_refl _⟩, fun d hd => ?_⟩
  obtain ⟨v, hv, r⟩ := RpL.get hl hd
  refine ⟨⟨xs, v, ha, hv⟩, fun x H2 y => ?_⟩
  obtain ⟨rfl, y⟩ := y
  have e := y xs ha
  rw [hv] at e
  cases e
  exact ⟨F1, Stp.refl s2, Rp.mono s1 d _ r⟩
theorem jd_tup (h : F a = some (.tup xs)) (hl : RpL K C F ds xs) : JD K C (Itt K a) F ds := fun i F1 H1 s1 s2 => by
  have ha : SqT K H1 a xs := SqT.of (s2 _ _ (s1 _ _ h))
  refine ⟨fun hi => ⟨xs, ha, by rw [hi, hl.len]; exact Nat.le_refl _⟩, fun d hd => ?_⟩
  obtain ⟨v, hv, r⟩ := RpL.get hl hd
  refine ⟨⟨xs, v, ha, hv⟩, fun x H2 y => ?_⟩
  obtain ⟨rfl, y⟩ := y
  have e := y xs ha
  rw [hv] at e
  cases e
  exact ⟨F1, Stp.refl s2, Rp.mono s1 d _ r⟩
theorem rngD_len (a : Int) (n : Nat) : (rngD a n).length = n := by
  unfold rngD
  rw [List.length_map, List.length_range]
theorem rngD_get {a : Int} {n i : Nat} {d : D} (h : (rngD a n)[i]? = some d) : i < n ∧ d = .int (a + (i : Int)) := by
  unfold rngD at h
  rw [List.getElem?_map] at h
  obtain ⟨j, h1, h2⟩ := Option.map_eq_some_iff.mp h
  obtain ⟨h3, h4⟩ := List.getElem?_eq_some_iff.mp h1
  rw [List.getElem_range] at h4
  rw [List.length_range] at h3
  subst h4
  exact ⟨h3, h2.symm⟩
theorem jd_rng {lo : Int} {n : Nat} : JD K C (Itr lo n) F (rngD lo n) := fun i F1 H1 s1 s2 => by
  refine ⟨fun hi => by
    rw [hi, rngD_len]
    exact Nat.le_refl _, fun d hd => ?_⟩
  obtain ⟨h1, rfl⟩ := rngD_get hd
  refine ⟨h1, fun x H2 y => ?_⟩
  obtain ⟨rfl, rfl⟩ := y
  exact ⟨F1, Stp.refl s2, rfl⟩
theorem enumD_len (xs : List D) : (enumD xs).length = xs.length := by
  unfold enumD
  rw [List.length_zipWith, List.length_range, Nat.min_self]
theorem enumD_get {xs : List D} {i : Nat} {d : D} (h : (enumD xs)[i]? = some d) : ∃ c, xs[i]? = some c ∧ d = .tup [.int (i : Nat), c] := by
  unfold enumD at h
  rw [List.getElem?_zipWith] at h
  cases e1 : (List.range xs.length)[i]? with
  | none =>
    rw [e1] at h
    cases h
  | some j =>
    cases e2 : xs[i]? with
    | none =>
      rw [e1, e2] at h
      cases h
    | some c =>
      rw [e1, e2] at h
      obtain ⟨h3, h4⟩ := List.getElem?_eq_some_iff.mp e1
      rw [List.getElem_range] at h4
      subst h4
      exact ⟨c, rfl, (Option.some.inj h).symm⟩
theorem pair_new {F1 H1 : Hp} (s2 : Same F1 H1) {T : Addr} {x y : V} {c d : D} (hT : H1 T = none) (r1 : Rp K C F1 c x) (r2 : Rp K C F1 d y) :
    ∃ F2, Stp F1 H1 F2 (upd H1 T (.tup [x, y])) ∧ Rp K C F2 (.tup [c, d]) (.ref T) := by
  have st := Stp.new (o := .tup [x, y]) s2 hT
  exact ⟨_, st, T, [x, y], rfl, upd_same, RpL.cons (Rp.mono st.ff c x r1) (RpL.cons (Rp.mono st.ff d y r2) RpL.nil)⟩
theorem jd_enumL (h : F a = some (.lst xs)) (hl : RpL K C F ds xs) : JD K C (Ite K a) F (enumD ds) := fun i F1 H1 s1 s2 => by
  have ha : SqL K H1 a xs := SqL.of (s2 _ _ (s1 _ _ h))
  refine ⟨fun hi => ⟨xs, ha, by rw [hi, enumD_len, hl.len]; exact Nat.le_refl _⟩, fun d hd => ?_⟩
  obtain ⟨c, hc, rfl⟩ := enumD_get hd
  obtain ⟨v, hv, r⟩ := RpL.get hl hc
  refine ⟨⟨xs, v, ha, hv⟩, fun x H2 y => ?_⟩
  obtain ⟨T, x', rfl, hT, rfl, y⟩ := y
  have e := y xs ha
  rw [hv] at e
  cases e
  exact pair_new s2 hT rfl (Rp.mono s1 c _ r)
theorem jd_enumT (h : F a = some (.tup xs)) (hl : RpL K C F ds xs) : JD K C (IteT K a) F (enumD ds) := fun i F1 H1 s1 s2 => by
  have ha : SqT K H1 a xs := SqT.of (s2 _ _ (s1 _ _ h))
  refine ⟨fun hi => ⟨xs, ha, by rw [hi, enumD_len, hl.len]⟩, fun d hd => ?_⟩
  obtain ⟨c, hc, rfl⟩ := enumD_get hd
  obtain ⟨v, hv, r⟩ := RpL.get hl hc
  refine ⟨⟨xs, v, ha, hv⟩, fun x H2 y => ?_⟩
  obtain ⟨T, x', rfl, hT, rfl, y⟩ := y
  have e := y xs ha
  rw [hv] at e
  cases e
  exact pair_new s2 hT rfl (Rp.mono s1 c _ r)
end
section
variable {X : Cx} {C : Addr} {O : List Nat} {tg e e2 : Expr} {es : List Expr} {f : DF} {fs : DFs} {p pos tpos : Pos}
theorem di_seq (he : DE X C O e f) : DI X C O tg e (iSeq f) := PIw (PIor (pi_list he) (pi_tup he)) fun σ H R ⟨F, ρ, ds, E, hf, k⟩ => by
  obtain ⟨d, h1, hf1⟩ := bind_some hf
  cases d <;> first | (cases hf1; done) | skip
  · cases hf1
    refine .inr ⟨F, ρ, _, E, h1, fun v F1 H1 s1 r1 => ?_⟩
    obtain ⟨a, xs, rfl, ha, hl⟩ := r1
    exact ⟨a, rfl, ⟨xs, SqT.of (s1.fh _ _ ha)⟩, k _ F1 H1 s1 (jd_tup ha hl)⟩
  · cases hf1
    refine .inl ⟨F, ρ, _, E, h1, fun v F1 H1 s1 r1 => ?_⟩
    obtain ⟨a, xs, rfl, ha, hl⟩ := r1
    exact ⟨a, rfl, ⟨xs, SqL.of (s1.fh _ _ ha)⟩, k _ F1 H1 s1 (jd_list ha hl)⟩
theorem e62 : (2 : Int) ^ 62 = 4611686018427387904 := by decide
theorem di_rng1 (hg : Gl X "range") (hm : X.mg "range" = none) (ha : DA X C O [e] fs) (hs : starEach [e] X.env = [(false, eval e X.env)] := by rfl) : DI X C O tg (.Call (.Name "range" p) [e] [] pos) (iRng1 fs) :=
  PIw (pi_range1 hg hm ha hs) fun σ H R ⟨F, ρ, ds, E, hf, k⟩ => by
    obtain ⟨d, h1, hf1⟩ := bind_some hf
    refine ⟨F, ρ, d, E, h1, fun vs F1 H1 s1 r1 => ?_⟩
    match d, hf1, r1 with
    | [.int n], hf1, r1 =>
      simp only [opRng1] at hf1
      split at hf1
      · rename_i hz
        cases hf1
        obtain ⟨v, rfl, h⟩ := RpL.one_inv r1
        rw [Rp.int h]
        exact ⟨n, rfl, by rw [e62]; omega, by rw [e62]; omega, k _ F1 H1 s1 jd_rng⟩
      · cases hf1
theorem di_rng2 (hg : Gl X "range") (hm : X.mg "range" = none) (ha : DA X C O [e, e2] fs) (hs : starEach [e, e2] X.env = [(false, eval e X.env), (false, eval e2 X.env)] := by rfl) (hs2 : starEach [e2] X.env = [(false, eval e2 X.env)] := by rfl) : DI X C O tg (.Call (.Name "range" p) [e, e2] [] pos) (iRng2 fs) :=
  PIw (pi_range2 hg hm ha hs hs2) fun σ H R ⟨F, ρ, ds, E, hf, k⟩ => by
    obtain ⟨d, h1, hf1⟩ := bind_some hf
    refine ⟨F, ρ, d, E, h1, fun vs F1 H1 s1 r1 => ?_⟩
    match d, hf1, r1 with
    | [.int a, .int b], hf1, r1 =>
      simp only [opRng2] at hf1
      split at hf1
      · rename_i hz
        cases hf1
        obtain ⟨v, w, rfl, h, h'⟩ := RpL.two_inv r1
        rw [Rp.int h, Rp.int h']
        exact ⟨a, b, rfl, by rw [e62]; omega, k _ F1 H1 s1 jd_rng⟩
      · cases hf1
variable {elts : List Expr} {kk : Nat}
theorem di_enum (hg : Gl X "enumerate") (hm : X.mg "enumerate" = none) (ha : DA X C O [e] fs) (hs : starEach [e] X.env = [(false, eval e X.env)] := by rfl) : DI X C O (.Tuple elts kk tpos) (.Call (.Name "enumerate" p) [e] [] pos) (iEn fs) :=
  PIw (PIor (pi_enum hg hm ha hs) (pi_enumT hg hm ha hs)) fun σ H R ⟨F, ρ, ds, E, hf, k⟩ => by
    obtain ⟨d, h1, hf1⟩ := bind_some hf
    match d, hf1, h1 with
    | [.tup xs], hf1, h1 =>
      cases hf1
      refine .inr ⟨F, ρ, _, E, h1, fun vs F1 H1 s1 r1 => ?_⟩
      obtain ⟨v, rfl, a, us, rfl, ha, hl⟩ := RpL.one_inv r1
      exact ⟨a, us, rfl, s1.fh _ _ ha, k _ F1 H1 s1 (jd_enumT ha hl)⟩
    | [.lst xs], hf1, h1 =>
      cases hf1
      refine .inl ⟨F, ρ, _, E, h1, fun vs F1 H1 s1 r1 => ?_⟩
      obtain ⟨v, rfl, a, us, rfl, ha, hl⟩ := RpL.one_inv r1
      exact ⟨a, us, rfl, SqL.of (s1.fh _ _ ha), k _ F1 H1 s1 (jd_enumL ha hl)⟩
end
end DL
namespace DL
open PySem PySem.Spec PyProof.Rows L2
/-- a target: what the slots hold behind it -/
abbrev DG := D → Rho → Option Rho
def gN (i : Nat) : DG := fun d ρ => some (st ρ i d)
abbrev DGs := List D → Rho → Option Rho
def gsNil : DGs := fun ds ρ => match ds with
  | [] => some ρ
  | _ => none
def gsCons (g : DG) (h : DGs) : DGs := fun ds ρ => match ds with
  | d :: r => (g d ρ).bind (h r)
  | [] => none
def gT (h : DGs) : DG := fun d ρ => (asSeq d).bind fun ds => match d with
  | .tup _ => h ds ρ
  | _ => none
/-- but at the places ws the slots are as they were -/
def Bar (ws : List Nat) (σ σ' : L2.St) : Prop := σ'.length = σ.length ∧ ∀ j, j ∉ ws → σ'[j]? = σ[j]?
/-- the lists of one's own are as they were -/
def Kp (O : List Nat) (σ σ' : L2.St) (ρ ρ' : Rho) : Prop := ∀ i ∈ O, σ'[i]? = σ[i]? ∧ lk ρ' i = lk ρ i
theorem Kp.refl {O : List Nat} {σ : L2.St} {ρ : Rho} : Kp O σ σ ρ ρ := fun _ _ => ⟨rfl, rfl⟩
theorem Kp.trans {O : List Nat} {σ σ1 σ2 : L2.St} {ρ ρ1 ρ2 : Rho} (a : Kp O σ σ1 ρ ρ1) (b : Kp O σ1 σ2 ρ1 ρ2) : Kp O σ σ2 ρ ρ2 := fun i hi => ⟨(b i hi).1.trans (a i hi).1, (b i hi).2.trans (a i hi).2⟩
def tDG (K : PySem.W.Frag) (C : Addr) (O ws : List Nat) (g : DG) : TG := fun v σ H Q => ∃ F ρ d ρ', En K C O F H σ ρ ∧ Rp K C F d v ∧ g d ρ = some ρ' ∧ ∀ σ' , En K C O F H σ' ρ' → Bar ws σ σ' → Kp O σ σ' ρ ρ' → Q σ' H
def tDGs (K : PySem.W.Frag) (C : Addr) (O ws : List Nat) (g : DGs) : TGs := fun vs σ H Q => ∃ F ρ ds ρ', En K C O F H σ ρ ∧ RpL K C F ds vs ∧ g ds ρ = some ρ' ∧ ∀ σ', En K C O F H σ' ρ' → Bar ws σ σ' → Kp O σ σ' ρ ρ' → Q σ' H
abbrev DTg (X : Cx) (C : Addr) (O ws : List Nat) (e : Expr) (g : DG) : Prop := PG X e (tDG X.K C O ws g)
abbrev DTgs (X : Cx) (C : Addr) (O ws : List Nat) (es : List Expr) (g : DGs) : Prop := PGs X es (tDGs X.K C O ws g)
theorem Bar.trans {ws vs : List Nat} {a b c : L2.St} (h : Bar ws a b) (h' : Bar vs b c) : Bar (ws ++ vs) a c :=
  ⟨h'.1.trans h.1, fun j hj => (h'.2 j fun z => hj (List.mem_append_right _ z)).trans (h.2 j fun z => hj (List.mem_append_left _ z))⟩
theorem Bar.refl {ws : List Nat} {a : L2.St} : Bar ws a a := ⟨rfl, fun _ _ => rfl⟩
theorem wipe_get (σ : L2.St) : ∀ (vs : List Nat) (j : Nat), (wipe σ vs)[j]? = if j ∈ vs ∧ j < σ.length then some none else σ[j]?
  | [], j => by
    rw [if_neg (fun z => by cases z.1)]
    rfl
  | v :: vs, j => by
    show ((wipe σ vs).set v none)[j]? = _
    by_cases hv : v = j
    · subst hv
      by_cases hl : v < σ.length
      · rw [if_pos ⟨List.mem_cons_self, hl⟩, List.getElem?_set_self (by rw [wipe_length]; exact hl)]
      · rw [if_neg (fun z => hl z.2), List.getElem?_eq_none (by rw [List.length_set, wipe_length]; omega), List.getElem?_eq_none (by omega)]
    · rw [List.getElem?_set_ne hv, wipe_get σ vs j]
      have e : (j ∈ v :: vs ∧ j < σ.length) ↔ (j ∈ vs ∧ j < σ.length) := by
        constructor
        · rintro ⟨h1, h2⟩
          exact ⟨(List.mem_cons.mp h1).elim (fun z => absurd z.symm hv) id, h2⟩
        · rintro ⟨h1, h2⟩
          exact ⟨List.mem_cons_of_mem _ h1, h2⟩
      by_cases h : j ∈ vs ∧ j < σ.length
      · rw [if_pos h, if_pos (e.mpr h)]
      · rw [if_neg h, if_neg (fun z => h (e.mp z))]
theorem wipe_bar {ws vs : List Nat} {σ σ' : L2.St} (h : Bar ws (wipe σ vs) σ') (hs : ∀ i ∈ ws, i ∈ vs) : wipe σ' vs = wipe σ vs := by
  apply List.ext_getElem?
  intro j
  have hl : σ'.length = σ.length := by rw [h.1, wipe_length]
  rw [wipe_get, wipe_get, hl]
  split
  · rfl
  · rename_i hn
    by_cases hj : j ∈ vs
    · have hjl : ¬ j < σ.length := fun z => hn ⟨hj, z⟩
      rw [List.getElem?_eq_none (by omega), List.getElem?_eq_none (by omega)]
    · rw [h.2 j fun z => hj (hs j z), wipe_get, if_neg (fun z => hj z.1)]
section
variable {X : Cx} {C : Addr} {O : List Nat} {e : Expr} {es : List Expr} {g : DG} {h : DGs} {ws vs' : List Nat} {pos : Pos}
theorem PGw {e : Expr} {t t' : TG} (h : PG X e t) (w : ∀ v σ H Q, t' v σ H Q → t v σ H Q) : PG X e t' := ⟨fun pins s σ H v u Q I r q => h.run pins s σ H v u Q I r (w v σ H Q q)⟩
theorem PGsw {e : List Expr} {t t' : TGs} (h : PGs X e t) (w : ∀ v σ H Q, t' v σ H Q → t v σ H Q) : PGs X e t' := ⟨fun pins s σ H v u Q I r q => h.run pins s σ H v u Q I r (w v σ H Q q)⟩
theorem dg_name (i : Nat) {x : Str} (hN : X.N.Nodup) (hi : X.N[i]? = some x := by rfl) (hx : Loc X.env.scope x := by first | exact Or.inl rfl | exact Or.inr rfl) (hO : i ∉ O := by decide)
    (hf : X.fn x = true ∨ X.env.scope.names.lookup x = some .local := by first | exact .inl rfl | exact .inr rfl) : DTg X C O [i] (.Name x pos) (gN i) := PGw (pg_name hN hi hx hf) fun v σ H Q ⟨F, ρ, d, ρ', E, r, hg, k⟩ => by
  cases hg
  exact k _ (E.set hO r) ⟨by rw [List.length_set], fun j hj => List.getElem?_set_ne fun z => hj (by rw [z]; exact List.mem_cons_self)⟩ fun j hj => ⟨List.getElem?_set_ne fun (z : i = j) => hO (by rw [z]; exact hj), lk_st_ne fun (z : j = i) => hO (by rw [← z]; exact hj)⟩
theorem dg_nil : DTgs X C O [] [] gsNil := PGsw pgs_nil fun vs σ H Q ⟨F, ρ, ds, ρ', E, r, hg, k⟩ => by
  cases ds with
  | nil =>
    cases hg
    exact ⟨r, k σ E Bar.refl Kp.refl⟩
  | cons _ _ => cases hg
theorem dg_cons (h1 : DTg X C O ws e g) (h2 : DTgs X C O vs' es h) (hs : (assignEach (e :: es) X.env).map (·.2) = assign e X.env :: (assignEach es X.env).map (·.2) := by rfl) : DTgs X C O (ws ++ vs') (e :: es) (gsCons g h) := PGsw (pgs_cons h1 h2 hs) fun vs σ H Q ⟨F, ρ, ds, ρ', E, r, hg, k⟩ => by
  cases ds with
  | nil => cases hg
  | cons d ds =>
    obtain ⟨ρ1, g1, g2⟩ := bind_some hg
    obtain ⟨v, vr, rfl, r1, r2⟩ := r
    exact ⟨v, vr, rfl, F, ρ, d, ρ1, E, r1, g1, fun σ1 E1 b1 k1 => ⟨F, ρ1, ds, ρ', E1, r2, g2, fun σ2 E2 b2 k2 => k σ2 E2 (b1.trans b2) (k1.trans k2)⟩⟩
theorem dg_tup {n k : Nat} (hc : X.calm = true) (h1 : DTgs X C O ws es h) (hl : ∀ ds ρ ρ', h ds ρ = some ρ' → ds.length = n) (hn : (assignEach es X.env).length = n := by rfl) (hst : (assignEach es X.env).findIdx? (·.1) = none := by rfl) :
    DTg X C O ws (.Tuple es k pos) (gT h) := PGw (pg_tup hc h1 hn hst) fun v σ H Q ⟨F, ρ, d, ρ', E, r, hg, kk⟩ => by
  obtain ⟨ds, g1, g2⟩ := bind_some hg
  cases d with
  | tup es' =>
    cases g1
    obtain ⟨a, xs, rfl, ha, hr⟩ := r
    exact ⟨a, xs, rfl, SqT.of (E.fh _ _ ha), by rw [← hr.len]; exact hl _ _ _ g2, F, ρ, _, ρ', E, hr, g2, kk⟩
  | _ => cases g2
theorem gl0 : ∀ ds ρ ρ', gsNil ds ρ = some ρ' → ds.length = 0 := fun ds ρ ρ' h => by
  cases ds with
  | nil => rfl
  | cons _ _ => cases h
theorem gl1 {n : Nat} {g : DG} {h : DGs} (hh : ∀ ds ρ ρ', h ds ρ = some ρ' → ds.length = n) : ∀ ds ρ ρ', gsCons g h ds ρ = some ρ' → ds.length = n + 1 := fun ds ρ ρ' q => by
  cases ds with
  | nil => cases q
  | cons d r =>
    obtain ⟨ρ1, _, g2⟩ := bind_some q
    rw [List.length_cons, hh _ _ _ g2]
end
def compL (g : DG) (t : DB) (e : DF) (ρ : Rho) : List D → Option (List D)
  | [] => some []
  | d :: ds => (g d ρ).bind fun ρ1 => (t ρ1).bind fun b => if b = true then (e ρ1).bind fun x => (compL g t e ρ ds).bind fun r => some (x :: r) else compL g t e ρ ds
def lstOk (ds : List D) : Option D := if ds.length ≤ 16777216 then some (.lst ds) else none
def dComp (it : DFs) (g : DG) (t : DB) (e : DF) (vs : List Nat) : DF := fun ρ => (it ρ).bind fun ds => (compL g t e (wipeR ρ vs) ds).bind lstOk
def bYes : DB := fun _ => some true
abbrev DTs (X : Cx) (C : Addr) (O : List Nat) (ifs : List Expr) (t : DB) : Prop := PTs X ifs (tDT X.K C O t)
section
variable {X : Cx} {C : Addr} {O : List Nat}
theorem PTsw {ifs : List Expr} {t t' : TT} (h : PTs X ifs t) (w : ∀ σ H Q, t' σ H Q → t σ H Q) : PTs X ifs t' := ⟨fun pins s σ H Q I q => h.run pins s σ H Q I (w σ H Q q)⟩
theorem dts_nil : DTs X C O [] bYes := PTsw pts_nil fun σ H Q ⟨F, ρ, b, E, hf, k⟩ => by
  cases hf
  exact k F H (Stp.refl E.fh)
theorem dts_one {c : Expr} {t : DB} (h : DT X C O c t) : DTs X C O [c] t := pts_one h
/-- the comprehension's loop: acc, what is made so far; rest: what is to come -/
def CW (K : PySem.W.Frag) (C : Addr) (F0 H0 : Hp) (g : DG) (t : DB) (e : DF) (ρ : Rho) (ds rs : List D) (Dl : Addr) (i m : Nat) (H : Hp) : Prop :=
  m = ds.length - i ∧ i ≤ ds.length ∧ ∃ F acc racc rest, Stp F0 H0 F H ∧ H Dl = some (.lst acc) ∧ F Dl = none ∧ RpL K C F racc acc ∧ compL g t e ρ (ds.drop i) = some rest ∧ rs = racc ++ rest
theorem comp_rd {K : PySem.W.Frag} {it : DFs} {g : DG} {t : DB} {e : DF} {ws vs : List Nat} {σ : L2.St} {H : Hp} {Q : VK} (hs : ∀ i ∈ ws, i ∈ vs) (hw : tD K C O (dComp it g t e vs) σ H Q) :
    tLc (tDI K C O it) (tDG K C O ws g) (tDT K C O t) (tD K C O e) vs σ H Q := by
  obtain ⟨F, ρ, d, E, hf, k⟩ := hw
  obtain ⟨ds, h1, hf1⟩ := bind_some hf
  obtain ⟨rs, h2, hf2⟩ := bind_some hf1
  clear hf hf1
  unfold lstOk at hf2
  split at hf2
  · rename_i hz
    cases hf2
    refine ⟨F, ρ, ds, E, h1, fun J F1 H1 s1 jd Dl hD => ?_⟩
    have E1 : En K C O F1 H1 (wipe σ vs) (wipeR ρ vs) := (E.step s1).wipe vs
    refine ⟨CW K C F1 H1 g t e (wipeR ρ vs) ds rs Dl, ⟨ds.length, rfl, Nat.zero_le _, F1, [], [], rs, Stp.own s1.fh hD, upd_same, none_of_same s1.fh hD, RpL.nil, h2, rfl⟩, fun i m H2 hW => ?_⟩
    obtain ⟨rfl, hi, F2, acc, racc, rest, s2, hH, hF, hR, hc, he⟩ := hW
    by_cases hlt : i < ds.length
    · right
      obtain ⟨_, jg⟩ := jd i F2 H2 s2.ff s2.fh
      obtain ⟨go, yl⟩ := jg ds[i] (List.getElem?_eq_getElem hlt)
      rw [List.drop_eq_getElem_cons hlt] at hc
      unfold compL at hc
      obtain ⟨ρ1, c1, hc1⟩ := bind_some hc
      obtain ⟨b, c2, hc2⟩ := bind_some hc1
      clear hc hc1
      refine ⟨go, fun H' => CW K C F1 H1 g t e (wipeR ρ vs) ds rs Dl (i + 1) (ds.length - (i + 1)) H', fun H' hN => ⟨_, by omega, hN⟩, fun x H3 y => ?_⟩
      obtain ⟨F3, s3, r3⟩ := yl x H3 y
      have s13 := s2.trans s3
      refine ⟨F3, wipeR ρ vs, ds[i], ρ1, E1.step s13, r3, c1, fun σ4 E4 bar _ => ⟨wipe_bar bar hs, F3, ρ1, b, E4, c2, fun F5 H5 s5 => ?_⟩⟩
      have s15 := s13.trans s5
      have sD := s3.trans s5
      cases b with
      | true =>
        dsimp only
        rw [if_pos rfl] at hc2 ⊢
        obtain ⟨z, c3, hc3⟩ := bind_some hc2
        obtain ⟨rest', c4, hc4⟩ := bind_some hc3
        cases hc4
        refine ⟨F5, ρ1, z, E4.step s5, c3, fun v F6 H6 s6 r6 => ?_⟩
        have s16 := s15.trans s6
        have sE := sD.trans s6
        have hlen := hR.len
        have hl2 : acc.length < 16777216 := by
          rw [he, List.length_append, List.length_cons] at hz
          omega
        refine ⟨acc, sE.hh _ _ hH, Nat.lt_of_lt_of_le hl2 (szl_ok (Nat.le_refl _)), rfl, hlt, F6, acc ++ [v], racc ++ [z], rest', ?_, upd_same, (sE.old _ _ hH).trans hF, RpL.append (RpL.mono sE.ff _ _ hR) (RpL.one r6), c4, by rw [he, List.append_assoc]; rfl⟩
        have hFn : F6 Dl = none := (sE.old _ _ hH).trans hF
        refine ⟨s16.ff, fun a o q => ?_, fun a o q => ?_, s16.old⟩
        · rw [upd_ne (ne_of_none q hD)]
          exact s16.hh a o q
        · rw [upd_ne (ne_of_none q hFn)]
          exact s16.fh a o q
      | false =>
        dsimp only
        rw [if_neg Bool.false_ne_true] at hc2 ⊢
        exact ⟨rfl, hlt, F5, acc, racc, rest, s15, sD.hh _ _ hH, (sD.old _ _ hH).trans hF, RpL.mono sD.ff _ _ hR, hc2, he⟩
    · left
      have ei : i = ds.length := by omega
      subst ei
      obtain ⟨js, _⟩ := jd ds.length F2 H2 s2.ff s2.fh
      refine ⟨js rfl, ?_⟩
      rw [List.drop_length] at hc
      cases hc
      rw [List.append_nil] at he
      subst he
      have sF : Same F2 (upd F2 Dl (.lst acc)) := same_upd hF
      refine k _ (upd F2 Dl (.lst acc)) H2 (s1.trans ⟨s2.ff.trans sF, s2.hh, fun a o q => ?_, fun a o q => ?_⟩) ⟨Dl, acc, rfl, upd_same, RpL.mono sF _ _ hR⟩
      · by_cases ha : a = Dl
        · subst ha
          rw [upd_same] at q
          rw [← q]
          exact hH
        · rw [upd_ne ha] at q
          exact s2.fh a o q
      · rw [upd_ne (ne_of_none q hD)]
        exact s2.old a o q
  · cases hf2
variable {elt tg iter : Expr} {ifs : List Expr} {scope : Scope} {pos : Pos} {it : DFs} {g : DG} {t : DB} {e : DF} {ws : List Nat}
theorem de_comp {own : List (Str × Nat)} (hc : X.calm = true) (hN : X.N.Nodup) (hi : DI X C O tg iter it) (ok : BlkOk X.N X.env.scope scope own)
    (hg : ∀ (s : Shared) (H : Hp) (D : Addr) (cl : List (Str × Addr)) (fp : List Addr), DTg (X.blk s H scope (compEnvC scope cl D X.env) fp) C O ws tg g) (ht : ∀ (s : Shared) (H : Hp) (D : Addr) (cl : List (Str × Addr)) (fp : List Addr), DTs (X.blk s H scope (compEnvC scope cl D X.env) fp) C O ifs t)
    (he : ∀ (s : Shared) (H : Hp) (D : Addr) (cl : List (Str × Addr)) (fp : List Addr), DE (X.blk s H scope (compEnvC scope cl D X.env) fp) C O elt e) (hv : ∀ i ∈ ws, i ∈ own.map (·.2) := by decide) (hs : ∀ x, foldedSetIterable iter X.env x = pure x := by intro _; rfl) :
    DE X C O (.ListComp elt [⟨tg, iter, ifs, 0⟩] scope pos) (dComp it g t e (own.map (·.2))) := PEw (pe_lc hc hN hi ok hg ht he hs) fun _ _ _ hw => comp_rd hv hw
end
end DL
namespace DL
open PySem PySem.Spec PyProof.Rows L2
inductive R where
  | nx (ρ : Rho) | rt (d : D)
abbrev DS := Rho → Option R
/-- the slots at a statement; F0, H0: as the def was entered -/
structure Sn (K : PySem.W.Frag) (C : Addr) (O : List Nat) (F0 H0 F H : Hp) (σ : L2.St) (ρ : Rho) : Prop where
  en : En K C O F H σ ρ
  sp : Stp F0 H0 F H
  nw : ∀ i d p, i ∈ O → lk ρ i = some d → σ[i]? = some (some (.ref p)) → H0 p = none
def endR (K : PySem.W.Frag) (C : Addr) (O' : List Nat) (F0 H0 F : Hp) (Z : Ends) : R → Prop
  | .nx ρ' => ∀ σ' F' H', Sn K C O' F0 H0 F' H' σ' ρ' → Same F F' → Z.nx σ' H'
  | .rt d => ∀ v F' H', Stp F0 H0 F' H' → Rp K C F' d v → Z.rt v H'
def tDS (K : PySem.W.Frag) (C : Addr) (O O' : List Nat) (f : DS) : TS := fun Z σ H => ∃ F0 H0 F ρ r, Sn K C O F0 H0 F H σ ρ ∧ f ρ = some r ∧ endR K C O' F0 H0 F Z r
abbrev DSt (X : Cx) (C : Addr) (O O' : List Nat) (s : Stmt) (f : DS) : Prop := PS X s (tDS X.K C O O' f)
abbrev DSs (X : Cx) (C : Addr) (O O' : List Nat) (s : List Stmt) (f : DS) : Prop := PSs X s (tDS X.K C O O' f)
section
variable {K : PySem.W.Frag} {C : Addr} {O O' : List Nat} {F0 H0 F H F' H' : Hp} {σ : L2.St} {ρ : Rho} {Z : Ends}
theorem endR.mono {r : R} (h : endR K C O' F0 H0 F Z r) (s : Same F F') : endR K C O' F0 H0 F' Z r := by
  cases r with
  | nx ρ' => exact fun σ' F2 H2 S sm => h σ' F2 H2 S (s.trans sm)
  | rt d => exact h
theorem Sn.step (h : Sn K C O F0 H0 F H σ ρ) (s : Stp F H F' H') : Sn K C O F0 H0 F' H' σ ρ := ⟨h.en.step s, h.sp.trans s, h.nw⟩
theorem Sn.set {i : Nat} {d : D} {v : V} (h : Sn K C O F0 H0 F H σ ρ) (hi : i ∉ O) (hv : Rp K C F d v) : Sn K C O F0 H0 F H (σ.set i (some v)) (st ρ i d) := by
  refine ⟨h.en.set hi hv, h.sp, fun j e p hj q1 q2 => ?_⟩
  have hji : j ≠ i := fun z => hi (z ▸ hj)
  rw [lk_st_ne hji] at q1
  rw [List.getElem?_set_ne (Ne.symm hji)] at q2
  exact h.nw j e p hj q1 q2
/-- the slots are another, the lists of one's own the same -/
theorem Sn.keep {σ' : L2.St} {ρ' : Rho} (h : Sn K C O F0 H0 F H σ ρ) (E : En K C O F H σ' ρ') (kp : Kp O σ σ' ρ ρ') : Sn K C O F0 H0 F H σ' ρ' := by
  refine ⟨E, h.sp, fun j e p hj q1 q2 => ?_⟩
  rw [(kp j hj).2] at q1
  rw [(kp j hj).1] at q2
  exact h.nw j e p hj q1 q2
/-- a list that nobody knows becomes one's own -/
theorem Sn.adopt {i : Nat} {p : Addr} {ds : List D} {vs : List V} (h : Sn K C O F0 H0 F H σ ρ) (hi : i ∉ O) (hH : H p = some (.lst vs)) (hF : F p = none) (h0 : H0 p = none)
    (hn : ∀ j d, j ∈ O → lk ρ j = some d → σ[j]? ≠ some (some (.ref p))) (hl : RpL K C F ds vs) : Sn K C (i :: O) F0 H0 F H (σ.set i (some (.ref p))) (st ρ i (.lst ds)) := by
  have hE := h.en
  have nlt : ∀ {d : D}, lk (st ρ i (.lst ds)) i = some d → i < σ.length := fun {d} q => by
    have := lk_lt q
    rw [st_len, ← hE.len] at this
    exact this
  refine ⟨⟨hE.fh, by rw [List.length_set, st_len]; exact hE.len, fun j e hj q => ?_, fun j e hj q => ?_, fun j k e e' p' hj hk q1 q2 q3 q4 => ?_⟩, h.sp, fun j e p' hj q1 q2 => ?_⟩
  · have hji : j ≠ i := fun z => hj (by rw [z]; exact List.mem_cons_self)
    rw [lk_st_ne hji] at q
    rw [List.getElem?_set_ne (Ne.symm hji)]
    exact hE.pl j e (fun z => hj (List.mem_cons_of_mem _ z)) q
  · by_cases hji : j = i
    · subst hji
      have e1 := lk_st_same q
      subst e1
      exact ⟨p, vs, ds, List.getElem?_set_self (nlt q), rfl, hH, hF, hl⟩
    · rw [lk_st_ne hji] at q
      rw [List.getElem?_set_ne (Ne.symm hji)]
      exact hE.ow j e ((List.mem_cons.mp hj).elim (fun z => absurd z hji) id) q
  · by_cases hji : j = i
    · by_cases hki : k = i
      · rw [hji, hki]
      · exfalso
        subst hji
        rw [lk_st_ne hki] at q2
        rw [List.getElem?_set_ne (Ne.symm hki)] at q4
        rw [List.getElem?_set_self (nlt q1)] at q3
        cases q3
        exact hn k e' ((List.mem_cons.mp hk).elim (fun z => absurd z hki) id) q2 q4
    · by_cases hki : k = i
      · exfalso
        subst hki
        rw [lk_st_ne hji] at q1
        rw [List.getElem?_set_ne (Ne.symm hji)] at q3
        rw [List.getElem?_set_self (nlt q2)] at q4
        cases q4
        exact hn j e ((List.mem_cons.mp hj).elim (fun z => absurd z hji) id) q1 q3
      · rw [lk_st_ne hji] at q1
        rw [lk_st_ne hki] at q2
        rw [List.getElem?_set_ne (Ne.symm hji)] at q3
        rw [List.getElem?_set_ne (Ne.symm hki)] at q4
        exact hE.ap j k e e' p' ((List.mem_cons.mp hj).elim (fun z => absurd z hji) id) ((List.mem_cons.mp hk).elim (fun z => absurd z hki) id) q1 q2 q3 q4
  · by_cases hji : j = i
    · subst hji
      rw [List.getElem?_set_self (nlt q1)] at q2
      cases q2
      exact h0
    · rw [lk_st_ne hji] at q1
      rw [List.getElem?_set_ne (Ne.symm hji)] at q2
      exact h.nw j e p' ((List.mem_cons.mp hj).elim (fun z => absurd z hji) id) q1 q2
/-- a list just made, known to nobody, becomes one's own -/
theorem Sn.own {i : Nat} {p : Addr} {ds : List D} {vs : List V} (h : Sn K C O F0 H0 F H σ ρ) (hi : i ∉ O) (hH : H p = none) (hl : RpL K C F ds vs) :
    Sn K C (i :: O) F0 H0 F (upd H p (.lst vs)) (σ.set i (some (.ref p))) (st ρ i (.lst ds)) := by
  refine (h.step (Stp.own h.en.fh hH)).adopt hi upd_same (none_of_same h.en.fh hH) (h.sp.hh.free hH) (fun j d hj q1 q2 => ?_) hl
  obtain ⟨p', _, _, g1, _, g3, _, _⟩ := h.en.ow j d hj q1
  rw [g1] at q2
  cases q2
  rw [hH] at g3
  cases g3
theorem Sn.mut {i : Nat} {ds ds' : List D} {vs' : List V} {p : Addr} (h : Sn K C O F0 H0 F H σ ρ) (hi : i ∈ O) (he : lk ρ i = some (.lst ds)) (hp : σ[i]? = some (some (.ref p))) (hl : RpL K C F ds' vs') :
    Sn K C O F0 H0 F (upd H p (.lst vs')) σ (st ρ i (.lst ds')) := by
  obtain ⟨p', vs, ds2, g1, g2, g3, g4, g5⟩ := h.en.ow i _ hi he
  rw [g1] at hp
  cases hp
  have h0 : H0 p = none := h.nw i _ p hi he g1
  refine ⟨h.en.mut hi he g1 g3 g4 hl, ⟨h.sp.ff, fun a o q => ?_, fun a o q => ?_, h.sp.old⟩, fun j e p' hj q1 q2 => ?_⟩
  · rw [upd_ne (ne_of_none q h0)]
    exact h.sp.hh a o q
  · rw [upd_ne (ne_of_none q g4)]
    exact h.en.fh a o q
  · by_cases hji : j = i
    · subst hji
      rw [g1] at q2
      cases q2
      exact h0
    · rw [lk_st_ne hji] at q1
      exact h.nw j e p' hj q1 q2
theorem Sn.freeze {i : Nat} (h : Sn K C O F0 H0 F H σ ρ) (hO : ∀ j, j ∈ O' ↔ j ∈ O ∧ j ≠ i) : ∃ F', Same F F' ∧ Sn K C O' F0 H0 F' H σ ρ := by
  obtain ⟨F', sm, E, ch⟩ := h.en.freeze hO
  refine ⟨F', sm, E, ⟨h.sp.ff.trans sm, h.sp.hh, E.fh, fun a o q => ?_⟩, fun j d p hj q1 q2 => h.nw j d p ((hO j).mp hj).1 q1 q2⟩
  by_cases hne : F' a = F a
  · rw [hne]
    exact h.sp.old a o q
  · obtain ⟨hi, d, e1, e2⟩ := ch a hne
    rw [h.nw i d a hi e1 e2] at q
    cases q
end
def dSeq (f g : DS) : DS := fun ρ => (f ρ).bind fun r => match r with
  | .nx ρ' => g ρ'
  | .rt d => some (.rt d)
def dNx : DS := fun ρ => some (.nx ρ)
def dRet (f : DF) : DS := fun ρ => (f ρ).bind fun d => some (.rt d)
def dSet (i : Nat) (f : DF) : DS := fun ρ => (f ρ).bind fun d => some (.nx (st ρ i d))
def dIfS (t : DB) (f g : DS) : DS := fun ρ => (t ρ).bind fun b => if b = true then f ρ else g ρ
def dAsg (g : DG) (f : DF) : DS := fun ρ => (f ρ).bind fun d => (g d ρ).bind fun ρ' => some (.nx ρ')
def forL (g : DG) (b : DS) : List D → Rho → Option R
  | [], ρ => some (.nx ρ)
  | d :: ds, ρ => (g d ρ).bind fun ρ1 => (b ρ1).bind fun r => match r with
    | .nx ρ2 => forL g b ds ρ2
    | .rt x => some (.rt x)
def dFor (it : DFs) (g : DG) (b : DS) : DS := fun ρ => (it ρ).bind fun ds => forL g b ds ρ
def whileN (t : DB) (b : DS) : Nat → Rho → Option R
  | 0, _ => none
  | n + 1, ρ => (t ρ).bind fun c => if c = true then (b ρ).bind fun r => match r with
    | .nx ρ' => whileN t b n ρ'
    | .rt d => some (.rt d) else some (.nx ρ)
def FUEL : Nat := 1000000000000000000000000000000
def dWhile (t : DB) (b : DS) : DS := fun ρ => whileN t b FUEL ρ
def dPar (i j : Nat) (f g : DF) : DS := fun ρ => (f ρ).bind fun x => (g ρ).bind fun y => some (.nx (st (st ρ i x) j y))
def asI : D → Option Int
  | .int i => some i
  | _ => none
def dAug (i : Nat) (f : DF) : DS := fun ρ => (lk ρ i).bind fun x => (asI x).bind fun a => (f ρ).bind fun y => (asI y).bind fun b => some (.nx (st ρ i (.int (a + b))))
def asL : D → Option (List D)
  | .lst xs => some xs
  | _ => none
def dApp (i : Nat) (f : DF) : DS := fun ρ => (f ρ).bind fun d => (lk ρ i).bind fun x => (asL x).bind fun ds => if ds.length < 16777216 then some (.nx (st ρ i (.lst (ds ++ [d])))) else none
def dSetIx (i : Nat) (k f : DF) : DS := fun ρ => (f ρ).bind fun d => (k ρ).bind fun j => (asI j).bind fun n => (lk ρ i).bind fun x => (asL x).bind fun ds => (ixNat ds.length n).bind fun m => some (.nx (st ρ i (.lst (ds.set m d))))
theorem asI_some {d : D} {b : Int} (h : asI d = some b) : d = .int b := by
  cases d <;> first | (cases h; rfl) | cases h
theorem asL_some {d : D} {b : List D} (h : asL d = some b) : d = .lst b := by
  cases d <;> first | (cases h; rfl) | cases h
section
variable {X : Cx} {C : Addr} {O O' O1 : List Nat} {s : Stmt} {ss : List Stmt} {f g : DS} {e a b c : Expr} {fe ge : DF} {t : DB} {pos : Pos}
theorem dss_nil : DSs X C O O [] dNx := PSsw pss_nil fun D σ H ⟨F0, H0, F, ρ, r, S, hf, k⟩ => by
  cases hf
  exact k σ F H S (Same.refl _)
theorem dss_cons (h1 : DSt X C O O1 s f) (h2 : DSs X C O1 O' ss g) : DSs X C O O' (s :: ss) (dSeq f g) := PSsw (pss_cons h1 h2) fun D σ H ⟨F0, H0, F, ρ, r, S, hf, k⟩ => by
  obtain ⟨r1, e1, e2⟩ := bind_some hf
  refine ⟨F0, H0, F, ρ, r1, S, e1, ?_⟩
  cases r1 with
  | nx ρ1 => exact fun σ1 F1 H1 S1 sm => ⟨F0, H0, F1, ρ1, r, S1, e2, k.mono sm⟩
  | rt d =>
    cases e2
    exact k
theorem dss_one (h1 : DSt X C O O' s f) : DSs X C O O' [s] f := pss_one h1
/-- ghosts: a list of one's own is frozen ahead of a statement, of a block -/
theorem ds_frz (i : Nat) (h : DSt X C O1 O' s f) (hO : ∀ j, j ∈ O1 ↔ j ∈ O ∧ j ≠ i := by intro j; simp only [List.mem_cons, List.not_mem_nil, or_false]; constructor <;> (intro h; first | omega | exact h.elim)) : DSt X C O O' s f := PSw h fun D σ H ⟨F0, H0, F, ρ, r, S, hf, k⟩ => by
  obtain ⟨F', sm, S'⟩ := S.freeze hO
  exact ⟨F0, H0, F', ρ, r, S', hf, k.mono sm⟩
theorem dss_frz (i : Nat) (h : DSs X C O1 O' ss f) (hO : ∀ j, j ∈ O1 ↔ j ∈ O ∧ j ≠ i := by intro j; simp only [List.mem_cons, List.not_mem_nil, or_false]; constructor <;> (intro h; first | omega | exact h.elim)) : DSs X C O O' ss f := PSsw h fun D σ H ⟨F0, H0, F, ρ, r, S, hf, k⟩ => by
  obtain ⟨F', sm, S'⟩ := S.freeze hO
  exact ⟨F0, H0, F', ρ, r, S', hf, k.mono sm⟩
theorem ds_ret (h : DE X C O e fe) : DSt X C O O (.Return (some e) pos) (dRet fe) := PSw (ps_ret h) fun D σ H ⟨F0, H0, F, ρ, r, S, hf, k⟩ => by
  obtain ⟨d, e1, e2⟩ := bind_some hf
  cases e2
  exact ⟨F, ρ, d, S.en, e1, fun v F1 H1 s1 r1 => k v F1 H1 (S.sp.trans s1) r1⟩
theorem ds_if (hc : DT X C O c t) (ha : DSs X C O O' ss f) {us : List Stmt} (hb : DSs X C O O' us g) : DSt X C O O' (.If c ss us pos) (dIfS t f g) := PSw (ps_if hc ha hb) fun D σ H ⟨F0, H0, F, ρ, r, S, hf, k⟩ => by
  obtain ⟨d, e1, e2⟩ := bind_some hf
  refine ⟨F, ρ, d, S.en, e1, fun F1 H1 s1 => ?_⟩
  cases d with
  | true =>
    rw [if_pos rfl] at e2 ⊢
    exact ⟨F0, H0, F1, ρ, r, S.step s1, e2, k.mono s1.ff⟩
  | false =>
    rw [if_neg Bool.false_ne_true] at e2 ⊢
    exact ⟨F0, H0, F1, ρ, r, S.step s1, e2, k.mono s1.ff⟩
theorem set_rd {K : PySem.W.Frag} {i : Nat} {Z : Ends} {σ : L2.St} {H : Hp} (hi : i ∉ O) (hw : tDS K C O O (dSet i fe) Z σ H) : tAsg (tD K C O fe) (gName i) Z σ H := by
  obtain ⟨F0, H0, F, ρ, r, S, hf, k⟩ := hw
  obtain ⟨d, e1, e2⟩ := bind_some hf
  cases e2
  exact ⟨F, ρ, d, S.en, e1, fun v F1 H1 s1 r1 => k _ F1 H1 ((S.step s1).set hi r1) s1.ff⟩
theorem ds_set (i : Nat) {x : Str} {pos' : Pos} (hN : X.N.Nodup) (he : DE X C O e fe) (hi : X.N[i]? = some x := by rfl) (hx : Loc X.env.scope x := by first | exact Or.inl rfl | exact Or.inr rfl) (hO : i ∉ O := by decide)
    (hs : swapsWith e (some (.Name x pos')) pos.line X.env = pure false := by rfl) (hf : X.fn x = true ∨ X.env.scope.names.lookup x = some .local := by first | exact .inl rfl | exact .inr rfl) :
    DSt X C O O (.Assign [.Name x pos'] e pos) (dSet i fe) := PSw (ps_set hN hi hx he hs hf) fun D σ H hw => set_rd hO hw
/-- any target -/
theorem ds_asg {tg : Expr} {ws : List Nat} {gg : DG} (he : DE X C O e fe) (hg : DTg X C O ws tg gg) (hs : swapsWithSole [tg] e pos.line X.env = pure false := by rfl) (hw : swappedStores [tg] e X.env = pure none := by rfl)
    (h1 : (assignEach [tg] X.env).map (·.2) = [assign tg X.env] := by rfl) : DSt X C O O (.Assign [tg] e pos) (dAsg gg fe) := PSw (ps_asg he hg hs hw h1) fun D σ H ⟨F0, H0, F, ρ, r, S, hf, k⟩ => by
  obtain ⟨d, e1, e2⟩ := bind_some hf
  obtain ⟨ρ', e3, e4⟩ := bind_some e2
  cases e4
  refine ⟨F, ρ, d, S.en, e1, fun v F1 H1 s1 r1 => ⟨F1, ρ, d, ρ', S.en.step s1, r1, e3, fun σ' E' bar kp => k σ' F1 H1 ((S.step s1).keep E' kp) s1.ff⟩⟩
theorem ds_par (i j : Nat) {x y : Str} {px py pt : Pos} {kt k2 : Nat} {pt2 : Pos} (hc : X.calm = true) (hN : X.N.Nodup) (ha : DE X C O a fe) (hb : DE X C O b ge) (hi : X.N[i]? = some x := by rfl) (hj : X.N[j]? = some y := by rfl) (hij : i ≠ j := by decide)
    (hx : X.env.scope.names.lookup x = some .local := by rfl) (hy : X.env.scope.names.lookup y = some .local := by rfl) (hO : i ∉ O := by decide) (hO2 : j ∉ O := by decide)
    (hw : swappedStores [.Tuple [.Name x px, .Name y py] kt pt] (.Tuple [a, b] k2 pt2) X.env = pure (some [x, y]) := by rfl)
    (hs : swapsWithSole [.Tuple [.Name x px, .Name y py] kt pt] (.Tuple [a, b] k2 pt2) pos.line X.env = pure false := by rfl)
    (h1 : starEach [a, b] X.env = (false, eval a X.env) :: starEach [b] X.env := by rfl) (h2 : starEach [b] X.env = (false, eval b X.env) :: starEach [] X.env := by rfl) :
    DSt X C O O (.Assign [.Tuple [.Name x px, .Name y py] kt pt] (.Tuple [a, b] k2 pt2) pos) (dPar i j fe ge) := PSw (ps_par hc hN hi hj hij hx hy (pa_cons ha (pa_cons hb pa_nil h2) h1) hw hs) fun D σ H ⟨F0, H0, F, ρ, r, S, hf, k⟩ => by
  obtain ⟨d, e1, e2⟩ := bind_some hf
  obtain ⟨d', e3, e4⟩ := bind_some e2
  cases e4
  exact ⟨F, ρ, d, S.en, e1, fun v F1 H1 s1 r1 => ⟨F1, ρ, d', S.en.step s1, e3, fun v2 F2 H2 s2 r2 => ⟨v, v2, rfl, k _ F2 H2 (((S.step (s1.trans s2)).set hO (Rp.mono s2.ff _ _ r1)).set hO2 r2) (s1.ff.trans s2.ff)⟩⟩⟩
theorem ds_aug (i : Nat) {x : Str} {pos' : Pos} (hN : X.N.Nodup) (he : DE X C O e fe) (hi : X.N[i]? = some x := by rfl) (hx : Loc X.env.scope x := by first | exact Or.inl rfl | exact Or.inr rfl) (hO : i ∉ O := by decide)
    (hf : X.fn x = true ∨ X.env.scope.names.lookup x = some .local := by first | exact .inl rfl | exact .inr rfl) : DSt X C O O (.AugAssign (.Name x pos') .Add e pos) (dAug i fe) := PSw (ps_aug hN hi hx he ip_add hf) fun D σ H ⟨F0, H0, F, ρ, r, S, hf, k⟩ => by
  obtain ⟨d, e1, e2⟩ := bind_some hf
  obtain ⟨n, e3, e4⟩ := bind_some e2
  obtain ⟨d', e5, e6⟩ := bind_some e4
  obtain ⟨m, e7, e8⟩ := bind_some e6
  obtain rfl := asI_some e3
  obtain rfl := asI_some e7
  cases e8
  obtain ⟨v, q1, q2⟩ := S.en.pl i _ hO e1
  have q2' : v = .int n := q2
  subst q2'
  refine ⟨_, q1, F, ρ, _, S.en, e5, fun v F1 H1 s1 r1 => ⟨n, m, rfl, r1, k _ F1 H1 ((S.step s1).set hO rfl) s1.ff⟩⟩
theorem ds_while {body : List Stmt} (hp : PassesOwn (model X.prog X.w) X.A X.env X.xe) (hc : DT X C O c t) (hb : DSs X C O O body f) : DSt X C O O (.While c body [] pos) (dWhile t f) := PSw (ps_while hp hc hb) fun D σ H ⟨F0, H0, F, ρ, r, S, hf, k⟩ => by
  refine ⟨fun m σ H => ∃ F1 ρ, Sn X.K C O F0 H0 F1 H σ ρ ∧ Same F F1 ∧ whileN t f m ρ = some r, ⟨FUEL, F, ρ, S, Same.refl _, hf⟩, fun m σ1 H1 ⟨F1, ρ1, S1, sm, hw⟩ => ?_⟩
  cases m with
  | zero => cases hw
  | succ m =>
    obtain ⟨c', e1, e2⟩ := bind_some hw
    refine ⟨F1, ρ1, c', S1.en, e1, fun F2 H2 s2 => ?_⟩
    cases c' with
    | true =>
      dsimp only
      rw [if_pos rfl] at e2 ⊢
      obtain ⟨r1, e3, e4⟩ := bind_some e2
      refine ⟨fun σ H => ∃ F1 ρ, Sn X.K C O F0 H0 F1 H σ ρ ∧ Same F F1 ∧ whileN t f m ρ = some r, fun σ' H' q => ⟨m, Nat.lt_succ_self _, q⟩, F0, H0, F2, ρ1, r1, S1.step s2, e3, ?_⟩
      cases r1 with
      | nx ρ2 => exact fun σ' F' H' S' sm' => ⟨F', ρ2, S', sm.trans (s2.ff.trans sm'), e4⟩
      | rt d =>
        cases e4
        exact k
    | false =>
      dsimp only
      rw [if_neg Bool.false_ne_true] at e2 ⊢
      cases e2
      exact k σ1 F2 H2 (S1.step s2) (sm.trans s2.ff)
theorem ds_for {tg iter : Expr} {body : List Stmt} {it : DFs} {ws : List Nat} {gg : DG} (hp : PassesOwn (model X.prog X.w) X.A X.env X.xe) (hc : X.calm = true) (hi : DI X C O tg iter it) (hg : DTg X C O ws tg gg) (hb : DSs X C O O body f)
    (hs : ∀ x, foldedSetIterable iter X.env x = pure x := by intro _; rfl) : DSt X C O O (.For tg iter body [] pos) (dFor it gg f) := PSw (ps_for hp hc hi hg hb hs) fun D σ H ⟨F0, H0, F, ρ, r, S, hf, k⟩ => by
  obtain ⟨ds, e1, e2⟩ := bind_some hf
  refine ⟨F, ρ, ds, S.en, e1, fun J F1 H1 s1 jd => ?_⟩
  refine ⟨fun i m σ H => m = ds.length - i ∧ i ≤ ds.length ∧ ∃ F2 ρ, Sn X.K C O F0 H0 F2 H σ ρ ∧ Same F1 F2 ∧ forL gg f (ds.drop i) ρ = some r, ⟨ds.length, rfl, Nat.zero_le _, F1, ρ, S.step s1, Same.refl _, e2⟩, fun i m σ2 H2 ⟨em, hi, F2, ρ2, S2, sm, hw⟩ => ?_⟩
  subst em
  by_cases hlt : i < ds.length
  · right
    obtain ⟨_, jg⟩ := jd i F2 H2 sm S2.en.fh
    obtain ⟨go, yl⟩ := jg ds[i] (List.getElem?_eq_getElem hlt)
    rw [List.drop_eq_getElem_cons hlt] at hw
    unfold forL at hw
    obtain ⟨ρ3, c1, c2⟩ := bind_some hw
    obtain ⟨r3, c3, c4⟩ := bind_some c2
    refine ⟨go, fun σ H => (ds.length - (i + 1)) = ds.length - (i + 1) ∧ i + 1 ≤ ds.length ∧ ∃ F2 ρ, Sn X.K C O F0 H0 F2 H σ ρ ∧ Same F1 F2 ∧ forL gg f (ds.drop (i + 1)) ρ = some r, fun σ' H' q => ⟨_, by omega, q⟩, fun x H3 y => ?_⟩
    obtain ⟨F3, s3, r3'⟩ := yl x H3 y
    refine ⟨F3, ρ2, ds[i], ρ3, S2.en.step s3, r3', c1, fun σ4 E4 bar kp => ⟨F0, H0, F3, ρ3, r3, (S2.step s3).keep E4 kp, c3, ?_⟩⟩
    cases r3 with
    | nx ρ4 => exact fun σ' F' H' S' sm' => ⟨rfl, hlt, F', ρ4, S', sm.trans (s3.ff.trans sm'), c4⟩
    | rt d =>
      cases c4
      exact k
  · left
    have ei : i = ds.length := by omega
    subst ei
    obtain ⟨js, _⟩ := jd ds.length F2 H2 sm S2.en.fh
    rw [List.drop_length] at hw
    cases hw
    exact ⟨js rfl, k σ2 F2 H2 S2 (s1.ff.trans sm)⟩
end
end DL
namespace DL
open PySem PySem.Spec PyProof.Rows L2
/-- a new list that nobody knows yet -/
def tDN (K : PySem.W.Frag) (C : Addr) (O : List Nat) (f : DFs) : TE := fun σ H Q => ∃ F ρ ds, En K C O F H σ ρ ∧ f ρ = some ds ∧ ∀ p vs F' H1, Stp F H F' H1 → H1 p = none → RpL K C F' ds vs → Q (.ref p) (upd H1 p (.lst vs))
abbrev DN (X : Cx) (C : Addr) (O : List Nat) (e : Expr) (f : DFs) : Prop := PE X e (tDN X.K C O f)
def nLst (f : DFs) : DFs := fun ρ => (f ρ).bind fun ds => if ds.length ≤ 100000 then some ds else none
def nRep (f g : DF) : DFs := fun ρ => (f ρ).bind fun x => (asL x).bind fun ds => (g ρ).bind fun y => (asI y).bind fun k => if k ≤ 16777216 ∧ -16777216 ≤ k ∧ ds.length * k.toNat ≤ 16777216 then some (List.replicate k.toNat ds).flatten else none
def nOf (f : DF) : DFs := fun ρ => (f ρ).bind asSeq
def dSetN (i : Nat) (f : DFs) : DS := fun ρ => (f ρ).bind fun ds => some (.nx (st ρ i (.lst ds)))
def dParN1 (i j : Nat) (f : DFs) (g : DF) : DS := fun ρ => (f ρ).bind fun ds => (g ρ).bind fun y => some (.nx (st (st ρ i (.lst ds)) j y))
def dParNN (i j : Nat) (f g : DFs) : DS := fun ρ => (f ρ).bind fun ds => (g ρ).bind fun es => some (.nx (st (st ρ i (.lst ds)) j (.lst es)))
section
variable {X : Cx} {C : Addr} {O O' O1 : List Nat} {s : Stmt} {ss : List Stmt} {f g : DS} {e a b c : Expr} {es : List Expr} {fe ge : DF} {fs gs : DFs} {t : DB} {pos : Pos}
theorem dn_lst (ha : DA X C O es fs) : DN X C O (.List es pos) (nLst fs) := PEw (pe_lst ha) fun σ H Q ⟨F, ρ, t, E, hf, k⟩ => by
  obtain ⟨ds, h1, hf1⟩ := bind_some hf
  split at hf1
  · rename_i hz
    cases hf1
    exact ⟨F, ρ, _, E, h1, fun vs F1 H1 s1 r1 => ⟨by rw [← r1.len]; exact sz100 hz, fun p hp => k p vs F1 H1 s1 hp r1⟩⟩
  · cases hf1
theorem dn_rep (ha : DE X C O a fe) (hb : DE X C O b ge) : DN X C O (.BinOp a .Mult b pos) (nRep fe ge) := PEw (pe_op op_rep ha hb) fun σ H Q ⟨F, ρ, t, E, hf, k⟩ => by
  obtain ⟨x, h1, hf1⟩ := bind_some hf
  obtain ⟨ds, h2, hf2⟩ := bind_some hf1
  obtain ⟨y, h3, hf3⟩ := bind_some hf2
  obtain ⟨n, h4, hf4⟩ := bind_some hf3
  obtain rfl := asL_some h2
  obtain rfl := asI_some h4
  split at hf4
  · rename_i hz
    cases hf4
    refine ⟨F, ρ, _, E, h1, fun v F1 H1 s1 r1 => ⟨F1, ρ, _, E.step s1, h3, fun u F2 H2 s2 r2 => ?_⟩⟩
    obtain ⟨p, vs, rfl, hp, hl⟩ := r1
    have e63 : (2 : Int) ^ 63 = 9223372036854775808 := by decide
    have hl2 := RpL.mono s2.ff _ _ hl
    exact ⟨p, n, vs, rfl, r2, s2.fh _ _ (s2.ff _ _ hp), by rw [e63]; omega, by rw [e63]; omega, szl_ok (by rw [← hl.len]; exact hz.2.2), fun q hq => k q _ F2 H2 (s1.trans s2) hq (RpL.rep hl2 _)⟩
  · cases hf4
theorem dn_of {p : Pos} (hg : Gl X "list") (hm : X.mg "list" = none) (ha : DE X C O e fe) (hs : starEach [e] X.env = (false, eval e X.env) :: starEach [] X.env := by rfl) (hpl : (backTo pos (starEach [] X.env)).any (·.1) = false := by rfl) :
    DN X C O (.Call (.Name "list" p) [e] [] pos) (nOf fe) := PEw (pe_callTy call_list_of hg hm PyProof.Rows.boot_list (pa_cons ha pa_nil hs) (by decide) (by decide) hs hpl) fun σ H Q ⟨F, ρ, t, E, hf, k⟩ => by
  obtain ⟨x, h1, hf1⟩ := bind_some hf
  refine ⟨F, ρ, x, E, h1, fun v F1 H1 s1 r1 => ?_⟩
  cases x <;> first | (cases hf1; done) | skip
  · cases hf1
    obtain ⟨p, vs, rfl, hp, hl⟩ := r1
    exact ⟨p, vs, rfl, .inr (SqT.of (s1.fh _ _ hp)), fun q hq => k q vs F1 H1 s1 hq hl⟩
  · cases hf1
    obtain ⟨p, vs, rfl, hp, hl⟩ := r1
    exact ⟨p, vs, rfl, .inl (SqL.of (s1.fh _ _ hp)), fun q hq => k q vs F1 H1 s1 hq hl⟩
theorem ds_setN (i : Nat) {x : Str} {pos' : Pos} (hN : X.N.Nodup) (he : DN X C O e fs) (hi : X.N[i]? = some x := by rfl) (hx : Loc X.env.scope x := by first | exact Or.inl rfl | exact Or.inr rfl) (hO : i ∉ O := by decide)
    (hs : swapsWith e (some (.Name x pos')) pos.line X.env = pure false := by rfl) (hf : X.fn x = true ∨ X.env.scope.names.lookup x = some .local := by first | exact .inl rfl | exact .inr rfl) :
    DSt X C O (i :: O) (.Assign [.Name x pos'] e pos) (dSetN i fs) := PSw (ps_set hN hi hx he hs hf) fun Z σ H ⟨F0, H0, F, ρ, r, S, hf, k⟩ => by
  obtain ⟨ds, e1, e2⟩ := bind_some hf
  cases e2
  exact ⟨F, ρ, ds, S.en, e1, fun p vs F1 H1 s1 hp r1 => k _ F1 _ ((S.step s1).own hO hp r1) s1.ff⟩
/-- x.append(e) -/
theorem ds_app (i : Nat) {x : Str} {p1 p2 p3 : Pos} (he : DE X C O e fe) (hi : X.N[i]? = some x := by rfl) (hv : Vis X.env.scope x := by first | exact Or.inl rfl | exact Or.inr (Or.inl rfl) | exact Or.inr (Or.inr rfl)) (hO : i ∈ O := by decide)
    (hd : (x == ("__debug__" : Str)) = false := by decide) (hcd : (x == ("__classdict__" : Str)) = false := by decide)
    (hbase : attributeBase (.Name x p1) "append" X.env (eval (.Name x p1) X.env) = eval (.Name x p1) X.env := by rfl)
    (hfew : ((backTo p3 (starEach [e] X.env)).all (fun x => !x.1) && (backToKw p3 (keywordEach [] X.env)).all (fun x => x.1.isSome)
      && decide ([e].length + ([] : List Keyword).length + (if ([] : List Keyword).isEmpty then 0 else 1) < 30)) = true := by rfl)
    (hline : (p2.endLine == p3.line) = true := by rfl) (hs : starEach [e] X.env = (false, eval e X.env) :: starEach [] X.env := by rfl) (hplain : (backTo p3 (starEach [] X.env)).any (·.1) = false := by rfl)
    (hsw : swapsWith (.Call (.Attribute (.Name x p1) "append" p2) [e] [] p3) none pos.line X.env = pure false := by rfl) :
    DSt X C O O (.Expr (.Call (.Attribute (.Name x p1) "append" p2) [e] [] p3) pos) (dApp i fe) :=
  PSw (ps_expr (pe_bm PySem.F.plainAttrs_list PySem.F.slot_list_append PySem.F.type_list_append mt_append (pe_var hi hv hd hcd) (pa_cons he pa_nil hs) hbase hfew hline hs hplain) hsw) fun Z σ H ⟨F0, H0, F, ρ, r, S, hf, k⟩ => by
    obtain ⟨d, e1, e2⟩ := bind_some hf
    obtain ⟨y, e3, e4⟩ := bind_some e2
    obtain ⟨ds, e5, e6⟩ := bind_some e4
    obtain rfl := asL_some e5
    split at e6
    · rename_i hz
      cases e6
      obtain ⟨p, vs, ds2, g1, g2, g3, g4, g5⟩ := S.en.ow i _ hO e3
      cases g2
      refine ⟨.ref p, g1, .inl ⟨rfl, vs, SqL.of g3⟩, F, ρ, d, S.en, e1, fun v F1 H1 s1 r1 => ?_⟩
      have S1 := S.step s1
      have hl : RpL X.K C F1 (ds ++ [d]) (vs ++ [v]) := RpL.append (RpL.mono s1.ff _ _ g5) (RpL.one r1)
      exact ⟨p, vs, v, rfl, rfl, s1.hh _ _ g3, Nat.lt_of_lt_of_le (by rw [← g5.len]; exact hz) (szl_ok (Nat.le_refl _)), k σ F1 _ (S1.mut hO e3 g1 hl) s1.ff⟩
    · cases e6
/-- x[k] = e -/
theorem ds_setIx (i : Nat) {x : Str} {p1 p2 : Pos} (he : DE X C O e fe) (hk : DE X C O a ge) (hi : X.N[i]? = some x := by rfl) (hv : Vis X.env.scope x := by first | exact Or.inl rfl | exact Or.inr (Or.inl rfl) | exact Or.inr (Or.inr rfl)) (hO : i ∈ O := by decide)
    (hd : (x == ("__debug__" : Str)) = false := by decide) (hcd : (x == ("__classdict__" : Str)) = false := by decide)
    (ha : ∀ v, assign (.Subscript (.Name x p1) a p2) X.env v = (do
      let ov ← holding [v] (eval (.Name x p1) X.env)
      let iv ← holding [v, ov] (eval a X.env)
      standAt p2
      holding [v, ov, iv] (setItem ov iv v)
      release [v, ov, iv] []) := by intro _; rfl)
    (hs : swapsWithSole [.Subscript (.Name x p1) a p2] e pos.line X.env = pure false := by rfl) (hw : swappedStores [.Subscript (.Name x p1) a p2] e X.env = pure none := by rfl)
    (h1 : (assignEach [.Subscript (.Name x p1) a p2] X.env).map (·.2) = [assign (.Subscript (.Name x p1) a p2) X.env] := by rfl) :
    DSt X C O O (.Assign [.Subscript (.Name x p1) a p2] e pos) (dSetIx i ge fe) :=
  PSw (ps_asg he (pg_sub (pe_var hi hv hd hcd) hk set_list ha) hs hw h1) fun Z σ H ⟨F0, H0, F, ρ, r, S, hf, k⟩ => by
    obtain ⟨d, e1, e2⟩ := bind_some hf
    obtain ⟨j, e3, e4⟩ := bind_some e2
    obtain ⟨n, e5, e6⟩ := bind_some e4
    obtain ⟨y, e7, e8⟩ := bind_some e6
    obtain ⟨ds, e9, e10⟩ := bind_some e8
    obtain ⟨m, e11, e12⟩ := bind_some e10
    obtain rfl := asI_some e5
    obtain rfl := asL_some e9
    cases e12
    obtain ⟨p, vs, ds2, g1, g2, g3, g4, g5⟩ := S.en.ow i _ hO e7
    cases g2
    refine ⟨F, ρ, d, S.en, e1, fun v F1 H1 s1 r1 => ⟨.ref p, g1, F1, ρ, _, S.en.step s1, e3, fun u F2 H2 s2 r2 => ?_⟩⟩
    have s12 := s1.trans s2
    have hl : RpL X.K C F2 (ds.set m d) (vs.set m v) := RpL.set m (RpL.mono s12.ff _ _ g5) (Rp.mono s2.ff _ _ r1)
    refine ⟨p, vs, n, m, rfl, r2, s12.hh _ _ g3, ?_, k σ F2 _ ((S.step s12).mut hO e7 g1 hl) s12.ff⟩
    rw [← g5.len, ← ixNat_eq]
    exact e11
/-- x[k], len(x) of a list of one's own -/
theorem de_ownIx (i : Nat) {x : Str} {p1 : Pos} (hk : DE X C O a ge) (hi : X.N[i]? = some x := by rfl) (hv : Vis X.env.scope x := by first | exact Or.inl rfl | exact Or.inr (Or.inl rfl) | exact Or.inr (Or.inr rfl)) (hO : i ∈ O := by decide)
    (hd : (x == ("__debug__" : Str)) = false := by decide) (hcd : (x == ("__classdict__" : Str)) = false := by decide) (hs : PlainIx a := by exact fun _ _ => rfl) : DE X C O (.Subscript (.Name x p1) a pos) (d2 opIx (dv i) ge) :=
  PEw (pe_ix ix_list (pe_var hi hv hd hcd) hk hs) fun σ H Q ⟨F, ρ, d, E, hf, k⟩ => by
    obtain ⟨y, e1, e2⟩ := bind_some hf
    obtain ⟨j, e3, e4⟩ := bind_some e2
    obtain ⟨p, vs, ds, g1, g2, g3, g4, g5⟩ := E.ow i _ hO e1
    subst g2
    refine ⟨.ref p, g1, F, ρ, j, E, e3, fun v F1 H1 s1 r1 => ?_⟩
    cases j <;> first | (cases e4; done) | skip
    obtain ⟨m, e5, e6⟩ := bind_some e4
    obtain ⟨u, h1, h2⟩ := RpL.get g5 e6
    refine ⟨p, vs, _, u, rfl, r1, SqL.of (s1.hh _ _ g3), ?_, k _ F1 H1 s1 (Rp.mono s1.ff _ _ h2)⟩
    unfold atI
    rw [← g5.len, ← ixNat_eq, e5]
    exact h1
/-- a, b = e1, e2: lists of one's own on the right -/
theorem par_rd1 {K : PySem.W.Frag} {F0 H0 F H F1 H1 F2 H2 : Hp} {σ : L2.St} {ρ : Rho} {i j : Nat} {p : Addr} {ds : List D} {vs : List V} {d : D} {v : V} (S : Sn K C O F0 H0 F H σ ρ) (s1 : Stp F H F1 H1) (hp : H1 p = none) (r1 : RpL K C F1 ds vs) (s2 : Stp F1 (upd H1 p (.lst vs)) F2 H2)
    (r2 : Rp K C F2 d v) (hi : i ∉ O) (hj : j ∉ O) (hij : i ≠ j) : Sn K C (i :: O) F0 H0 F2 H2 ((σ.set i (some (.ref p))).set j (some v)) (st (st ρ i (.lst ds)) j d) := by
  have S1 := (S.step s1).own (i := i) hi hp r1
  refine (S1.step s2).set (fun z => ?_) r2
  rcases List.mem_cons.mp z with z | z
  · exact hij z.symm
  · exact hj z
theorem ds_parN1 (i j : Nat) {x y : Str} {px py pt : Pos} {kt k2 : Nat} {pt2 : Pos} (hc : X.calm = true) (hN : X.N.Nodup) (ha : DN X C O a fs) (hb : DE X C O b ge) (hi : X.N[i]? = some x := by rfl) (hj : X.N[j]? = some y := by rfl) (hij : i ≠ j := by decide)
    (hx : X.env.scope.names.lookup x = some .local := by rfl) (hy : X.env.scope.names.lookup y = some .local := by rfl) (hO : i ∉ O := by decide) (hO2 : j ∉ O := by decide)
    (hw : swappedStores [.Tuple [.Name x px, .Name y py] kt pt] (.Tuple [a, b] k2 pt2) X.env = pure (some [x, y]) := by rfl)
    (hs : swapsWithSole [.Tuple [.Name x px, .Name y py] kt pt] (.Tuple [a, b] k2 pt2) pos.line X.env = pure false := by rfl)
    (h1 : starEach [a, b] X.env = (false, eval a X.env) :: starEach [b] X.env := by rfl) (h2 : starEach [b] X.env = (false, eval b X.env) :: starEach [] X.env := by rfl) :
    DSt X C O (i :: O) (.Assign [.Tuple [.Name x px, .Name y py] kt pt] (.Tuple [a, b] k2 pt2) pos) (dParN1 i j fs ge) := PSw (ps_par hc hN hi hj hij hx hy (pa_cons ha (pa_cons hb pa_nil h2) h1) hw hs) fun Z σ H ⟨F0, H0, F, ρ, r, S, hf, k⟩ => by
  obtain ⟨ds, e1, e2⟩ := bind_some hf
  obtain ⟨d', e3, e4⟩ := bind_some e2
  cases e4
  exact ⟨F, ρ, ds, S.en, e1, fun p vs F1 H1 s1 hp r1 => ⟨F1, ρ, d', S.en.step (s1.trans (Stp.own s1.fh hp)), e3, fun v2 F2 H2 s2 r2 => ⟨.ref p, v2, rfl, k _ F2 H2 (par_rd1 S s1 hp r1 s2 r2 hO hO2 hij) (s1.ff.trans s2.ff)⟩⟩⟩
theorem par_rdN {K : PySem.W.Frag} {F0 H0 F H F1 H1 F2 H2 : Hp} {σ : L2.St} {ρ : Rho} {i j : Nat} {p q : Addr} {ds es : List D} {vs us : List V} (S : Sn K C O F0 H0 F H σ ρ) (s1 : Stp F H F1 H1) (hp : H1 p = none) (r1 : RpL K C F1 ds vs) (s2 : Stp F1 (upd H1 p (.lst vs)) F2 H2)
    (hq : H2 q = none) (r2 : RpL K C F2 es us) (hi : i ∉ O) (hj : j ∉ O) (hij : i ≠ j) : Sn K C (j :: i :: O) F0 H0 F2 (upd H2 q (.lst us)) ((σ.set i (some (.ref p))).set j (some (.ref q))) (st (st ρ i (.lst ds)) j (.lst es)) := by
  have S1 := (S.step s1).own (i := i) hi hp r1
  refine (S1.step s2).own (fun z => ?_) hq r2
  rcases List.mem_cons.mp z with z | z
  · exact hij z.symm
  · exact hj z
theorem ds_parNN (i j : Nat) {x y : Str} {px py pt : Pos} {kt k2 : Nat} {pt2 : Pos} (hc : X.calm = true) (hN : X.N.Nodup) (ha : DN X C O a fs) (hb : DN X C O b gs) (hi : X.N[i]? = some x := by rfl) (hj : X.N[j]? = some y := by rfl) (hij : i ≠ j := by decide)
    (hx : X.env.scope.names.lookup x = some .local := by rfl) (hy : X.env.scope.names.lookup y = some .local := by rfl) (hO : i ∉ O := by decide) (hO2 : j ∉ O := by decide)
    (hw : swappedStores [.Tuple [.Name x px, .Name y py] kt pt] (.Tuple [a, b] k2 pt2) X.env = pure (some [x, y]) := by rfl)
    (hs : swapsWithSole [.Tuple [.Name x px, .Name y py] kt pt] (.Tuple [a, b] k2 pt2) pos.line X.env = pure false := by rfl)
    (h1 : starEach [a, b] X.env = (false, eval a X.env) :: starEach [b] X.env := by rfl) (h2 : starEach [b] X.env = (false, eval b X.env) :: starEach [] X.env := by rfl) :
    DSt X C O (j :: i :: O) (.Assign [.Tuple [.Name x px, .Name y py] kt pt] (.Tuple [a, b] k2 pt2) pos) (dParNN i j fs gs) := PSw (ps_par hc hN hi hj hij hx hy (pa_cons ha (pa_cons hb pa_nil h2) h1) hw hs) fun Z σ H ⟨F0, H0, F, ρ, r, S, hf, k⟩ => by
  obtain ⟨ds, e1, e2⟩ := bind_some hf
  obtain ⟨d', e3, e4⟩ := bind_some e2
  cases e4
  exact ⟨F, ρ, ds, S.en, e1, fun p vs F1 H1 s1 hp r1 => ⟨F1, ρ, d', S.en.step (s1.trans (Stp.own s1.fh hp)), e3, fun q us F2 H2 s2 hq r2 => ⟨.ref p, .ref q, rfl, k _ F2 _ (par_rdN S s1 hp r1 s2 hq r2 hO hO2 hij) (s1.ff.trans s2.ff)⟩⟩⟩
/-- y = [..] on one line -/
theorem ds_setLc (i : Nat) {y : Str} {py : Pos} {elt tg iter : Expr} {ifs : List Expr} {scope : Scope} {own : List (Str × Nat)} {pos spos : Pos} {it : DFs} {gg : DG} {tt : DB} {ee : DF} {ws : List Nat} (hc : X.calm = true) (hN : X.N.Nodup)
    (hi : DI X C O tg iter it) (ok : BlkOk X.N X.env.scope scope own)
    (hg : ∀ (s : Shared) (H : Hp) (D : Addr) (cl : List (Str × Addr)) (fp : List Addr), DTg (X.blk s H scope (compEnvC scope cl D X.env) fp) C O ws tg gg) (ht : ∀ (s : Shared) (H : Hp) (D : Addr) (cl : List (Str × Addr)) (fp : List Addr), DTs (X.blk s H scope (compEnvC scope cl D X.env) fp) C O ifs tt)
    (he : ∀ (s : Shared) (H : Hp) (D : Addr) (cl : List (Str × Addr)) (fp : List Addr), DE (X.blk s H scope (compEnvC scope cl D X.env) fp) C O elt ee)
    (hy : X.N[i]? = some y := by rfl) (hyl : X.env.scope.names.lookup y = some .local := by rfl)
    (hsw : swapsWith (.ListComp elt [⟨tg, iter, ifs, 0⟩] scope pos) (some (.Name y py)) spos.line X.env = pure true := by exact sw_true rfl rfl rfl (by decide +kernel)) (hO : i ∉ O := by decide)
    (hv : ∀ i ∈ ws, i ∈ own.map (·.2) := by decide) (hs : ∀ x, foldedSetIterable iter X.env x = pure x := by intro _; rfl) :
    DSt X C O O (.Assign [.Name y py] (.ListComp elt [⟨tg, iter, ifs, 0⟩] scope pos) spos) (dSet i (dComp it gg tt ee (own.map (·.2)))) := PSw (ps_setLc hc hN hy hyl hsw hi ok hg ht he hs) fun Z σ H hw => by
  obtain ⟨F0, H0, F, ρ, r, S, hf, k⟩ := hw
  obtain ⟨d, e1, e2⟩ := bind_some hf
  cases e2
  exact comp_rd hv ⟨F, ρ, d, S.en, e1, fun v F1 H1 s1 r1 => k _ F1 H1 ((S.step s1).set hO r1) s1.ff⟩
end
def runD (n a : Nat) (f : DS) : List D → Option D := fun ds => if ds.length = a then (f (ds.map some ++ List.replicate (n - a) none)).bind fun r => match r with
  | .rt d => some d
  | .nx _ => some .non else none
theorem lk_app : ∀ {ds : List D} {r : Nat} {i : Nat} {d : D}, lk (ds.map some ++ List.replicate r none) i = some d → ds[i]? = some d
  | [], r, i, d, h => by
    exfalso
    have z : ∀ (r i : Nat), lk (List.replicate r none) i = none := by
      intro r
      induction r with
      | zero => intro i; rfl
      | succ r ih =>
        intro i
        cases i with
        | zero => rfl
        | succ i => exact ih i
    have h' : lk (List.replicate r none) i = some d := h
    rw [z] at h'
    cases h'
  | x :: ds, r, 0, d, h => h
  | x :: ds, r, i + 1, d, h => by
    rw [List.getElem?_cons_succ]
    exact lk_app (ds := ds) h
theorem start_get : ∀ {vs : List V} {r : List (Option V)} {i : Nat} {v : V}, vs[i]? = some v → (vs.map some ++ r)[i]? = some (some v)
  | [], r, i, v, h => by simp at h
  | x :: vs, r, 0, v, h => by
    have e : x = v := by simpa using h
    subst e
    rfl
  | x :: vs, r, i + 1, v, h => by
    rw [List.getElem?_cons_succ] at h
    show ((some x :: (vs.map some ++ r)))[i + 1]? = _
    rw [List.getElem?_cons_succ]
    exact start_get h
section
variable {P : Program} {w : World} {K : PySem.W.Frag} {mg : Str → Option Value} {base : Heap} {C : Addr}
/-- THE RULE for a pure def -/
theorem fnD {x qual : Str} {st : Stmt} {f : Addr} {fd : FuncData} {N ps : List Str} {k : Nat} {O' : List Nat} {body : DS} (F : Fun K x qual st f fd) (S : FnScope N ps (defScope st)) (hl : ps.length ≤ N.length)
    (h : ∀ (cdv : Value) (A : Around) (outer : List Env) (s : Shared) (H : Hp) (E : XK), Room k (A.deeper (envOfC qual (defScope st) s.heap.objs.size f cdv)) → DSs ((cxOf CX0 P w K mg base N qual (defScope st) f cdv A outer s H E).nox) C [] O' (defBody st) body) :
    FnOk P w K mg base CX0 (k + 1) f fd ps (spD K C (runD N.length ps.length body)) := by
  have ln : ∀ vs H Q E, spD K C (runD N.length ps.length body) vs H Q E → vs.length = ps.length := fun vs H Q E ⟨F, ds, d, fh, r, hm, _⟩ => by
    unfold runD at hm
    split at hm
    · rename_i hz
      rw [← r.len]
      exact hz
    · cases hm
  refine F.ok S ln fun cdv A outer s H vs Q E hr hsp => ⟨_, h cdv A outer s H E hr, ?_⟩
  have lv := ln vs H Q E hsp
  obtain ⟨F1, ds, d, fh, r, hm, g⟩ := hsp
  unfold runD at hm
  split at hm
  · rename_i hz
    obtain ⟨r1, e1, e2⟩ := bind_some hm
    refine ⟨F1, H, F1, _, r1, ⟨⟨fh, ?_, fun i d hi q => ?_, fun i d hi _ => absurd hi (List.not_mem_nil), fun i j d e p hi _ _ _ _ _ => absurd hi (List.not_mem_nil)⟩, Stp.refl fh, fun i d p hi _ _ => absurd hi (List.not_mem_nil)⟩, e1, ?_⟩
    · unfold L2.start
      rw [List.length_append, List.length_append, List.length_map, List.length_map, List.length_replicate, List.length_replicate, lv, hz]
    · have q1 := lk_app q
      obtain ⟨v, h1, h2⟩ := RpL.get r q1
      exact ⟨v, start_get h1, h2⟩
    · cases r1 with
      | nx ρ' =>
        cases e2
        exact fun σ' F' H' S' _ => g .non F' H' S'.sp rfl
      | rt d' =>
        cases e2
        exact fun v F' H' s' r' => g v F' H' s' r'
  · cases hm
end
end DL
namespace DL
open PySem PySem.Spec PyProof.Rows L2
theorem hu65 {k : Nat} {A : Around} (hr : Room k A) : A.units + 65 < cLine := by have := hr.un; omega
theorem bt_len : bootBuiltins "len" = some (.builtin "len") := by decide +kernel
theorem bt_sorted : bootBuiltins "sorted" = some (.builtin "sorted") := by decide +kernel
theorem bt_all : bootBuiltins "all" = some (.builtin "all") := by decide +kernel
theorem bt_tuple : bootBuiltins "tuple" = some (.type "tuple") := by decide +kernel
def compL2 (g : DG) (it2 : DFs) (g2 : DG) (t : DB) (e : DF) (vs1 : List Nat) (ρ : Rho) : List D → Option (List D)
  | [] => some []
  | d :: ds => (g d ρ).bind fun ρ1 => (it2 ρ1).bind fun es => (compL g2 t e (wipeR ρ1 vs1) es).bind fun r => (compL2 g it2 g2 t e vs1 ρ ds).bind fun q => some (r ++ q)
def dComp2 (it : DFs) (g : DG) (it2 : DFs) (g2 : DG) (t : DB) (e : DF) (vs vs1 : List Nat) : DF := fun ρ => (it ρ).bind fun ds => (compL2 g it2 g2 t e vs1 (wipeR ρ vs) ds).bind lstOk
theorem En.mono0 {K : PySem.W.Frag} {C : Addr} {F F' H H' : Hp} {σ : L2.St} {ρ : Rho} (h : En K C [] F H σ ρ) (s : Same F F') (fh : Same F' H') : En K C [] F' H' σ ρ where
  fh := fh
  len := h.len
  pl := fun i d hi e => by
    obtain ⟨v, h1, h2⟩ := h.pl i d hi e
    exact ⟨v, h1, Rp.mono s d v h2⟩
  ow := fun i d hi => absurd hi (List.not_mem_nil)
  ap := fun i j d e p hi => absurd hi (List.not_mem_nil)
section
variable {X : Cx} {C : Addr}
def CW2 (K : PySem.W.Frag) (C : Addr) (F0 H0 : Hp) (Rst : Nat → Option (List D)) (n : Nat) (rs : List D) (Dl : Addr) (i m : Nat) (H : Hp) : Prop :=
  m = n - i ∧ i ≤ n ∧ ∃ F acc racc rest, Stp F0 H0 F H ∧ H Dl = some (.lst acc) ∧ F Dl = none ∧ RpL K C F racc acc ∧ Rst i = some rest ∧ rs = racc ++ rest
theorem comp2_rd {K : PySem.W.Frag} {it it2 : DFs} {g g2 : DG} {t : DB} {e : DF} {ws ws1 vs vs1 : List Nat} {σ : L2.St} {H : Hp} {Q : VK} (hs : ∀ i ∈ ws, i ∈ vs) (hs1 : ∀ i ∈ ws1, i ∈ vs1) (hw : tD K C [] (dComp2 it g it2 g2 t e vs vs1) σ H Q) :
    tLc2 (tDI K C [] it) (tDG K C [] ws g) (fun _ H Q => Q true H) (tDI K C [] it2) (tDG K C [] ws1 g2) (tDT K C [] t) (tD K C [] e) vs vs1 σ H Q := by
  obtain ⟨F, ρ, d, E, hf, k⟩ := hw
  obtain ⟨ds, h1, hf1⟩ := bind_some hf
  obtain ⟨rs, h2, hf2⟩ := bind_some hf1
  clear hf hf1
  unfold lstOk at hf2
  split at hf2
  · rename_i hz
    cases hf2
    refine ⟨F, ρ, ds, E, h1, fun J F1 H1 s1 jd Dl hD => ?_⟩
    have E1 : En K C [] F1 H1 (wipe σ vs) (wipeR ρ vs) := (E.step s1).wipe vs
    refine ⟨CW2 K C F1 H1 (fun i => compL2 g it2 g2 t e vs1 (wipeR ρ vs) (ds.drop i)) ds.length rs Dl, ⟨ds.length, rfl, Nat.zero_le _, F1, [], [], rs, Stp.own s1.fh hD, upd_same, none_of_same s1.fh hD, RpL.nil, h2, rfl⟩, fun i m H2 hW => ?_⟩
    obtain ⟨rfl, hi, F2, acc, racc, rest, s2, hH, hF, hR, hc, he⟩ := hW
    by_cases hlt : i < ds.length
    · right
      obtain ⟨_, jg⟩ := jd i F2 H2 s2.ff s2.fh
      obtain ⟨go, yl⟩ := jg ds[i] (List.getElem?_eq_getElem hlt)
      dsimp only at hc
      rw [List.drop_eq_getElem_cons hlt] at hc
      unfold compL2 at hc
      obtain ⟨ρ1, c1, hc1⟩ := bind_some hc
      obtain ⟨es, c2, hc2⟩ := bind_some hc1
      obtain ⟨rin, c3, hc3⟩ := bind_some hc2
      obtain ⟨rout, c4, hc4⟩ := bind_some hc3
      clear hc hc1 hc2 hc3
      cases hc4
      refine ⟨go, CW2 K C F1 H1 (fun i => compL2 g it2 g2 t e vs1 (wipeR ρ vs) (ds.drop i)) ds.length rs Dl (i + 1) (ds.length - (i + 1)), fun H' hN => ⟨_, by omega, hN⟩, fun x H3 y => ?_⟩
      obtain ⟨F3, s3, r3⟩ := yl x H3 y
      have s13 := s2.trans s3
      refine ⟨F3, wipeR ρ vs, ds[i], ρ1, E1.step s13, r3, c1, fun σ4 E4 bar _ => ⟨wipe_bar bar hs, ?_⟩⟩
      dsimp only
      rw [if_pos rfl]
      refine ⟨F3, ρ1, es, E4, c2, fun J1 F5 H5 s5 jd1 => ?_⟩
      have s15 := s13.trans s5
      have sD := s3.trans s5
      have E5 : En K C [] F5 H5 (wipe σ4 vs1) (wipeR ρ1 vs1) := (E4.step s5).wipe vs1
      have hlen0 : rs.length ≤ 16777216 := hz
      have e0 : rs = racc ++ (rin ++ rout) := he
      refine ⟨fun j m H => m = es.length - j ∧ j ≤ es.length ∧ ∃ F acc racc' rest, Stp F1 H1 F H ∧ Same F5 F ∧ H Dl = some (.lst acc) ∧ F Dl = none ∧ RpL K C F racc' acc ∧ compL g2 t e (wipeR ρ1 vs1) (es.drop j) = some rest ∧ rs = racc' ++ (rest ++ rout),
        ⟨es.length, rfl, Nat.zero_le _, F5, acc, racc, rin, s15, Same.refl _, sD.hh _ _ hH, (sD.old _ _ hH).trans hF, RpL.mono sD.ff _ _ hR, c3, e0⟩, fun j kk H6 hW => ?_⟩
      obtain ⟨rfl, hj, F6, acc6, racc6, rest6, s16, s56, hH6, hF6, hR6, hc6, he6⟩ := hW
      have E6 := E5.mono0 s56 s16.fh
      by_cases hltj : j < es.length
      · right
        obtain ⟨_, jg1⟩ := jd1 j F6 H6 s56 s16.fh
        obtain ⟨go1, yl1⟩ := jg1 es[j] (List.getElem?_eq_getElem hltj)
        rw [List.drop_eq_getElem_cons hltj] at hc6
        unfold compL at hc6
        obtain ⟨ρ7, c7, hc7⟩ := bind_some hc6
        obtain ⟨b, c8, hc8⟩ := bind_some hc7
        clear hc6 hc7
        refine ⟨go1, fun H => (es.length - (j + 1)) = es.length - (j + 1) ∧ j + 1 ≤ es.length ∧ ∃ F acc racc' rest, Stp F1 H1 F H ∧ Same F5 F ∧ H Dl = some (.lst acc) ∧ F Dl = none ∧ RpL K C F racc' acc ∧ compL g2 t e (wipeR ρ1 vs1) (es.drop (j + 1)) = some rest ∧ rs = racc' ++ (rest ++ rout), fun H' hN => ⟨_, by omega, hN⟩, fun x7 H7 y7 => ?_⟩
        obtain ⟨F7, s7, r7⟩ := yl1 x7 H7 y7
        refine ⟨F7, wipeR ρ1 vs1, es[j], ρ7, E6.step s7, r7, c7, fun σ8 E8 bar8 _ => ⟨wipe_bar bar8 hs1, F7, ρ7, b, E8, c8, fun F9 H9 s9 => ?_⟩⟩
        have s79 := s7.trans s9
        have s19 := s16.trans s79
        cases b with
        | true =>
          dsimp only
          rw [if_pos rfl] at hc8 ⊢
          obtain ⟨z, c9, hc9⟩ := bind_some hc8
          obtain ⟨rest', c10, hc10⟩ := bind_some hc9
          cases hc10
          refine ⟨F9, ρ7, z, E8.step s9, c9, fun v Fa Ha sa ra => ?_⟩
          have s1a := s19.trans sa
          have s6a := s79.trans sa
          have hlen := hR6.len
          have hl2 : acc6.length < 16777216 := by
            rw [he6, List.length_append, List.length_append, List.length_cons] at hz
            omega
          have hFn : Fa Dl = none := (s6a.old _ _ hH6).trans hF6
          refine ⟨acc6, s6a.hh _ _ hH6, Nat.lt_of_lt_of_le hl2 (szl_ok (Nat.le_refl _)), rfl, hltj, Fa, acc6 ++ [v], racc6 ++ [z], rest', ⟨s1a.ff, fun a o q => ?_, fun a o q => ?_, s1a.old⟩, s56.trans s6a.ff, upd_same, hFn, RpL.append (RpL.mono s6a.ff _ _ hR6) (RpL.one ra), c10, by rw [he6, List.append_assoc]; rfl⟩
          · rw [upd_ne (ne_of_none q hD)]
            exact s1a.hh a o q
          · rw [upd_ne (ne_of_none q hFn)]
            exact s1a.fh a o q
        | false =>
          dsimp only
          rw [if_neg Bool.false_ne_true] at hc8 ⊢
          exact ⟨rfl, hltj, F9, acc6, racc6, rest6, s19, s56.trans s79.ff, s79.hh _ _ hH6, (s79.old _ _ hH6).trans hF6, RpL.mono s79.ff _ _ hR6, hc8, he6⟩
      · left
        have ej : j = es.length := by omega
        subst ej
        obtain ⟨js1, _⟩ := jd1 es.length F6 H6 s56 s16.fh
        rw [List.drop_length] at hc6
        cases hc6
        exact ⟨js1 rfl, rfl, hlt, F6, acc6, racc6, rout, s16, hH6, hF6, hR6, c4, he6⟩
    · left
      have ei : i = ds.length := by omega
      subst ei
      obtain ⟨js, _⟩ := jd ds.length F2 H2 s2.ff s2.fh
      refine ⟨js rfl, ?_⟩
      dsimp only at hc
      rw [List.drop_length] at hc
      cases hc
      rw [List.append_nil] at he
      subst he
      have sF : Same F2 (upd F2 Dl (.lst acc)) := same_upd hF
      refine k _ (upd F2 Dl (.lst acc)) H2 (s1.trans ⟨s2.ff.trans sF, s2.hh, fun a o q => ?_, fun a o q => ?_⟩) ⟨Dl, acc, rfl, upd_same, RpL.mono sF _ _ hR⟩
      · by_cases ha : a = Dl
        · subst ha
          rw [upd_same] at q
          rw [← q]
          exact hH
        · rw [upd_ne ha] at q
          exact s2.fh a o q
      · rw [upd_ne (ne_of_none q hD)]
        exact s2.old a o q
  · cases hf2
variable {elt tg iter tg1 iter1 : Expr} {ifs1 : List Expr} {scope : Scope} {pos : Pos} {it it2 : DFs} {g g2 : DG} {t : DB} {e : DF} {ws ws1 : List Nat}
def RetOnly (f : DS) : Prop := ∀ ρ ρ', f ρ ≠ some (.nx ρ')
theorem ro_ret {f : DF} : RetOnly (dRet f) := fun ρ ρ' h => by
  obtain ⟨d, _, e⟩ := bind_some h
  cases e
theorem ro_seq {f h : DS} (r : RetOnly h) : RetOnly (dSeq f h) := fun ρ ρ' q => by
  obtain ⟨x, _, e⟩ := bind_some q
  cases x with
  | nx ρ1 => exact r ρ1 ρ' e
  | rt d => cases e
end
end DL
namespace DL
open PySem PySem.Spec PyProof.Rows L2
def isSc : D → Bool
  | .non => true
  | .bl _ => true
  | .int _ => true
  | .str _ => true
  | _ => false
theorem Rp.sc {K : PySem.W.Frag} {C : Addr} {F F' : Hp} {d : D} {v : V} (h : Rp K C F d v) (s : isSc d = true) : Rp K C F' d v := by
  cases d <;> first | exact h | cases s
theorem RpL.ofGet {K : PySem.W.Frag} {C : Addr} {F : Hp} : ∀ {ds : List D} {vs : List V}, ds.length = vs.length → (∀ (j : Nat) (d : D) (v : V), ds[j]? = some d → vs[j]? = some v → Rp K C F d v) → RpL K C F ds vs
  | [], vs, hl, _ => List.eq_nil_of_length_eq_zero hl.symm
  | d :: ds, vs, hl, h => by
    cases vs with
    | nil => cases hl
    | cons v vs => exact RpL.cons (h 0 d v rfl rfl) (RpL.ofGet (by simpa using hl) fun j d' v' h1 h2 => h (j + 1) d' v' (by simpa using h1) (by simpa using h2))
structure Nst (K : PySem.W.Frag) (C : Addr) (H0 F H : Hp) (p : Addr) (qs : List Addr) (dss : List (List D)) : Prop where
  hp : H p = some (.lst (qs.map V.ref))
  fp : F p = none
  h0 : H0 p = none
  ln : qs.length = dss.length
  at_ : ∀ (j : Nat) (q : Addr) (ds : List D), qs[j]? = some q → dss[j]? = some ds → ∃ vs, H q = some (.lst vs) ∧ F q = none ∧ H0 q = none ∧ RpL K C F ds vs
  nd : ∀ (j k : Nat) (q : Addr), qs[j]? = some q → qs[k]? = some q → j = k
  np : p ∉ qs
structure Sn2 (K : PySem.W.Frag) (C : Addr) (i : Nat) (F0 H0 F H : Hp) (σ : L2.St) (ρ : Rho) : Prop where
  en : En K C [] F H σ (un ρ i)
  sp : Stp F0 H0 F H
  ns : ∃ p qs dss, lk ρ i = some (.lst (dss.map D.lst)) ∧ σ[i]? = some (some (.ref p)) ∧ Nst K C H0 F H p qs dss
section
variable {K : PySem.W.Frag} {C : Addr} {i : Nat} {F0 H0 F H F' H' : Hp} {σ : L2.St} {ρ : Rho}
/-- all is frozen -/
theorem Sn2.freeze (S : Sn2 K C i F0 H0 F H σ ρ) : ∃ F', Same F F' ∧ Sn K C [] F0 H0 F' H σ ρ := by
  obtain ⟨p, qs, dss, e1, e2, N⟩ := S.ns
  have memq : ∀ {q : Addr}, q ∈ qs → ∃ vs ds j, qs[j]? = some q ∧ dss[j]? = some ds ∧ H q = some (.lst vs) ∧ F q = none ∧ H0 q = none ∧ RpL K C F ds vs := fun {q} hq => by
    obtain ⟨j, hj, rfl⟩ := List.getElem_of_mem hq
    have hj2 : j < dss.length := by rw [← N.ln]; exact hj
    obtain ⟨vs, h1, h2, h3, h4⟩ := N.at_ j qs[j] dss[j] (List.getElem?_eq_getElem hj) (List.getElem?_eq_getElem hj2)
    exact ⟨vs, dss[j], j, List.getElem?_eq_getElem hj, List.getElem?_eq_getElem hj2, h1, h2, h3, h4⟩
  let G : Hp := fun a => if a = p ∨ a ∈ qs then H a else F a
  have gin : ∀ {a}, (a = p ∨ a ∈ qs) → G a = H a := fun {a} h => if_pos h
  have gout : ∀ {a}, ¬ (a = p ∨ a ∈ qs) → G a = F a := fun {a} h => if_neg h
  have fin : ∀ {a}, (a = p ∨ a ∈ qs) → F a = none := fun {a} h => by
    rcases h with rfl | h
    · exact N.fp
    · obtain ⟨_, _, _, _, _, _, hf, _⟩ := memq h
      exact hf
  have hin : ∀ {a}, (a = p ∨ a ∈ qs) → H0 a = none := fun {a} h => by
    rcases h with rfl | h
    · exact N.h0
    · obtain ⟨_, _, _, _, _, _, _, hf, _⟩ := memq h
      exact hf
  have sm : Same F G := fun a o e => by
    have hn : ¬ (a = p ∨ a ∈ qs) := fun h => by rw [fin h] at e; cases e
    rw [gout hn]
    exact e
  have gh : Same G H := fun a o e => by
    by_cases h : a = p ∨ a ∈ qs
    · rw [gin h] at e
      exact e
    · rw [gout h] at e
      exact S.en.fh a o e
  refine ⟨G, sm, ⟨gh, ?_, fun j d hj q => ?_, fun j d hj => absurd hj List.not_mem_nil, fun j k d e p hj => absurd hj List.not_mem_nil⟩, ⟨S.sp.ff.trans sm, S.sp.hh, gh, fun a o e => ?_⟩, fun j d p hj => absurd hj List.not_mem_nil⟩
  · rw [S.en.len, un_len]
  · by_cases hji : j = i
    · subst hji
      rw [e1] at q
      cases q
      refine ⟨.ref p, e2, p, _, rfl, (gin (.inl rfl)).trans N.hp, RpL.ofGet (by rw [List.length_map, List.length_map, N.ln]) fun j d v h1 h2 => ?_⟩
      rw [List.getElem?_map] at h1 h2
      obtain ⟨ds, g1, rfl⟩ := Option.map_eq_some_iff.mp h1
      obtain ⟨q, g2, rfl⟩ := Option.map_eq_some_iff.mp h2
      obtain ⟨vs, g3, g4, g5, g6⟩ := N.at_ j q ds g2 g1
      exact ⟨q, vs, rfl, (gin (.inr (List.mem_of_getElem? g2))).trans g3, RpL.mono sm _ _ g6⟩
    · have q' : lk (un ρ i) j = some d := by rw [lk_un_ne hji]; exact q
      obtain ⟨v, h1, h2⟩ := S.en.pl j d List.not_mem_nil q'
      exact ⟨v, h1, Rp.mono sm _ _ h2⟩
  · have hn : ¬ (a = p ∨ a ∈ qs) := fun h => by rw [hin h] at e; cases e
    rw [gout hn]
    exact S.sp.old a o e
/-- what was evaluated meanwhile leaves it as it is -/
theorem Sn2.step (S : Sn2 K C i F0 H0 F H σ ρ) (hh : Same H H') : Sn2 K C i F0 H0 F H' σ ρ := by
  obtain ⟨p, qs, dss, e1, e2, N⟩ := S.ns
  have st : Stp F H F H' := ⟨Same.refl _, hh, S.en.fh.trans hh, fun _ _ _ => rfl⟩
  refine ⟨S.en.step st, S.sp.trans st, p, qs, dss, e1, e2, ⟨hh _ _ N.hp, N.fp, N.h0, N.ln, fun j q ds h1 h2 => ?_, N.nd, N.np⟩⟩
  obtain ⟨vs, g1, g2⟩ := N.at_ j q ds h1 h2
  exact ⟨vs, hh _ _ g1, g2⟩
theorem un_st_ne : ∀ {ρ : Rho} {i j : Nat} {d : D}, j ≠ i → un (st ρ j d) i = st (un ρ i) j d
  | [], _, _, _, _ => rfl
  | _ :: _, 0, 0, _, h => absurd rfl h
  | _ :: _, 0, j + 1, _, _ => rfl
  | _ :: _, i + 1, 0, _, _ => rfl
  | x :: r, i + 1, j + 1, d, h => by
    show x :: un (st r j d) i = x :: st (un r i) j d
    rw [un_st_ne fun z => h (by rw [z])]
theorem un_st_same : ∀ {ρ : Rho} {i : Nat} {d : D}, un (st ρ i d) i = un ρ i
  | [], _, _ => rfl
  | _ :: _, 0, _ => rfl
  | x :: r, i + 1, d => by
    show x :: un (st r i d) i = x :: un r i
    rw [un_st_same]
theorem lk_st_eq : ∀ {ρ : Rho} {i : Nat} {d : D}, i < ρ.length → lk (st ρ i d) i = some d
  | [], _, _, h => by cases h
  | _ :: _, 0, _, _ => rfl
  | x :: r, i + 1, d, h => lk_st_eq (ρ := r) (i := i) (by simpa using h)
/-- a scalar is stored -/
theorem Sn2.set {j : Nat} {d : D} {v : V} (S : Sn2 K C i F0 H0 F H σ ρ) (hj : j ≠ i) (r : Rp K C F d v) : Sn2 K C i F0 H0 F H (σ.set j (some v)) (st ρ j d) := by
  obtain ⟨p, qs, dss, e1, e2, N⟩ := S.ns
  refine ⟨?_, S.sp, p, qs, dss, ?_, ?_, N⟩
  · rw [un_st_ne hj]
    exact S.en.set List.not_mem_nil r
  · rw [lk_st_ne (Ne.symm hj)]
    exact e1
  · rw [List.getElem?_set_ne hj]
    exact e2
/-- a scalar is stored within -/
theorem Sn2.put {d : D} {v : V} {p : Addr} {qs : List Addr} {dss : List (List D)} {m1 m2 : Nat} {q : Addr} {ys : List D} {vs : List V} (S : Sn2 K C i F0 H0 F H σ ρ) (e1 : lk ρ i = some (.lst (dss.map D.lst))) (e2 : σ[i]? = some (some (.ref p))) (N : Nst K C H0 F H p qs dss) (r : Rp K C F d v)
    (h1 : qs[m1]? = some q) (h2 : dss[m1]? = some ys) (hq : H q = some (.lst vs)) : Sn2 K C i F0 H0 F (upd H q (.lst (vs.set m2 v))) σ (st ρ i (.lst ((dss.set m1 (ys.set m2 d)).map D.lst))) := by
  obtain ⟨vs', g1, g2, g3, g4⟩ := N.at_ m1 q ys h1 h2
  rw [hq] at g1
  cases g1
  have qp : p ≠ q := fun z => N.np (z ▸ List.mem_of_getElem? h1)
  have hi := lk_lt e1
  refine ⟨?_, ⟨S.sp.ff, fun a o e => ?_, fun a o e => ?_, S.sp.old⟩, p, qs, dss.set m1 (ys.set m2 d), lk_st_eq hi, e2, ⟨?_, N.fp, N.h0, by rw [List.length_set, N.ln], fun j q' ds k1 k2 => ?_, N.nd, N.np⟩⟩
  · rw [un_st_same]
    refine ⟨fun b o e => ?_, S.en.len, S.en.pl, fun j d hj => absurd hj List.not_mem_nil, fun j k d e p hj => absurd hj List.not_mem_nil⟩
    rw [upd_ne (ne_of_none e g2)]
    exact S.en.fh b o e
  · rw [upd_ne (ne_of_none e g3)]
    exact S.sp.hh a o e
  · rw [upd_ne (ne_of_none e g2)]
    exact S.en.fh a o e
  · rw [upd_ne qp]
    exact N.hp
  · by_cases hj : j = m1
    · subst hj
      rw [h1] at k1
      cases k1
      have hlt : j < dss.length := (List.getElem?_eq_some_iff.mp h2).1
      rw [List.getElem?_set_self hlt] at k2
      cases k2
      exact ⟨_, upd_same, g2, g3, RpL.set m2 g4 r⟩
    · rw [List.getElem?_set_ne (Ne.symm hj)] at k2
      obtain ⟨us, f1, f2, f3, f4⟩ := N.at_ j q' ds k1 k2
      have hne : q' ≠ q := fun z => hj (N.nd j m1 q (z ▸ k1) h1)
      exact ⟨us, by rw [upd_ne hne]; exact f1, f2, f3, f4⟩
end
def endR2 (K : PySem.W.Frag) (C : Addr) (i : Nat) (F0 H0 F : Hp) (Z : Ends) : R → Prop
  | .nx ρ' => ∀ σ' F' H', Sn2 K C i F0 H0 F' H' σ' ρ' → Same F F' → Z.nx σ' H'
  | .rt d => ∀ v F' H', Stp F0 H0 F' H' → Rp K C F' d v → Z.rt v H'
def tDS2 (K : PySem.W.Frag) (C : Addr) (i : Nat) (f : DS) : TS := fun Z σ H => ∃ F0 H0 F ρ r, Sn2 K C i F0 H0 F H σ ρ ∧ f ρ = some r ∧ endR2 K C i F0 H0 F Z r
abbrev DSt2 (X : Cx) (C : Addr) (i : Nat) (s : Stmt) (f : DS) : Prop := PS X s (tDS2 X.K C i f)
abbrev DSs2 (X : Cx) (C : Addr) (i : Nat) (s : List Stmt) (f : DS) : Prop := PSs X s (tDS2 X.K C i f)
theorem endR2.mono {K : PySem.W.Frag} {C : Addr} {i : Nat} {F0 H0 F F' : Hp} {Z : Ends} {r : R} (h : endR2 K C i F0 H0 F Z r) (s : Same F F') : endR2 K C i F0 H0 F' Z r := by
  cases r with
  | nx ρ' => exact fun σ' F2 H2 S sm => h σ' F2 H2 S (s.trans sm)
  | rt d => exact h
def scD (f : DF) : DF := fun ρ => (f ρ).bind fun d => if isSc d = true then some d else none
def dSetIx2 (i : Nat) (a b f : DF) : DS := fun ρ => (scD f ρ).bind fun d => (a ρ).bind fun ja => (asI ja).bind fun na => (b ρ).bind fun jb => (asI jb).bind fun nb => (lk ρ i).bind fun x => (asL x).bind fun xs =>
  (ixNat xs.length na).bind fun m1 => (xs[m1]?).bind fun y => (asL y).bind fun ys => (ixNat ys.length nb).bind fun m2 => some (.nx (st ρ i (.lst (xs.set m1 (.lst (ys.set m2 d))))))
section
variable {X : Cx} {C : Addr} {i : Nat} {s : Stmt} {ss us : List Stmt} {f g : DS} {e a b c : Expr} {fe ge he : DF} {t : DB} {pos : Pos}
theorem dss2_nil : DSs2 X C i [] dNx := PSsw pss_nil fun Z σ H ⟨F0, H0, F, ρ, r, S, hf, k⟩ => by
  cases hf
  exact k σ F H S (Same.refl _)
theorem dss2_cons (h1 : DSt2 X C i s f) (h2 : DSs2 X C i ss g) : DSs2 X C i (s :: ss) (dSeq f g) := PSsw (pss_cons h1 h2) fun Z σ H ⟨F0, H0, F, ρ, r, S, hf, k⟩ => by
  obtain ⟨r1, e1, e2⟩ := bind_some hf
  refine ⟨F0, H0, F, ρ, r1, S, e1, ?_⟩
  cases r1 with
  | nx ρ1 => exact fun σ1 F1 H1 S1 sm => ⟨F0, H0, F1, ρ1, r, S1, e2, k.mono sm⟩
  | rt d =>
    cases e2
    exact k
theorem dss2_one (h1 : DSt2 X C i s f) : DSs2 X C i [s] f := pss_one h1
/-- the way back: all frozen, a block that returns -/
theorem dss2_end {O' : List Nat} (hr : RetOnly f) (h : DSs X C [] O' ss f) : DSs2 X C i ss f := PSsw h fun Z σ H ⟨F0, H0, F, ρ, r, S, hf, k⟩ => by
  obtain ⟨F', sm, S'⟩ := S.freeze
  refine ⟨F0, H0, F', ρ, r, S', hf, ?_⟩
  cases r with
  | nx ρ' => exact absurd hf (hr ρ ρ')
  | rt d => exact k
/-- the way in -/
theorem dss2_in {O' : List Nat} (hr : RetOnly g) (h1 : PS X s fun Z σ H => ∃ F0 H0 F ρ r, Sn X.K C [] F0 H0 F H σ ρ ∧ f ρ = some r ∧ endR2 X.K C i F0 H0 F Z r) (h2 : DSs2 X C i ss g) : DSs X C [] O' (s :: ss) (dSeq f g) := PSsw (pss_cons h1 h2) fun Z σ H ⟨F0, H0, F, ρ, r, S, hf, k⟩ => by
  obtain ⟨r1, e1, e2⟩ := bind_some hf
  refine ⟨F0, H0, F, ρ, r1, S, e1, ?_⟩
  cases r1 with
  | nx ρ1 =>
    refine fun σ1 F1 H1 S1 sm => ⟨F0, H0, F1, ρ1, r, S1, e2, ?_⟩
    cases r with
    | nx ρ' => exact absurd e2 (hr ρ1 ρ')
    | rt d => exact k
  | rt d =>
    cases e2
    exact k
theorem ds2_if (hc : DT X C [] c t) (ha : DSs2 X C i ss f) (hb : DSs2 X C i us g) : DSt2 X C i (.If c ss us pos) (dIfS t f g) := PSw (ps_if hc ha hb) fun Z σ H ⟨F0, H0, F, ρ, r, S, hf, k⟩ => by
  obtain ⟨d, e1, e2⟩ := bind_some hf
  obtain ⟨F', sm, S'⟩ := S.freeze
  refine ⟨F', ρ, d, S'.en, e1, fun F1 H1 s1 => ?_⟩
  cases d with
  | true =>
    rw [if_pos rfl] at e2 ⊢
    exact ⟨F0, H0, F, ρ, r, S.step s1.hh, e2, k⟩
  | false =>
    rw [if_neg Bool.false_ne_true] at e2 ⊢
    exact ⟨F0, H0, F, ρ, r, S.step s1.hh, e2, k⟩
theorem ds2_par (j l : Nat) {x y : Str} {px py pt : Pos} {kt k2 : Nat} {pt2 : Pos} (hc : X.calm = true) (hN : X.N.Nodup) (ha : DE X C [] a fe) (hb : DE X C [] b ge) (hi : X.N[j]? = some x := by rfl) (hj : X.N[l]? = some y := by rfl) (hij : j ≠ l := by decide)
    (hx : X.env.scope.names.lookup x = some .local := by rfl) (hy : X.env.scope.names.lookup y = some .local := by rfl) (hO : j ≠ i := by decide) (hO2 : l ≠ i := by decide)
    (hw : swappedStores [.Tuple [.Name x px, .Name y py] kt pt] (.Tuple [a, b] k2 pt2) X.env = pure (some [x, y]) := by rfl)
    (hs : swapsWithSole [.Tuple [.Name x px, .Name y py] kt pt] (.Tuple [a, b] k2 pt2) pos.line X.env = pure false := by rfl)
    (h1 : starEach [a, b] X.env = (false, eval a X.env) :: starEach [b] X.env := by rfl) (h2 : starEach [b] X.env = (false, eval b X.env) :: starEach [] X.env := by rfl) :
    DSt2 X C i (.Assign [.Tuple [.Name x px, .Name y py] kt pt] (.Tuple [a, b] k2 pt2) pos) (dPar j l (scD fe) (scD ge)) := PSw (ps_par hc hN hi hj hij hx hy (pa_cons ha (pa_cons hb pa_nil h2) h1) hw hs) fun Z σ H ⟨F0, H0, F, ρ, r, S, hf, k⟩ => by
  obtain ⟨d, e1, e2⟩ := bind_some hf
  obtain ⟨d', e3, e4⟩ := bind_some e2
  cases e4
  obtain ⟨d1, e5, e6⟩ := bind_some e1
  obtain ⟨d2, e7, e8⟩ := bind_some e3
  split at e6
  · rename_i z1
    cases e6
    split at e8
    · rename_i z2
      cases e8
      obtain ⟨F', sm, S'⟩ := S.freeze
      exact ⟨F', ρ, d, S'.en, e5, fun v F1 H1 s1 r1 => ⟨F1, ρ, d', S'.en.step s1, e7, fun v2 F2 H2 s2 r2 => ⟨v, v2, rfl, k _ F H2 (((S.step (s1.trans s2).hh).set hO (r1.sc z1)).set hO2 (r2.sc z2)) (Same.refl _)⟩⟩⟩
    · cases e8
  · cases e6
/-- x[a][b] = e -/
theorem ds2_put {x : Str} {p1 p2 p3 : Pos} (hv0 : DE X C [] e fe) (ha : DE X C [] a ge) (hb : DE X C [] b he) (hi : X.N[i]? = some x := by rfl) (hv : Vis X.env.scope x := by first | exact Or.inl rfl | exact Or.inr (Or.inl rfl) | exact Or.inr (Or.inr rfl))
    (hd : (x == ("__debug__" : Str)) = false := by decide) (hcd : (x == ("__classdict__" : Str)) = false := by decide) (hpl : PlainIx a := by exact fun _ _ => rfl)
    (has : ∀ v, assign (.Subscript (.Subscript (.Name x p1) a p2) b p3) X.env v = (do
      let ov ← holding [v] (eval (.Subscript (.Name x p1) a p2) X.env)
      let iv ← holding [v, ov] (eval b X.env)
      standAt p3
      holding [v, ov, iv] (setItem ov iv v)
      release [v, ov, iv] []) := by intro _; rfl)
    (hs : swapsWithSole [.Subscript (.Subscript (.Name x p1) a p2) b p3] e pos.line X.env = pure false := by rfl) (hw : swappedStores [.Subscript (.Subscript (.Name x p1) a p2) b p3] e X.env = pure none := by rfl)
    (h1 : (assignEach [.Subscript (.Subscript (.Name x p1) a p2) b p3] X.env).map (·.2) = [assign (.Subscript (.Subscript (.Name x p1) a p2) b p3) X.env] := by rfl) :
    DSt2 X C i (.Assign [.Subscript (.Subscript (.Name x p1) a p2) b p3] e pos) (dSetIx2 i ge he fe) :=
  PSw (ps_asg hv0 (pg_sub (pe_ix ix_list (pe_var hi hv hd hcd) ha hpl) hb set_list has) hs hw h1) fun Z σ H ⟨F0, H0, F, ρ, r, S, hf, k⟩ => by
  obtain ⟨d, e1, g1⟩ := bind_some hf
  obtain ⟨ja, e2, g2⟩ := bind_some g1
  obtain ⟨na, e3, g3⟩ := bind_some g2
  obtain ⟨jb, e4, g4⟩ := bind_some g3
  obtain ⟨nb, e5, g5⟩ := bind_some g4
  obtain ⟨x, e6, g6⟩ := bind_some g5
  obtain ⟨xs, e7, g7⟩ := bind_some g6
  obtain ⟨m1, e8, g8⟩ := bind_some g7
  obtain ⟨y, e9, g9⟩ := bind_some g8
  obtain ⟨ys, e10, g10⟩ := bind_some g9
  obtain ⟨m2, e11, g11⟩ := bind_some g10
  obtain rfl := asI_some e3
  obtain rfl := asI_some e5
  obtain rfl := asL_some e7
  obtain rfl := asL_some e10
  obtain ⟨d', e12, e13⟩ := bind_some e1
  split at e13
  · rename_i hsc
    cases e13
    cases g11
    obtain ⟨F', sm, S'⟩ := S.freeze
    refine ⟨F', ρ, d, S'.en, e12, fun v F1 H1 s1 r1 => ?_⟩
    have rv := r1.sc (F' := F) hsc
    have S1 := S.step s1.hh
    obtain ⟨p, qs, dss, t1, t2, N⟩ := S1.ns
    rw [e6] at t1
    have t1' : xs = dss.map D.lst := by
      have := Option.some.inj t1
      injection this
    subst t1'
    obtain ⟨F1', sm1, S1'⟩ := S1.freeze
    refine ⟨.ref p, t2, F1', ρ, _, S1'.en, e2, fun u F2 H2 s2 r2 => ?_⟩
    have S2 := S1.step s2.hh
    have e9' : dss[m1]? = some ys := by
      rw [List.getElem?_map] at e9
      obtain ⟨z, z1, z2⟩ := Option.map_eq_some_iff.mp e9
      injection z2 with z3
      rw [← z3]
      exact z1
    have hlt : m1 < qs.length := by
      rw [N.ln]
      exact (List.getElem?_eq_some_iff.mp e9').1
    have hqs : qs[m1]? = some qs[m1] := List.getElem?_eq_getElem hlt
    refine ⟨p, _, na, .ref qs[m1], rfl, r2, SqL.of (s2.hh _ _ N.hp), ?_, ?_⟩
    · unfold atI
      rw [List.length_map, N.ln, ← ixNat_eq]
      rw [List.length_map] at e8
      rw [e8]
      show (List.map V.ref qs)[m1]? = _
      rw [List.getElem?_map, hqs]
      rfl
    · obtain ⟨F2', sm2, S2'⟩ := S2.freeze
      refine ⟨F2', ρ, _, S2'.en, e4, fun u2 F3 H3 s3 r3 => ?_⟩
      have S3 := S2.step s3.hh
      have N3 : Nst X.K C H0 F H3 p qs dss := by
        refine ⟨s3.hh _ _ (s2.hh _ _ N.hp), N.fp, N.h0, N.ln, fun j q ds k1 k2 => ?_, N.nd, N.np⟩
        obtain ⟨vs, f1, f2⟩ := N.at_ j q ds k1 k2
        exact ⟨vs, s3.hh _ _ (s2.hh _ _ f1), f2⟩
      obtain ⟨vs, f1, f2, f3, f4⟩ := N3.at_ m1 qs[m1] ys hqs e9'
      refine ⟨qs[m1], vs, nb, m2, rfl, r3, f1, by rw [← f4.len, ← ixNat_eq]; exact e11, ?_⟩
      have S4 := S3.put (m2 := m2) e6 t2 N3 rv hqs e9' f1
      have em : (dss.map D.lst).set m1 (.lst (ys.set m2 d)) = (dss.set m1 (ys.set m2 d)).map D.lst := by rw [List.map_set]
      rw [em] at k
      exact k σ F _ S4 (Same.refl _)
  · cases e13
/-- x = [list(y) for y in e]: the way in -/
theorem mapM_len : ∀ {xs : List D} {dss : List (List D)}, xs.mapM asSeq = some dss → xs.length = dss.length ∧ ∀ (j : Nat) (d : D), xs[j]? = some d → ∃ ds, dss[j]? = some ds ∧ asSeq d = some ds
  | [], dss, h => by
    rw [List.mapM_nil] at h
    cases h
    exact ⟨rfl, fun j d q => by simp at q⟩
  | x :: xs, dss, h => by
    rw [List.mapM_cons] at h
    obtain ⟨y, h1, h2⟩ := bind_some h
    obtain ⟨r, h3, h4⟩ := bind_some h2
    cases h4
    obtain ⟨l1, l2⟩ := mapM_len h3
    refine ⟨by rw [List.length_cons, List.length_cons, l1], fun j d q => ?_⟩
    cases j with
    | zero =>
      have e : x = d := by simpa using q
      subst e
      exact ⟨y, rfl, h1⟩
    | succ j =>
      obtain ⟨ds, z1, z2⟩ := l2 j d (by simpa using q)
      exact ⟨ds, by simpa using z1, z2⟩
end
end DL
namespace DL
open PySem PySem.Spec PyProof.Rows L2
theorem En.forget {K : PySem.W.Frag} {C : Addr} {F H : Hp} {σ : L2.St} {ρ : Rho} {i : Nat} {v : Option V} (h : En K C [] F H σ ρ) : En K C [] F H (σ.set i v) (un ρ i) where
  fh := h.fh
  len := by rw [List.length_set, un_len]; exact h.len
  pl := fun j e hj q => by
    by_cases hji : j = i
    · subst hji
      rw [lk_un_same] at q
      cases q
    · rw [lk_un_ne hji] at q
      rw [List.getElem?_set_ne (Ne.symm hji)]
      exact h.pl j e hj q
  ow := fun j e hj => absurd hj List.not_mem_nil
  ap := fun j k e e' p hj => absurd hj List.not_mem_nil
def NW (K : PySem.W.Frag) (C : Addr) (F1 H1 : Hp) (all : List (List D)) (Dl : Addr) (i m : Nat) (H : Hp) : Prop :=
  m = all.length - i ∧ i ≤ all.length ∧ ∃ F qs, Stp F1 H1 F H ∧ Nst K C H1 F H Dl qs (all.take i)
section
variable {X : Cx} {C : Addr}
theorem nest_rd {K : PySem.W.Frag} {it : DFs} {i j : Nat} {Z : Ends} {σ : L2.St} {H : Hp} (hw : ∃ F0 H0 F ρ r, Sn K C [] F0 H0 F H σ ρ ∧ ((it ρ).bind fun xs => (xs.mapM asSeq).bind fun dss => if dss.length ≤ 16777216 ∧ j < ρ.length ∧ i < ρ.length then some (R.nx (st ρ i (.lst (dss.map D.lst)))) else none) = some r ∧ endR2 K C i F0 H0 F Z r) :
    tAsg (tLc (tDI K C [] it) (tDG K C [] [j] (gN j)) (tDT K C [] bYes) (tDN K C [] (nOf (dv j))) [j]) (gName i) Z σ H := by
  obtain ⟨F0, H0, F, ρ, r, S, hf, k⟩ := hw
  obtain ⟨ds, h1, hf1⟩ := bind_some hf
  obtain ⟨dss, h2, hf2⟩ := bind_some hf1
  split at hf2
  · rename_i hz
    obtain ⟨hz, hjl, hil⟩ := hz
    cases hf2
    obtain ⟨ml, mg⟩ := mapM_len h2
    show tLc _ _ _ _ _ σ H fun x H1 => Z.nx (σ.set i (some x)) H1
    refine ⟨F, ρ, ds, S.en, h1, fun J F1 H1 s1 jd Dl hD => ?_⟩
    have E1 : En K C [] F1 H1 (wipe σ [j]) (wipeR ρ [j]) := (S.en.step s1).wipe [j]
    have fD := none_of_same s1.fh hD
    refine ⟨NW K C F1 H1 dss Dl, ⟨dss.length, rfl, Nat.zero_le _, F1, [], Stp.own s1.fh hD, ⟨upd_same, fD, hD, rfl, fun a q l e => by simp at e, fun a b q e => by simp at e, List.not_mem_nil⟩⟩, fun n m H2 hW => ?_⟩
    obtain ⟨rfl, hn, F2, qs, s2, N⟩ := hW
    by_cases hlt : n < dss.length
    · right
      have hlt2 : n < ds.length := by rw [ml]; exact hlt
      obtain ⟨_, jg⟩ := jd n F2 H2 s2.ff s2.fh
      obtain ⟨go, yl⟩ := jg ds[n] (List.getElem?_eq_getElem hlt2)
      obtain ⟨es, z1, z2⟩ := mg n ds[n] (List.getElem?_eq_getElem hlt2)
      refine ⟨go, NW K C F1 H1 dss Dl (n + 1) (dss.length - (n + 1)), fun H' hN => ⟨_, by omega, hN⟩, fun x H3 y => ?_⟩
      obtain ⟨F3, s3, r3⟩ := yl x H3 y
      have s13 := s2.trans s3
      have hlk : lk (st (wipeR ρ [j]) j ds[n]) j = some ds[n] := lk_st_eq (by
        show j < (un ρ j).length
        rw [un_len]
        exact hjl)
      refine ⟨F3, wipeR ρ [j], ds[n], _, E1.step s13, r3, rfl, fun σ4 E4 bar _ => ⟨wipe_bar bar (fun i hi => hi), F3, _, true, E4, rfl, fun F5 H5 s5 => ?_⟩⟩
      dsimp only
      rw [if_pos rfl]
      have s15 := s13.trans s5
      have s25 := s3.trans s5
      refine ⟨F5, _, es, E4.step s5, ?_, fun p vs F6 H6 s6 hp r6 => ?_⟩
      · show (lk _ j).bind asSeq = some es
        rw [hlk]
        exact z2
      have s16 := s15.trans s6
      have s26 := s25.trans s6
      have hq6 : ∀ q ∈ qs, ∃ o, H6 q = some o := fun q hq => by
        obtain ⟨a, ha, rfl⟩ := List.getElem_of_mem hq
        have ha2 : a < (dss.take n).length := by rw [← N.ln]; exact ha
        obtain ⟨us, g1, _⟩ := N.at_ a qs[a] (dss.take n)[a] (List.getElem?_eq_getElem ha) (List.getElem?_eq_getElem ha2)
        exact ⟨_, s26.hh _ _ g1⟩
      have hpq : p ∉ qs := fun hq => by
        obtain ⟨o, e⟩ := hq6 p hq
        rw [hp] at e
        cases e
      have hDH6 : H6 Dl = some (.lst (qs.map V.ref)) := s26.hh _ _ N.hp
      have hpD : Dl ≠ p := fun z => by
        rw [← z, hDH6] at hp
        cases hp
      have hH1p : H1 p = none := s16.hh.free hp
      have hF6p : F6 p = none := s6.fh.free hp
      have hF6D : F6 Dl = none := (s26.old _ _ N.hp).trans N.fp
      have hql : qs.length = n := by
        rw [N.ln, List.length_take]
        omega
      refine ⟨qs.map V.ref, by rw [upd_ne hpD]; exact hDH6, by
        rw [List.length_map, hql]
        exact Nat.lt_of_lt_of_le (by omega : n < 16777216) (szl_ok (Nat.le_refl _)), rfl, hlt, F6, qs ++ [p], ?_, ?_⟩
      · refine ⟨s16.ff, fun a o q => ?_, fun a o q => ?_, s16.old⟩
        · rw [upd_ne (ne_of_none q hD), upd_ne (ne_of_none q hH1p)]
          exact s16.hh a o q
        · rw [upd_ne (ne_of_none q hF6D), upd_ne (ne_of_none q hF6p)]
          exact s16.fh a o q
      · refine ⟨by rw [upd_same, List.map_append]; rfl, hF6D, hD, by rw [List.length_append, List.length_take, hql, List.length_singleton]; omega, fun a q l e1 e2 => ?_, fun a b q e1 e2 => ?_, fun hm => ?_⟩
        · by_cases ha : a < n
          · rw [List.getElem?_append_left (by omega)] at e1
            have e2' : (dss.take n)[a]? = some l := by
              rw [List.getElem?_take] at e2 ⊢
              rw [if_pos ha]
              rw [if_pos (by omega)] at e2
              exact e2
            obtain ⟨us, g1, g2, g3, g4⟩ := N.at_ a q l e1 e2'
            have hqm := List.mem_of_getElem? e1
            have hqD : q ≠ Dl := fun z => N.np (z ▸ hqm)
            have hqp : q ≠ p := fun z => hpq (z ▸ hqm)
            exact ⟨us, by rw [upd_ne hqD, upd_ne hqp]; exact s26.hh _ _ g1, (s26.old _ _ g1).trans g2, g3, RpL.mono s26.ff _ _ g4⟩
          · have han : a = n := by
              have := (List.getElem?_eq_some_iff.mp e1).1
              rw [List.length_append, List.length_singleton, hql] at this
              omega
            subst han
            rw [List.getElem?_append_right (by omega), hql, Nat.sub_self] at e1
            cases e1
            rw [List.getElem?_take, if_pos (by omega), z1] at e2
            cases e2
            exact ⟨vs, by rw [upd_ne (Ne.symm hpD)]; exact upd_same, hF6p, hH1p, r6⟩
        · have la : ∀ {c}, (qs ++ [p])[c]? = some q → (c < n ∧ qs[c]? = some q) ∨ (c = n ∧ q = p) := fun {c} e => by
            by_cases hc : c < n
            · rw [List.getElem?_append_left (by omega)] at e
              exact .inl ⟨hc, e⟩
            · have := (List.getElem?_eq_some_iff.mp e).1
              rw [List.length_append, List.length_singleton, hql] at this
              have hcn : c = n := by omega
              subst hcn
              rw [List.getElem?_append_right (by omega), hql, Nat.sub_self] at e
              cases e
              exact .inr ⟨rfl, rfl⟩
          rcases la e1 with ⟨_, f1⟩ | ⟨f1, f2⟩
          · rcases la e2 with ⟨_, f3⟩ | ⟨f3, f4⟩
            · exact N.nd a b q f1 f3
            · exact absurd (f4 ▸ List.mem_of_getElem? f1) hpq
          · rcases la e2 with ⟨_, f3⟩ | ⟨f3, f4⟩
            · exact absurd (f2 ▸ List.mem_of_getElem? f3) hpq
            · rw [f1, f3]
        · rcases List.mem_append.mp hm with hm | hm
          · exact N.np hm
          · exact hpD (List.mem_singleton.mp hm)
    · left
      have en : n = dss.length := by omega
      subst en
      obtain ⟨js, _⟩ := jd ds.length F2 H2 s2.ff s2.fh
      rw [← ml]
      refine ⟨js rfl, ?_⟩
      have s0 := s1.trans s2
      have hN : Nst K C H0 F2 H2 Dl qs dss := by
        have hN := N
        rw [List.take_length] at hN
        refine ⟨hN.hp, hN.fp, S.sp.hh.free (s1.hh.free hD), hN.ln, fun a q l e1 e2 => ?_, hN.nd, hN.np⟩
        obtain ⟨us, g1, g2, g3, g4⟩ := hN.at_ a q l e1 e2
        exact ⟨us, g1, g2, S.sp.hh.free (s1.hh.free g3), g4⟩
      refine k _ F2 H2 ⟨?_, S.sp.trans s0, Dl, qs, dss, lk_st_eq hil, ?_, hN⟩ s0.ff
      · rw [un_st_same]
        exact (S.en.step s0).forget
      · rw [List.getElem?_set_self (by rw [S.en.len]; exact hil)]
  · cases hf2
variable {i j : Nat}
def dSetNN' (i j : Nat) (it : DFs) : DS := fun ρ => (it ρ).bind fun xs => (xs.mapM asSeq).bind fun dss => if dss.length ≤ 16777216 ∧ j < ρ.length ∧ i < ρ.length then some (R.nx (st ρ i (.lst (dss.map D.lst)))) else none
/-- y = [list(x) for x in e]: a list of lists of one's own from here on -/
theorem ds2_in (i j : Nat) {y x : Str} {py p1 p2 pe : Pos} {iter : Expr} {scope : Scope} {pos spos : Pos} {it : DFs} (hc : X.calm = true) (hN : X.N.Nodup)
    (hi : DI X C [] (.Name x p1) iter it) (ok : BlkOk X.N X.env.scope scope [(x, j)])
    (hg : ∀ (s : Shared) (H : Hp) (D : Addr) (cl : List (Str × Addr)) (fp : List Addr), DTg (X.blk s H scope (compEnvC scope cl D X.env) fp) C [] [j] (.Name x p1) (gN j))
    (he : ∀ (s : Shared) (H : Hp) (D : Addr) (cl : List (Str × Addr)) (fp : List Addr), DN (X.blk s H scope (compEnvC scope cl D X.env) fp) C [] (.Call (.Name "list" p2) [.Name x pe] [] pos) (nOf (dv j)))
    (hy : X.N[i]? = some y := by rfl) (hyl : X.env.scope.names.lookup y = some .local := by rfl)
    {cpos : Pos} (hsw : swapsWith (.ListComp (.Call (.Name "list" p2) [.Name x pe] [] pos) [⟨.Name x p1, iter, [], 0⟩] scope cpos) (some (.Name y py)) spos.line X.env = pure true := by exact sw_true rfl rfl rfl (by decide +kernel))
    (hs : ∀ x, foldedSetIterable iter X.env x = pure x := by intro _; rfl) :
    PS X (.Assign [.Name y py] (.ListComp (.Call (.Name "list" p2) [.Name x pe] [] pos) [⟨.Name x p1, iter, [], 0⟩] scope cpos) spos) (fun Z σ H => ∃ F0 H0 F ρ r, Sn X.K C [] F0 H0 F H σ ρ ∧ dSetNN' i j it ρ = some r ∧ endR2 X.K C i F0 H0 F Z r) :=
  PSw (ps_setLc hc hN hy hyl hsw hi ok hg (fun _ _ _ _ _ => dts_nil) he hs) fun Z σ H hw => nest_rd hw
end
end DL
namespace DL
open PySem PySem.Spec PyProof.Rows L2
section
variable {X : Cx} {C : Addr}
/-- y = [.. for .. for ..] on one line -/
theorem ds_setLc2 (i : Nat) {y : Str} {py : Pos} {elt tg iter tg1 iter1 : Expr} {ifs1 : List Expr} {scope : Scope} {own : List (Str × Nat)} {vs1 : List Nat} {pos spos : Pos} {it it2 : DFs} {g g2 : DG} {t : DB} {e : DF} {ws ws1 : List Nat} (hc : X.calm = true) (hN : X.N.Nodup)
    (hi : DI X C [] tg iter it) (ok : BlkOk X.N X.env.scope scope own)
    (hg : ∀ (s : Shared) (H : Hp) (D : Addr) (cl : List (Str × Addr)) (fp : List Addr), DTg (X.blk s H scope (compEnvC scope cl D X.env) fp) C [] ws tg g)
    (hi1 : ∀ (s : Shared) (H : Hp) (D : Addr) (cl : List (Str × Addr)) (fp : List Addr), DI (X.blk s H scope (compEnvC scope cl D X.env) fp) C [] tg1 iter1 it2)
    (hg1 : ∀ (s : Shared) (H : Hp) (D : Addr) (cl : List (Str × Addr)) (fp : List Addr), DTg (X.blk s H scope (compEnvC scope cl D X.env) fp) C [] ws1 tg1 g2)
    (ht1 : ∀ (s : Shared) (H : Hp) (D : Addr) (cl : List (Str × Addr)) (fp : List Addr), DTs (X.blk s H scope (compEnvC scope cl D X.env) fp) C [] ifs1 t)
    (he : ∀ (s : Shared) (H : Hp) (D : Addr) (cl : List (Str × Addr)) (fp : List Addr), DE (X.blk s H scope (compEnvC scope cl D X.env) fp) C [] elt e)
    (hy : X.N[i]? = some y := by rfl) (hyl : X.env.scope.names.lookup y = some .local := by rfl)
    (hsw : swapsWith (.ListComp elt [⟨tg, iter, [], 0⟩, ⟨tg1, iter1, ifs1, 0⟩] scope pos) (some (.Name y py)) spos.line X.env = pure true := by exact sw_true rfl rfl rfl (by decide +kernel))
    (hv : ∀ i ∈ ws, i ∈ own.map (·.2) := by decide) (hv1 : ∀ i ∈ ws1, i ∈ vs1 := by decide) (hvv : ∀ i ∈ vs1, i ∈ own.map (·.2) := by decide)
    (hs : ∀ x, foldedSetIterable iter X.env x = pure x := by intro _; rfl) (hs1 : ∀ env x, foldedSetIterable iter1 env x = pure x := by intro _ _; rfl) :
    DSt X C [] [] (.Assign [.Name y py] (.ListComp elt [⟨tg, iter, [], 0⟩, ⟨tg1, iter1, ifs1, 0⟩] scope pos) spos) (dSet i (dComp2 it g it2 g2 t e (own.map (·.2)) vs1)) :=
  PSw (ps_setLc2 hc hN hy hyl hsw hi ok hvv hg (fun _ _ _ _ _ => pts_nil) hi1 hg1 ht1 he hs hs1) fun Z σ H hw => by
    obtain ⟨F0, H0, F, ρ, r, S, hf, k⟩ := hw
    obtain ⟨d, e1, e2⟩ := bind_some hf
    cases e2
    exact comp2_rd hv hv1 ⟨F, ρ, d, S.en, e1, fun v F1 H1 s1 r1 => k _ F1 H1 ((S.step s1).set List.not_mem_nil r1) s1.ff⟩
end
end DL
namespace DL
open PySem PySem.Spec PyProof.Rows L2
/-- the truth of None, bools and ints -/
def truI : D → Option Bool
  | .non => some false
  | .bl b => some b
  | .int i => some (i != 0)
  | _ => none
def dOrT (f g : DF) : DF := fun ρ => (f ρ).bind fun x => (truI x).bind fun k => if k = true then some x else g ρ
end DL
namespace DL
open PySem PySem.Spec PyProof.Rows L2
end DL
namespace DL
open PySem PySem.Spec PyProof.Rows L2
mutual
/-- no lists within -/
def okT : D → Bool
  | .tup ds => okTs ds
  | .lst _ => false
  | .bell _ => false
  | .scr _ => false
  | .ext _ => false
  | _ => true
def okTs : List D → Bool
  | [] => true
  | d :: ds => okT d && okTs ds
end
/-- the tuples of a heap -/
def tpart (F : Hp) : Hp := fun a => match F a with
  | some (.tup xs) => some (.tup xs)
  | _ => none
theorem tpart_some {F : Hp} {a : Addr} {o : HO} (h : tpart F a = some o) : F a = some o ∧ ∃ xs, o = .tup xs := by
  unfold tpart at h
  split at h
  · rename_i xs e
    cases h
    exact ⟨e, xs, rfl⟩
  · cases h
theorem tpart_tup {F : Hp} {a : Addr} {xs : List V} (h : F a = some (.tup xs)) : tpart F a = some (.tup xs) := by
  unfold tpart
  rw [h]
section
variable {K : PySem.W.Frag} {C : Addr}
mutual
theorem Rp.tpart {F : Hp} : ∀ (d : D) (v : V), okT d = true → Rp K C F d v → Rp K C (tpart F) d v
  | .non, _, _, h => h
  | .bl _, _, _, h => h
  | .int _, _, _, h => h
  | .str _, _, _, h => h
  | .tup ds, v, ho, h => by
    simp only [Rp] at h ⊢
    obtain ⟨a, xs, e, ha, hl⟩ := h
    exact ⟨a, xs, e, tpart_tup ha, RpL.tpart ds xs ho hl⟩
theorem RpL.tpart {F : Hp} : ∀ (ds : List D) (vs : List V), okTs ds = true → RpL K C F ds vs → RpL K C (tpart F) ds vs
  | [], _, _, h => h
  | d :: ds, vs, ho, h => by
    simp only [RpL] at h ⊢
    simp only [okTs, Bool.and_eq_true] at ho
    obtain ⟨x, r, e, h1, h2⟩ := h
    exact ⟨x, r, e, Rp.tpart d x ho.1 h1, RpL.tpart ds r ho.2 h2⟩
end
end
end DL
namespace DL
open PySem PySem.Spec PyProof.Rows L2
abbrev Pr := Int × List Int
def prD (p : Pr) : D := .tup [.int p.1, .tup (p.2.map .int)]
end DL
namespace DL
open PySem PySem.Spec PyProof.Rows L2
end DL
namespace DL
open PySem PySem.Spec PyProof.Rows L2
inductive Kd
  | l
  | t
def ItrK (k : Kd) (h : Heap) (it a : Addr) (i : Nat) : Prop := match k with
  | .l => h.IsListIter it a i
  | .t => h.IsTupleIter it a i
def obK (k : Kd) (a : Addr) : Obj := match k with
  | .l => { cls := .type "list_iterator", data := .fields #[.ref a, .int 0 0] }
  | .t => { cls := .type "tuple_iterator", data := .fields #[.ref a, .int 0 0] }
theorem ItrK.start {k : Kd} {h : Heap} {it a : Addr} (g : h.get? it = some (obK k a)) : ItrK k h it a 0 := by
  cases k
  · exact ⟨_, g, rfl, rfl⟩
  · exact ⟨_, g, rfl, rfl⟩
theorem ItrK.at {k : Kd} {h h' : Heap} {it a : Addr} {i : Nat} (g : ItrK k h it a i) (f : ∀ o, h.get? it = some o → h'.get? it = some o) : ItrK k h' it a i := by
  cases k
  · exact Heap.IsListIter.at g f
  · exact Heap.IsTupleIter.at g f
section
variable {K : PySem.W.Frag} {C : Addr} {F H : Hp} {a b : Addr} {xs ys : List V} {ds es : List D}
def InK (F : Hp) (k : Kd) (a : Addr) (us : List V) : Prop := (k = Kd.l ∧ F a = some (.lst us)) ∨ (k = Kd.t ∧ F a = some (.tup us))
end
section
variable {X : Cx} {C : Addr} {O : List Nat} {e e2 e3 : Expr} {fs : DFs} {p pos tpos : Pos} {elts : List Expr} {kk : Nat}
theorem InK.mono {F F1 : Hp} {k : Kd} {a : Addr} {us : List V} (h : InK F k a us) (s : Same F F1) : InK F1 k a us := by
  rcases h with ⟨rfl, h⟩ | ⟨rfl, h⟩
  · exact .inl ⟨rfl, s _ _ h⟩
  · exact .inr ⟨rfl, s _ _ h⟩
end
end DL
namespace DL
open PySem PySem.Spec PyProof.Rows L2
end DL
namespace DL
open PySem PySem.Spec PyProof.Rows L2
end DL
namespace DL
open PySem PySem.Spec PyProof.Rows L2
end DL
namespace DL
open PySem PySem.Spec PyProof.Rows L2
end DL
namespace DL
open PySem PySem.Spec PyProof.Rows L2
end DL
namespace DL
open PySem PySem.Spec PyProof.Rows L2
end DL
namespace DL
open PySem PySem.Spec PyProof.Rows L2
abbrev KVI := List (List Int × Int)
def valI (kvs : KVI) (k : List Int) : Option Int := (kvs.find? fun p => decide (p.1 = k)).map (·.2)
def putI (kvs : KVI) (k : List Int) (v : Int) : KVI := if (kvs.any fun p => decide (p.1 = k)) = true then kvs.map (fun p => if p.1 = k then (p.1, v) else p) else kvs ++ [(k, v)]
def HasD (i : Nat) (σ : L2.St) (H0 F H : Hp) (kvs : KVI) : Prop := ∃ p, σ[i]? = some (some (.ref p)) ∧ H p = some (.dT (encD kvs)) ∧ F p = none ∧ H0 p = none
abbrev D3 := Rho → KVI → Option (Rho × KVI)
def t3 (K : PySem.W.Frag) (C : Addr) (i : Nat) (f : D3) : TS := fun Z σ H => ∃ F0 H0 F ρ kvs r, Sn K C [] F0 H0 F H σ ρ ∧ lk ρ i = none ∧ HasD i σ H0 F H kvs ∧ f ρ kvs = some r ∧
  ∀ σ' F' H', Sn K C [] F0 H0 F' H' σ' r.1 → lk r.1 i = none → HasD i σ' H0 F' H' r.2 → Same F F' → Z.nx σ' H'
theorem HasD.step {i : Nat} {σ : L2.St} {H0 F H F' H' : Hp} {kvs : KVI} (h : HasD i σ H0 F H kvs) (s : Stp F H F' H') : HasD i σ H0 F' H' kvs := by
  obtain ⟨p, h1, h2, h3, h4⟩ := h
  exact ⟨p, h1, s.hh _ _ h2, (s.old _ _ h2).trans h3, h4⟩
end DL
namespace DL
open PySem PySem.Spec PyProof.Rows L2
def mendE : D → Bool
  | .tup [.int _, .int _, .non] => true
  | .tup [.int _, .int _, .lst xs] => decide (xs.length ≤ 1000000) && (asInts xs).isSome
  | _ => false
def mendOk : D → Bool
  | .lst es => decide (es.length ≤ 100000) && es.all mendE
  | _ => false
def dMend (iF iD : Nat) (ws : List Nat) (m : List D → Option D) (fs : DFs) : DS := fun ρ => (fs ρ).bind fun ds => if okTs ds = true ∧ ws.all (fun i => decide (i < ρ.length)) = true then (m ds).bind fun d => if mendOk d = true then (lk ρ iD).bind fun e => (opNe d e).bind fun b => (asB b).bind fun t => if t = true then some (.rt (.bl false)) else some (.nx (wipeR ρ ws)) else none else none
theorem lk_wipeR : ∀ (ws : List Nat) (ρ : Rho) (j : Nat) (d : D), lk (wipeR ρ ws) j = some d → j ∉ ws ∧ lk ρ j = some d
  | [], ρ, j, d, h => ⟨List.not_mem_nil, h⟩
  | v :: vs, ρ, j, d, h => by
    unfold wipeR at h
    by_cases e : j = v
    · subst e
      rw [lk_un_same] at h
      cases h
    · rw [lk_un_ne e] at h
      obtain ⟨h1, h2⟩ := lk_wipeR vs ρ j d h
      exact ⟨fun z => (List.mem_cons.mp z).elim e h1, h2⟩
theorem len_wipeR : ∀ (ws : List Nat) (ρ : Rho), (wipeR ρ ws).length = ρ.length
  | [], _ => rfl
  | v :: vs, ρ => by
    unfold wipeR
    rw [un_len, len_wipeR vs ρ]
/-- what the loop needs of the list -/
structure Mds (H : Hp) (p : Addr) (vs : List V) (inner : Addr → Prop) : Prop where
  hp : H p = some (.lst vs)
  np : ¬ inner p
  el : ∀ v ∈ vs, ∃ a i j u, v = .ref a ∧ ¬ inner a ∧ H a = some (.tup [.int i, .int j, u]) ∧ (u = .non ∨ ∃ q, u = .ref q ∧ inner q)
  ln : ∀ q, inner q → ∃ ws, H q = some (.lst ws) ∧ ws.length ≤ 1000000
theorem Mds.mono {H H' : Hp} {p : Addr} {vs : List V} {inner : Addr → Prop} (h : Mds H p vs inner) (s : Same H H') : Mds H' p vs inner := by
  refine ⟨s _ _ h.hp, h.np, fun v hv => ?_, fun q hq => ?_⟩
  · obtain ⟨a, i, j, u, e, n, ha, hu⟩ := h.el v hv
    exact ⟨a, i, j, u, e, n, s _ _ ha, hu⟩
  · obtain ⟨ws, hw, hl⟩ := h.ln q hq
    exact ⟨ws, s _ _ hw, hl⟩
section
variable {X : Cx} {C : Addr} {pos : Pos}
/-- the loop -/
theorem ps_mendloop (iF iR iC iV : Nat) {xF xR xC xV : Str} {k : Nat} {q1 q2 q3 q4 q5 q6 q7 q8 q9 qa qb qc : Pos} (hp : PassesOwn (model X.prog X.w) X.A X.env X.xe) (hc : X.calm = true) (hN : X.N.Nodup)
    (hF : X.N[iF]? = some xF) (vF : Vis X.env.scope xF) (hR : X.N[iR]? = some xR) (lR : Loc X.env.scope xR) (fR : X.fn xR = true ∨ X.env.scope.names.lookup xR = some .local) (hC : X.N[iC]? = some xC) (lC : Loc X.env.scope xC) (fC : X.fn xC = true ∨ X.env.scope.names.lookup xC = some .local)
    (hV : X.N[iV]? = some xV) (lV : Loc X.env.scope xV) (fV : X.fn xV = true ∨ X.env.scope.names.lookup xV = some .local) (vV : Vis X.env.scope xV) (n1 : iF ≠ iR) (n2 : iF ≠ iC) (n3 : iF ≠ iV) {kz : Nat}
    (dF : (xF == ("__debug__" : Str)) = false ∧ (xF == ("__classdict__" : Str)) = false) (dV : (xV == ("__debug__" : Str)) = false ∧ (xV == ("__classdict__" : Str)) = false)
    (hbase : attributeBase (.Name xV q5) "append" X.env (eval (.Name xV q5) X.env) = eval (.Name xV q5) X.env)
    (hfew : ((backTo q8 (starEach [.Constant (.int 0) kz q7] X.env)).all (fun x => !x.1) && (backToKw q8 (keywordEach [] X.env)).all (fun x => x.1.isSome)
      && decide ([Expr.Constant (.int 0) kz q7].length + ([] : List Keyword).length + (if ([] : List Keyword).isEmpty then 0 else 1) < 30)) = true)
    (hline : (q6.endLine == q8.line) = true) (hs : starEach [.Constant (.int 0) kz q7] X.env = (false, eval (.Constant (.int 0) kz q7) X.env) :: starEach [] X.env) (hplain : (backTo q8 (starEach [] X.env)).any (·.1) = false)
    (hsw : swapsWith (.Call (.Attribute (.Name xV q5) "append" q6) [.Constant (.int 0) kz q7] [] q8) none q9.line X.env = pure false)
    (hfi : ∀ x, foldedSetIterable (.Name xF q4) X.env x = pure x) {k2 : Nat} {qd qe qf : Pos}
    (ha : (assignEach [.Name xR q1, .Name xC q2, .Name xV q3] X.env).map (·.2) = [assign (.Name xR q1) X.env, assign (.Name xC q2) X.env, assign (.Name xV q3) X.env]) (hal : (assignEach [.Name xR q1, .Name xC q2, .Name xV q3] X.env).length = 3) (hst : (assignEach [.Name xR q1, .Name xC q2, .Name xV q3] X.env).findIdx? (·.1) = none)
    (ha2 : (assignEach [.Name xC q2, .Name xV q3] X.env).map (·.2) = [assign (.Name xC q2) X.env, assign (.Name xV q3) X.env]) (ha3 : (assignEach [.Name xV q3] X.env).map (·.2) = [assign (.Name xV q3) X.env]) (ha0 : (assignEach [] X.env).map (·.2) = []) :
    PS X (.For (.Tuple [.Name xR q1, .Name xC q2, .Name xV q3] k qa) (.Name xF q4) [.If (.Compare (.Name xV qd) [.IsNot] [.Constant .none k2 qe] qf) [.Expr (.Call (.Attribute (.Name xV q5) "append" q6) [.Constant (.int 0) kz q7] [] q8) q9] [] qb] [] qc)
      (fun Z σ H => ∃ p vs inner, σ[iF]? = some (some (.ref p)) ∧ iR < σ.length ∧ iC < σ.length ∧ iV < σ.length ∧ vs.length ≤ 100000 ∧ Mds H p vs inner ∧ ∀ σ' H', σ'.length = σ.length → (∀ j, j ≠ iR → j ≠ iC → j ≠ iV → σ'[j]? = σ[j]?) → (∀ a o, ¬ inner a → H a = some o → H' a = some o) → Z.nx σ' H') := by
  have g3 := pgs_cons (pg_name (pos := q3) hN hV lV fV) pgs_nil (by rw [ha3, ha0])
  have g2 := pgs_cons (pg_name (pos := q2) hN hC lC fC) g3 (by rw [ha2, ha3])
  have g1 := pgs_cons (pg_name (pos := q1) hN hR lR fR) g2 (by rw [ha, ha2])
  have body := pss_one (ps_if (pos := qb) (pt_cmpR (pos := qf) op_notN (pe_var (pos := qd) hV vV dV.1 dV.2) (pe_non (j := k2) (pos := qe)) (nomark _)) (pss_one (ps_expr (pos := q9) (pe_bm PySem.F.plainAttrs_list PySem.F.slot_list_append PySem.F.type_list_append mt_append (pe_var (pos := q5) hV vV dV.1 dV.2) (pa_cons (pe_int (i := 0) (j := kz) (pos := q7)) pa_nil hs) hbase hfew hline hs hplain) hsw)) pss_nil)
  refine PSw (ps_for hp hc (pi_list (pe_var (pos := q4) hF vF dF.1 dF.2)) (pg_tup (k := k) (pos := qa) hc g1 hal hst) body hfi) fun Z σ H ⟨p, vs, inner, s1, bR, bC, bV, vl, M, K⟩ => ?_
  refine ⟨.ref p, s1, p, rfl, ⟨vs, SqL.of M.hp⟩, ?_⟩
  refine ⟨fun i m σ' H' => m = vs.length - i ∧ i ≤ vs.length ∧ σ'.length = σ.length ∧ (∀ j, j ≠ iR → j ≠ iC → j ≠ iV → σ'[j]? = σ[j]?) ∧ (∀ a o, ¬ inner a → H a = some o → H' a = some o) ∧ ∀ q, inner q → ∃ ws, H' q = some (.lst ws) ∧ ws.length ≤ 1000000 + i,
    ⟨vs.length, rfl, Nat.zero_le _, rfl, fun _ _ _ _ => rfl, fun _ _ _ e => e, fun q hq => M.ln q hq⟩, fun i m σ1 H1 ⟨em, hi, hl, hσ, hH, hq⟩ => ?_⟩
  subst em
  have hp1 : H1 p = some (.lst vs) := hH p _ M.np M.hp
  by_cases hlt : i < vs.length
  · right
    refine ⟨⟨vs, vs[i], SqL.of hp1, List.getElem?_eq_getElem hlt⟩, fun σ' H' => i + 1 ≤ vs.length ∧ σ'.length = σ.length ∧ (∀ j, j ≠ iR → j ≠ iC → j ≠ iV → σ'[j]? = σ[j]?) ∧ (∀ a o, ¬ inner a → H a = some o → H' a = some o) ∧ ∀ q, inner q → ∃ ws, H' q = some (.lst ws) ∧ ws.length ≤ 1000000 + (i + 1), fun σ' H' q => ⟨vs.length - (i + 1), by omega, rfl, q⟩, fun x H2 y => ?_⟩
    obtain ⟨e2, y⟩ := y
    subst e2
    have ex : vs[i]? = some x := y vs (SqL.of hp1)
    have hx : x ∈ vs := List.mem_of_getElem? ex
    obtain ⟨a, r, c, u, rfl, na, hta, hu⟩ := M.el x hx
    have ht1 := hH a _ na hta
    refine ⟨a, _, rfl, SqT.of ht1, rfl, .int r, [.int c, u], rfl, .int c, [u], rfl, u, [], rfl, rfl, ?_⟩
    have σl : (((σ1.set iR (some (.int r))).set iC (some (.int c))).set iV (some u)).length = σ.length := by rw [List.length_set, List.length_set, List.length_set, hl]
    have σe : ∀ j, j ≠ iR → j ≠ iC → j ≠ iV → (((σ1.set iR (some (.int r))).set iC (some (.int c))).set iV (some u))[j]? = σ[j]? := fun j h1 h2 h3 => by
      rw [List.getElem?_set_ne (Ne.symm h3), List.getElem?_set_ne (Ne.symm h2), List.getElem?_set_ne (Ne.symm h1)]
      exact hσ j h1 h2 h3
    have σv : (((σ1.set iR (some (.int r))).set iC (some (.int c))).set iV (some u))[iV]? = some (some u) := List.getElem?_set_self (by rw [List.length_set, List.length_set, hl]; exact bV)
    refine ⟨u, σv, rfl, ?_⟩
    rcases hu with rfl | ⟨q, rfl, hqi⟩
    · refine ⟨false, rfl, ?_⟩
      dsimp only
      rw [if_neg Bool.false_ne_true]
      exact ⟨hlt, σl, σe, hH, fun q hq' => by
        obtain ⟨ws, h1, h2⟩ := hq q hq'
        exact ⟨ws, h1, by omega⟩⟩
    · refine ⟨true, rfl, ?_⟩
      dsimp only
      rw [if_pos rfl]
      obtain ⟨ws, h1, h2⟩ := hq q hqi
      refine ⟨.ref q, σv, .inl ⟨rfl, ws, SqL.of h1⟩, q, ws, .int 0, rfl, rfl, h1, by rw [sizeLine_eq]; omega, ?_⟩
      refine ⟨hlt, σl, σe, fun b o nb e => ?_, fun q' hq' => ?_⟩
      · rw [upd_ne (fun z : b = q => nb (by rw [z]; exact hqi))]
        exact hH b o nb e
      · by_cases z : q' = q
        · subst z
          exact ⟨_, upd_same, by rw [List.length_append, List.length_singleton]; omega⟩
        · obtain ⟨ws', h1', h2'⟩ := hq q' hq'
          exact ⟨ws', by rw [upd_ne z]; exact h1', by omega⟩
  · left
    have ei : i = vs.length := by omega
    subst ei
    exact ⟨⟨vs, SqL.of hp1, Nat.le_refl _⟩, K σ1 H1 hl hσ hH⟩
theorem mendE_rd {K : PySem.W.Frag} {F : Hp} {d : D} {v : V} (h : mendE d = true) (r : Rp K C F d v) : ∃ a i j u, v = .ref a ∧ F a = some (.tup [.int i, .int j, u]) ∧ (u = .non ∨ ∃ (q : Addr) (ns : List Int), u = .ref q ∧ F q = some (.lst (ns.map V.int)) ∧ ns.length ≤ 1000000) := by
  match d, h, r with
  | .tup [.int i, .int j, .non], h, r =>
    obtain ⟨a, xs, rfl, ha, x1, r1, rfl, h1, x2, r2, rfl, h2, x3, r3, rfl, h3, h4⟩ := r
    cases h1; cases h2; cases h3; cases h4
    exact ⟨a, i, j, .non, rfl, ha, .inl rfl⟩
  | .tup [.int i, .int j, .lst es], h, r =>
    obtain ⟨a, xs, rfl, ha, x1, r1, rfl, h1, x2, r2, rfl, h2, x3, r3, rfl, h3, h4⟩ := r
    cases h1; cases h2; cases h4
    obtain ⟨q, ys, rfl, hq, hl⟩ := h3
    have h : (decide (es.length ≤ 1000000) && (asInts es).isSome) = true := h
    rw [Bool.and_eq_true, decide_eq_true_eq] at h
    obtain ⟨ns, e⟩ := Option.isSome_iff_exists.mp h.2
    have ey := intsRp e hl
    refine ⟨a, i, j, .ref q, rfl, ha, .inr ⟨q, ns, rfl, by rw [← ey]; exact hq, ?_⟩⟩
    have := hl.len
    rw [ey, List.length_map] at this
    omega
theorem mends_rd {K : PySem.W.Frag} {F : Hp} : ∀ {es : List D} {vs : List V}, es.all mendE = true → RpL K C F es vs → ∀ v ∈ vs, ∃ a i j u, v = .ref a ∧ F a = some (.tup [.int i, .int j, u]) ∧ (u = .non ∨ ∃ (q : Addr) (ns : List Int), u = .ref q ∧ F q = some (.lst (ns.map V.int)) ∧ ns.length ≤ 1000000)
  | [], vs, _, r => fun v hv => by
    have e : vs = [] := r
    subst e
    exact absurd hv List.not_mem_nil
  | e :: es, vs, h, r => fun v hv => by
    obtain ⟨x, r', rfl, h1, h2⟩ := r
    rw [List.all_cons, Bool.and_eq_true] at h
    rcases List.mem_cons.mp hv with z | z
    · rw [z]
      exact mendE_rd h.1 h1
    · exact mends_rd h.2 h2 v z
/-- all three -/
theorem dss_mend (iF iD iR iC iV : Nat) {xF xD xR xC xV x : Str} {k : Nat} {q1 q2 q3 q4 q5 q6 q7 q8 q9 qa qb qc : Pos} {kz k2 kp jr j : Nat} {qd qe qf p1 p2 p3 p4 p5 p6 p7 p8 p9 pa : Pos} {ps : List Str} {m : List D → Option D} {e : Expr} {es : List Expr} {fs : DFs} {ss : List Stmt} {O' : List Nat} {g : DS}
    (cl : Cal X.prog X.w X.K X.mg X.base C kp x ps m) (hr : Room j X.A) (hu : X.A.units + 64 < cLine) (hg : Gl X x) (ha : DA X C [] (e :: es) fs) (hp : PassesOwn (model X.prog X.w) X.A X.env X.xe) (hc : X.calm = true) (hN : X.N.Nodup) (h2 : DSs X C [] O' ss g) (hk : kp ≤ j := by decide)
    (hF : X.N[iF]? = some xF := by rfl) (lF : Loc X.env.scope xF := by first | exact Or.inl rfl | exact Or.inr rfl) (fF : X.fn xF = true ∨ X.env.scope.names.lookup xF = some .local := by first | exact .inl rfl | exact .inr rfl) (vF : Vis X.env.scope xF := by first | exact Or.inl rfl | exact Or.inr (Or.inl rfl) | exact Or.inr (Or.inr rfl))
    (hD : X.N[iD]? = some xD := by rfl) (vD : Vis X.env.scope xD := by first | exact Or.inl rfl | exact Or.inr (Or.inl rfl) | exact Or.inr (Or.inr rfl))
    (hR : X.N[iR]? = some xR := by rfl) (lR : Loc X.env.scope xR := by first | exact Or.inl rfl | exact Or.inr rfl) (fR : X.fn xR = true ∨ X.env.scope.names.lookup xR = some .local := by first | exact .inl rfl | exact .inr rfl) (hC : X.N[iC]? = some xC := by rfl) (lC : Loc X.env.scope xC := by first | exact Or.inl rfl | exact Or.inr rfl) (fC : X.fn xC = true ∨ X.env.scope.names.lookup xC = some .local := by first | exact .inl rfl | exact .inr rfl)
    (hV : X.N[iV]? = some xV := by rfl) (lV : Loc X.env.scope xV := by first | exact Or.inl rfl | exact Or.inr rfl) (fV : X.fn xV = true ∨ X.env.scope.names.lookup xV = some .local := by first | exact .inl rfl | exact .inr rfl) (vV : Vis X.env.scope xV := by first | exact Or.inl rfl | exact Or.inr (Or.inl rfl) | exact Or.inr (Or.inr rfl)) (nn : iF ≠ iR ∧ iF ≠ iC ∧ iF ≠ iV ∧ iD ≠ iF ∧ iD ≠ iR ∧ iD ≠ iC ∧ iD ≠ iV := by decide)
    (dF : (xF == ("__debug__" : Str)) = false ∧ (xF == ("__classdict__" : Str)) = false := by decide) (dD : (xD == ("__debug__" : Str)) = false ∧ (xD == ("__classdict__" : Str)) = false := by decide) (dV : (xV == ("__debug__" : Str)) = false ∧ (xV == ("__classdict__" : Str)) = false := by decide) (hdb : (x == ("__debug__" : Str)) = false := by decide)
    (he : starEach (e :: es) X.env = (false, eval e X.env) :: starEach es X.env := by rfl) (hpl : (backTo p2 (starEach es X.env)).any (·.1) = false := by rfl)
    (hsF : swapsWith (.Call (.Name x p1) (e :: es) [] p2) (some (.Name xF p3)) p4.line X.env = pure false := by rfl)
    (hbase : attributeBase (.Name xV q5) "append" X.env (eval (.Name xV q5) X.env) = eval (.Name xV q5) X.env := by rfl)
    (hfew : ((backTo q8 (starEach [.Constant (.int 0) kz q7] X.env)).all (fun x => !x.1) && (backToKw q8 (keywordEach [] X.env)).all (fun x => x.1.isSome)
      && decide ([Expr.Constant (.int 0) kz q7].length + ([] : List Keyword).length + (if ([] : List Keyword).isEmpty then 0 else 1) < 30)) = true := by rfl)
    (hline : (q6.endLine == q8.line) = true := by rfl) (hs : starEach [.Constant (.int 0) kz q7] X.env = (false, eval (.Constant (.int 0) kz q7) X.env) :: starEach [] X.env := by rfl) (hplain : (backTo q8 (starEach [] X.env)).any (·.1) = false := by rfl)
    (hsw : swapsWith (.Call (.Attribute (.Name xV q5) "append" q6) [.Constant (.int 0) kz q7] [] q8) none q9.line X.env = pure false := by rfl)
    (hfi : ∀ x, foldedSetIterable (.Name xF q4) X.env x = pure x := by intro _; rfl)
    (ha1 : (assignEach [.Name xR q1, .Name xC q2, .Name xV q3] X.env).map (·.2) = [assign (.Name xR q1) X.env, assign (.Name xC q2) X.env, assign (.Name xV q3) X.env] := by rfl) (hal : (assignEach [.Name xR q1, .Name xC q2, .Name xV q3] X.env).length = 3 := by rfl) (hst : (assignEach [.Name xR q1, .Name xC q2, .Name xV q3] X.env).findIdx? (·.1) = none := by rfl)
    (ha2 : (assignEach [.Name xC q2, .Name xV q3] X.env).map (·.2) = [assign (.Name xC q2) X.env, assign (.Name xV q3) X.env] := by rfl) (ha3 : (assignEach [.Name xV q3] X.env).map (·.2) = [assign (.Name xV q3) X.env] := by rfl) (ha0 : (assignEach [] X.env).map (·.2) = [] := by rfl) :
    DSs X C [] O' (.Assign [.Name xF p3] (.Call (.Name x p1) (e :: es) [] p2) p4 ::
      .If (.Compare (.Name xF p5) [.NotEq] [.Name xD p6] p7) [.Return (some (.Constant (.bool false) jr p8)) p9] [] pa ::
      .For (.Tuple [.Name xR q1, .Name xC q2, .Name xV q3] k qa) (.Name xF q4) [.If (.Compare (.Name xV qd) [.IsNot] [.Constant .none k2 qe] qf) [.Expr (.Call (.Attribute (.Name xV q5) "append" q6) [.Constant (.int 0) kz q7] [] q8) q9] [] qb] [] qc :: ss)
      (dSeq (dMend iF iD [iF, iR, iC, iV] m fs) g) := by
  obtain ⟨f, fd, Fn, hm, hkp, hb⟩ := cl.ex
  obtain ⟨n1, n2, n3, n4, n5, n6, n7⟩ := nn
  have s1 := ps_set (pos := p4) (pos' := p3) hN hF lF (pe_call (p := p1) (pos := p2) Fn (hr.mono hk) hg hm hkp hb .nil pass0 ha hdb he hpl) hsF fF
  have s2 := ps_if (pos := pa) (dt_cmp (C := C) (O := []) (pos := p7) (od_ne hu) (de_var (pos := p5) iF hF vF List.not_mem_nil dF.1 dF.2) (de_var (pos := p6) iD hD vD List.not_mem_nil dD.1 dD.2) (nomark _)) (pss_one (ps_ret (pos := p9) (pe_bl (b := false) (j := jr) (pos := p8)))) (pss_nil (X := X))
  have s3 := ps_mendloop (X := X) (q1 := q1) (q2 := q2) (q3 := q3) (q4 := q4) (q5 := q5) (q6 := q6) (q7 := q7) (q8 := q8) (q9 := q9) (qa := qa) (qb := qb) (qc := qc) (qd := qd) (qe := qe) (qf := qf) (k := k) (k2 := k2) (kz := kz) iF iR iC iV hp hc hN hF vF hR lR fR hC lC fC hV lV fV vV n1 n2 n3 dF dV hbase hfew hline hs hplain hsw hfi ha1 hal hst ha2 ha3 ha0
  refine PSsw (pss_cons s1 (pss_cons s2 (pss_cons s3 h2))) fun Z σ H ⟨F0, H0, F, ρ, r, S, hf, kk⟩ => ?_
  obtain ⟨r1, c1, c2⟩ := bind_some hf
  obtain ⟨ds, d1, d2⟩ := bind_some c1
  split at d2
  · rename_i hok0
    have hok : okTs ds = true ∧ iF < ρ.length ∧ iR < ρ.length ∧ iC < ρ.length ∧ iV < ρ.length := by
      have := hok0.2
      simp only [List.all_cons, List.all_nil, Bool.and_true, Bool.and_eq_true, decide_eq_true_eq] at this
      exact ⟨hok0.1, this⟩
    obtain ⟨d, d3, d4⟩ := bind_some d2
    split at d4
    · rename_i hme
      obtain ⟨ed, d5, d6⟩ := bind_some d4
      obtain ⟨b, d7, d8⟩ := bind_some d6
      obtain ⟨t, d9, d10⟩ := bind_some d8
      refine ⟨F, ρ, ds, S.en, d1, fun vs F1 H1 s1' r1' => ?_⟩
      show spD X.K C m (vs ++ []) H1 _ E0
      rw [List.append_nil]
      refine ⟨tpart F1, ds, d, fun a o q => s1'.fh a o (tpart_some q).1, RpL.tpart ds vs hok.1 r1', d3, fun v F2 H2 s2' r2' => ?_⟩
      have S1 := S.step s1'
      cases d with
      | lst es' =>
        obtain ⟨p, us, rfl, hpp, hl⟩ := r2'
        have hme : (decide (es'.length ≤ 100000) && es'.all mendE) = true := hme
        rw [Bool.and_eq_true, decide_eq_true_eq] at hme
        have md := mends_rd hme.2 hl
        have nw : ∀ {a : Addr} {xs : List V}, F2 a = some (.lst xs) → H1 a = none := fun {a xs} q => by
          cases z : H1 a with
          | none => rfl
          | some o =>
            have := s2'.old a o z
            rw [q] at this
            obtain ⟨_, ys, ey⟩ := tpart_some this.symm
            cases ey
        have sub : Same F1 H2 := s1'.fh.trans s2'.hh
        let Fm : Hp := fun a => match F1 a with
          | some o => some o
          | none => F2 a
        have m1 : Same F1 Fm := fun a o q => by
          show (match F1 a with | some o => some o | none => F2 a) = some o
          rw [q]
        have m2 : Same F2 Fm := fun a o q => by
          show (match F1 a with | some o => some o | none => F2 a) = some o
          cases z : F1 a with
          | none => exact q
          | some o2 =>
            have w1 := sub a o2 z
            rw [s2'.fh a o q] at w1
            exact w1.symm
        have m3 : Same Fm H2 := fun a o q => by
          have q : (match F1 a with | some o => some o | none => F2 a) = some o := q
          cases z : F1 a with
          | none =>
            rw [z] at q
            exact s2'.fh a o q
          | some o2 =>
            rw [z] at q
            cases q
            exact sub a _ z
        have Em : En X.K C [] Fm H2 (σ.set iF (some (.ref p))) (st ρ iF (.lst es')) := (En.mono0 S1.en m1 m3).set List.not_mem_nil ⟨p, us, rfl, m2 _ _ hpp, RpL.mono m2 _ _ hl⟩
        refine ⟨Fm, st ρ iF (.lst es'), t, Em, ?_, fun F3 H3 s3' => ?_⟩
        · show ((lk (st ρ iF (.lst es')) iF).bind fun x => (lk (st ρ iF (.lst es')) iD).bind fun y => opNe x y).bind asB = some t
          rw [lk_st_eq hok.2.1, lk_st_ne n4, d5]
          show (opNe (.lst es') ed).bind asB = some t
          rw [d7]
          exact d9
        · have h13 : Same H1 H3 := s2'.hh.trans s3'.hh
          cases t with
          | true =>
            dsimp only
            rw [if_pos rfl] at d10 ⊢
            cases d10
            cases c2
            exact kk (.bl false) F1 H3 ⟨S1.sp.ff, S1.sp.hh.trans h13, s1'.fh.trans h13, S1.sp.old⟩ rfl
          | false =>
            dsimp only
            rw [if_neg Bool.false_ne_true] at d10 ⊢
            cases d10
            let inner : Addr → Prop := fun q => ∃ v ∈ us, ∃ a i j, v = .ref a ∧ F2 a = some (.tup [.int i, .int j, .ref q]) ∧ ∃ ns : List Int, F2 q = some (.lst (ns.map V.int)) ∧ ns.length ≤ 1000000
            have ni : ∀ {a : Addr} {o : HO}, H1 a = some o → ¬ inner a := fun {a o} e ⟨_, _, _, _, _, _, _, ns, e2, _⟩ => by
              rw [nw e2] at e
              cases e
            have len1 : σ.length = ρ.length := S.en.len
            have M : Mds H2 p us inner := by
              refine ⟨s2'.fh _ _ hpp, fun ⟨v, hv, a, i, j, e1, e2, ns, e3, _⟩ => ?_, fun v hv => ?_, fun q ⟨v, hv, a, i, j, e1, e2, ns, e3, e4⟩ => ⟨_, s2'.fh _ _ e3, by rw [List.length_map]; exact e4⟩⟩
              · rw [hpp] at e3
                cases e3
                obtain ⟨n, _, en⟩ := List.mem_map.mp hv
                rw [e1] at en
                cases en
              · obtain ⟨a, i, j, u, e1, e2, e3⟩ := md v hv
                refine ⟨a, i, j, u, e1, fun ⟨_, _, _, _, _, _, _, ns, z, _⟩ => (by rw [e2] at z; cases z), s2'.fh _ _ e2, ?_⟩
                rcases e3 with e3 | ⟨q, ns, rfl, e4, e5⟩
                · exact .inl e3
                · exact .inr ⟨q, rfl, v, hv, a, i, j, e1, e2, ns, e4, e5⟩
            have lus : us.length ≤ 100000 := by rw [← hl.len]; exact hme.1
            have sl : (σ.set iF (some (.ref p)))[iF]? = some (some (.ref p)) := List.getElem?_set_self (by rw [S.en.len]; exact hok.2.1)
            refine ⟨p, us, inner, sl, by rw [List.length_set, len1]; exact hok.2.2.1, by rw [List.length_set, len1]; exact hok.2.2.2.1, by rw [List.length_set, len1]; exact hok.2.2.2.2, lus, M.mono s3'.hh, fun σ' H' hl' hσ' hH' => ?_⟩
            have keep : ∀ {a : Addr} {o : HO}, H1 a = some o → H' a = some o := fun {a o} e => hH' a o (ni e) (h13 a o e)
            refine ⟨F0, H0, F1, wipeR ρ [iF, iR, iC, iV], r, ⟨⟨fun a o e => keep (s1'.fh a o e), by rw [hl', List.length_set, len_wipeR]; exact S.en.len, fun j d hj e => ?_, fun j d hj => absurd hj List.not_mem_nil, fun j k d e p hj => absurd hj List.not_mem_nil⟩, ⟨S1.sp.ff, fun a o e => keep (S1.sp.hh a o e), fun a o e => keep (s1'.fh a o e), S1.sp.old⟩, fun j d q hj => absurd hj List.not_mem_nil⟩, c2, kk.mono s1'.ff⟩
            obtain ⟨hj2, e2⟩ := lk_wipeR _ ρ j d e
            obtain ⟨v, y1, y2⟩ := S1.en.pl j d List.not_mem_nil e2
            refine ⟨v, ?_, y2⟩
            have jn : j ≠ iF ∧ j ≠ iR ∧ j ≠ iC ∧ j ≠ iV := by
              refine ⟨fun z => hj2 ?_, fun z => hj2 ?_, fun z => hj2 ?_, fun z => hj2 ?_⟩ <;> rw [z] <;> simp
            rw [hσ' j jn.2.1 jn.2.2.1 jn.2.2.2, List.getElem?_set_ne (Ne.symm jn.1)]
            exact y1
      | _ => cases hme
    · cases d4
  · cases d2
end
end DL
namespace Mi
open DL
def m_gcd_b1 : DS := (dPar 0 1 (dv 1) (d2 opMod (dv 0) (dv 1)))
def m_gcd : List D → Option D := runD 2 2 ((dSeq (dWhile (bV (d2 opGt (dv 1) (dc (.int 0)))) m_gcd_b1)
    (dRet (dv 0))))
def m_lcm : List D → Option D := runD 2 2 ((dRet (d2 opMul (d2 opFdiv (dv 0) (dL m_gcd (dcons (dv 0) (dcons (dv 1) dnil)))) (dv 1))))
def m_turned_c1 : DF := (dComp (iSeq (dv 0)) (gN 2) bYes (d2 opIx (dv 2) (dv 1)) [2])
def m_turned_c2 : DF := (dComp (iRng1 (dcons (dL opLen (dcons (d2 opIx (dv 0) (dc (.int 0))) dnil)) dnil)) (gN 1) bYes (dL opTuple (dcons m_turned_c1 dnil)) [1])
def m_turned : List D → Option D := runD 3 1 ((dRet (dL opTuple (dcons m_turned_c2 dnil))))
def m_row_divisor_b1 : DS := (dIfS (bV (d2 opIsNot (dv 2) (dc .non))) (dSet 1 (dL m_gcd (dcons (dv 2) (dcons (dv 1) dnil)))) dNx)
def m_row_divisor : List D → Option D := runD 3 1 ((dSeq (dSet 1 (dc (.int 0)))
    (dSeq (dFor (iSeq (dv 0)) (gN 2) m_row_divisor_b1)
    (dRet (dv 1)))))
def m_greatest_c1 : DF := (dComp (iSeq (dL m_turned (dcons (dv 0) dnil))) (gN 1) bYes (dL m_row_divisor (dcons (dv 1) dnil)) [1])
def m_greatest_c2 : DF := (dComp (iSeq (dv 0)) (gN 1) bYes (dL m_row_divisor (dcons (dv 1) dnil)) [1])
def m_greatest : List D → Option D := runD 2 1 ((dRet (dL opTup (dcons (dL opTuple (dcons m_greatest_c2 dnil)) (dcons (dL opTuple (dcons m_greatest_c1 dnil)) dnil)))))
def m_known_places_c1 : DF := (dComp (iRng1 (dcons (dL opLen (dcons (d2 opIx (dv 0) (dc (.int 0))) dnil)) dnil)) (gN 3) (bV (d2 opIsNot (d2 opIx (d2 opIx (dv 0) (dv 2)) (dv 3)) (dc .non))) (dL opTup (dcons (dv 2) (dcons (dv 3) dnil))) [3])
def m_known_places_b1 : DS := (dSet 1 (d2 opAdd (dv 1) m_known_places_c1))
def m_known_places : List D → Option D := runD 4 1 ((dSeq (dSet 1 (dL opLst dnil))
    (dSeq (dFor (iRng1 (dcons (dL opLen (dcons (dv 0) dnil)) dnil)) (gN 2) m_known_places_b1)
    (dRet (dv 1)))))
def m_is_real_c1 : DF := (dComp (iSeq (dL m_known_places (dcons (dv 0) dnil))) (gT (gsCons (gN 3) (gsCons (gN 4) gsNil))) bYes (d2 opEq (dL m_lcm (dcons (d2 opIx (dv 1) (dv 3)) (dcons (d2 opIx (dv 2) (dv 4)) dnil))) (d2 opIx (d2 opIx (dv 0) (dv 3)) (dv 4))) [3, 4])
def m_is_real : List D → Option D := runD 5 1 ((dSeq (dAsg (gT (gsCons (gN 1) (gsCons (gN 2) gsNil))) (dL m_greatest (dcons (dv 0) dnil)))
    (dRet (dL opAll (dcons m_is_real_c1 dnil)))))
def m_law_cell : List D → Option D := runD 2 2 ((dSeq (dIfS (bV (d2 opLt (dv 1) (dL opLen (dcons (dv 0) dnil)))) (dRet (d2 opIx (dv 0) (dv 1))) dNx)
    (dSeq (dIfS (bV (d2 opEq (dL opLen (dcons (dv 0) dnil)) (dc (.int 0)))) (dRet (d2 opAdd (d2 opMul (dc (.int 7919)) (dv 1)) (dc (.int 101)))) dNx)
    (dRet (d2 opAdd (d2 opMod (d2 opIx (dv 0) (d2 opMod (dv 1) (dL opLen (dcons (dv 0) dnil)))) (dc (.int 1000003))) (d2 opMul (dc (.int 7919)) (dv 1)))))))
def m_law_digits_b1 : DS := (dSeq (dSet 9 (d2 opMul (d2 opMod (dv 5) (d2 opIx (dv 4) (d2 opMod (dv 8) (dc (.int 8))))) (d2 opAdd (dc (.int 48271)) (d2 opMul (d2 opMul (dc (.int 2)) (dv 8)) (dv 8)))))
    (dSeq (dSet 9 (d2 opAdd (d2 opAdd (dv 9) (d2 opMul (d2 opMul (dc (.int 7919)) (d2 opAdd (dv 8) (dc (.int 1)))) (d2 opAdd (dv 8) (dc (.int 1))))) (d2 opMul (dc (.int 104729)) (dv 1))))
    (dSeq (dSet 9 (d2 opMod (dv 9) (d2 opIx (dv 4) (d2 opMod (d2 opAdd (d2 opMul (dc (.int 3)) (dv 8)) (dv 1)) (dc (.int 8))))))
    (dSeq (dSet 9 (d2 opMod (d2 opMul (d2 opMul (dv 9) (dv 9)) (dv 9)) (d2 opIx (dv 4) (d2 opMod (d2 opAdd (dv 8) (dc (.int 5))) (dc (.int 8))))))
    (dSeq (dIfS (bV (d2 opGt (dv 6) (dc (.int 0)))) (dSet 9 (dv 6)) dNx)
    (dSeq (dApp 7 (d2 opMod (dv 9) (dv 3)))
    (dSet 6 (d2 opFdiv (dv 6) (dv 3)))))))))
def m_law_digits : List D → Option D := runD 10 4 ((dSeq (dSet 4 (dL opTup (dcons (dc (.int 2147483647)) (dcons (dc (.int 2147483629)) (dcons (dc (.int 2147483587)) (dcons (dc (.int 2147483579)) (dcons (dc (.int 2147483563)) (dcons (dc (.int 2147483549)) (dcons (dc (.int 2147483543)) (dcons (dc (.int 2147483497)) dnil))))))))))
    (dSeq (dSet 5 (dL m_law_cell (dcons (dv 0) (dcons (dv 1) dnil))))
    (dSeq (dSet 6 (dIf (bV (d2 opGe (dv 5) (d2 opPow (dc (.int 10)) (dc (.int 18))))) (dv 5) (dc (.int 0))))
    (dSeq (dSetN 7 (nLst dnil))
    (dSeq (dFor (iRng1 (dcons (dv 2) dnil)) (gN 8) m_law_digits_b1)
    (dRet (dv 7))))))))
def m_law_gcd_b1 : DS := (dPar 0 1 (dv 1) (d2 opMod (dv 0) (dv 1)))
def m_law_gcd : List D → Option D := runD 2 2 ((dSeq (dWhile (bV (d2 opGt (dv 1) (dc (.int 0)))) m_law_gcd_b1)
    (dRet (dv 0))))
def m_law_lcm : List D → Option D := runD 2 2 ((dRet (d2 opFdiv (d2 opMul (dv 0) (dv 1)) (dL m_law_gcd (dcons (dv 0) (dcons (dv 1) dnil))))))
def m_law_numbers_c1 : DF := (dComp (iRng1 (dcons (dv 1) dnil)) (gN 6) bYes (d2 opIx (dv 3) (d2 opMod (d2 opIx (dv 0) (d2 opAdd (dc (.int 1)) (dv 6))) (dv 4))) [6])
def m_law_numbers_c2 : DF := (dComp (iRng1 (dcons (dv 2) dnil)) (gN 6) bYes (d2 opIx (dv 3) (d2 opMod (d2 opIx (dv 0) (d2 opAdd (dc (.int 6)) (dv 6))) (dv 4))) [6])
def m_law_numbers : List D → Option D := runD 7 3 ((dSeq (dSet 3 (dL opLst (dcons (dc (.int 1)) (dcons (dc (.int 2)) (dcons (dc (.int 3)) (dcons (dc (.int 4)) (dcons (dc (.int 6)) (dcons (dc (.int 8)) (dcons (dc (.int 9)) (dcons (dc (.int 12)) (dcons (dc (.int 5)) (dcons (dc (.int 10)) (dcons (dc (.int 18)) (dcons (dc (.int 30)) dnil))))))))))))))
    (dSeq (dSet 4 (d2 opIx (dL opLst (dcons (dc (.int 4)) (dcons (dc (.int 7)) (dcons (dc (.int 12)) dnil)))) (d2 opMod (d2 opIx (dv 0) (dc (.int 0))) (dc (.int 3)))))
    (dSeq (dSet 5 (dL opTuple (dcons m_law_numbers_c1 dnil)))
    (dRet (dL opTup (dcons (dv 5) (dcons (dL opTuple (dcons m_law_numbers_c2 dnil)) dnil))))))))
def m_law_table_c1 : DF := (dComp (iSeq (dv 1)) (gN 3) bYes (dL m_law_lcm (dcons (dv 2) (dcons (dv 3) dnil))) [3])
def m_law_table_c2 : DF := (dComp (iSeq (dv 0)) (gN 2) bYes (dL opTuple (dcons m_law_table_c1 dnil)) [2])
def m_law_table : List D → Option D := runD 4 2 ((dRet (dL opTuple (dcons m_law_table_c2 dnil))))
def m_law_hidden_b1 : DS := (dSeq (dApp 6 (dIf (bV (d2 opEq (d2 opMod (d2 opIx (dv 1) (d2 opMod (dv 4) (dL opLen (dcons (dv 1) dnil)))) (dv 2)) (dc (.int 0)))) (dc .non) (dv 7)))
    (dSet 4 (d2 opAdd (dv 4) (dc (.int 1)))))
def m_law_hidden_b2 : DS := (dSeq (dSetN 6 (nLst dnil))
    (dSeq (dFor (iSeq (dv 5)) (gN 7) m_law_hidden_b1)
    (dApp 3 (dL opTuple (dcons (dv 6) dnil)))))
def m_law_hidden : List D → Option D := runD 8 3 ((dSeq (dParN1 3 4 (nLst dnil) (dc (.int 0)))
    (dSeq (dFor (iSeq (dv 0)) (gN 5) m_law_hidden_b2)
    (dRet (dL opTuple (dcons (dv 3) dnil))))))
def m_law_spoilt_c1 : DF := (dComp (iSeq (dv 2)) (gN 3) bYes (dL opTuple (dcons (dv 3) dnil)) [3])
def m_law_spoilt : List D → Option D := runD 5 2 ((dSeq (dSetNN' 2 3 (iSeq (dv 0)))
    (dSeq (dPar 3 4 (scD (d2 opMod (d2 opIx (dv 1) (dc (.int 0))) (dL opLen (dcons (dv 2) dnil)))) (scD (d2 opMod (d2 opIx (dv 1) (dc (.int 1))) (dL opLen (dcons (d2 opIx (dv 2) (dc (.int 0))) dnil)))))
    (dSeq (dIfS (bV (d2 opIsNot (d2 opIx (d2 opIx (dv 2) (dv 3)) (dv 4)) (dc .non))) (dSetIx2 2 (dv 3) (dv 4) (d2 opIx (dL opLst (dcons (dc (.int 1)) (dcons (dc (.int 2)) (dcons (dc (.int 3)) (dcons (dc (.int 4)) (dcons (dc (.int 6)) (dcons (dc (.int 12)) (dcons (d2 opMul (d2 opIx (d2 opIx (dv 2) (dv 3)) (dv 4)) (dc (.int 2))) (dcons (d2 opMul (d2 opIx (d2 opIx (dv 2) (dv 3)) (dv 4)) (dc (.int 3))) dnil))))))))) (d2 opMod (d2 opIx (dv 1) (dc (.int 2))) (dc (.int 8))))) dNx)
    (dRet (dL opTuple (dcons m_law_spoilt_c1 dnil)))))))
def m_law_known_c1 : DF := (dComp (iEn (dcons (dv 3) dnil)) (gT (gsCons (gN 4) (gsCons (gN 5) gsNil))) (bV (d2 opIsNot (dv 5) (dc .non))) (dL opTup (dcons (dv 2) (dcons (dv 4) (dcons (dv 5) dnil)))) [4, 5])
def m_law_known_b1 : DS := (dSet 1 (d2 opAdd (dv 1) m_law_known_c1))
def m_law_known : List D → Option D := runD 6 1 ((dSeq (dSet 1 (dL opLst dnil))
    (dSeq (dFor (iEn (dcons (dv 0) dnil)) (gT (gsCons (gN 2) (gsCons (gN 3) gsNil))) m_law_known_b1)
    (dRet (dv 1)))))
end Mi
namespace Mi
open DL
def m_law_divisors_c1 : DF := (dComp (iRng2 (dcons (dc (.int 1)) (dcons (d2 opAdd (dv 0) (dc (.int 1))) dnil))) (gN 1) (bV (d2 opEq (d2 opMod (dv 0) (dv 1)) (dc (.int 0)))) (dv 1) [1])
def m_law_divisors : List D → Option D := runD 2 1 ((dRet m_law_divisors_c1))
def m_law_fits_c1 : DF := (dComp (iSeq (dL m_law_known (dcons (dv 0) dnil))) (gT (gsCons (gN 3) (gsCons (gN 4) (gsCons (gN 5) gsNil)))) (bV (d2 opNe (dL m_law_lcm (dcons (d2 opIx (dv 1) (dv 3)) (dcons (d2 opIx (dv 2) (dv 4)) dnil))) (dv 5))) (dc (.int 1)) [3, 4, 5])
def m_law_fits : List D → Option D := runD 6 3 ((dRet (d2 opEq m_law_fits_c1 (dL opLst dnil))))
def m_law_common_b1 : DS := (dSet 1 (dIf (bV (d2 opGt (dv 1) (dc (.int 0)))) (dL m_law_gcd (dcons (dv 2) (dcons (dv 1) dnil))) (dv 2)))
def m_law_common : List D → Option D := runD 3 1 ((dSeq (dSet 1 (dc (.int 0)))
    (dSeq (dFor (iSeq (dv 0)) (gN 2) m_law_common_b1)
    (dRet (dv 1)))))
def m_law_real_c1 : DF := (dComp (iSeq (dv 1)) (gT (gsCons (gN 6) (gsCons (gN 5) (gsCons (gN 7) gsNil)))) (bV (d2 opEq (dv 6) (dv 4))) (dv 7) [6, 5, 7])
def m_law_real_c2 : DF := (dComp (iRng1 (dcons (dL opLen (dcons (dv 0) dnil)) dnil)) (gN 4) bYes (dL m_law_common (dcons m_law_real_c1 dnil)) [4])
def m_law_real_c3 : DF := (dComp (iSeq (dv 1)) (gT (gsCons (gN 4) (gsCons (gN 6) (gsCons (gN 7) gsNil)))) (bV (d2 opEq (dv 6) (dv 5))) (dv 7) [4, 6, 7])
def m_law_real_c4 : DF := (dComp (iRng1 (dcons (dL opLen (dcons (d2 opIx (dv 0) (dc (.int 0))) dnil)) dnil)) (gN 5) bYes (dL m_law_common (dcons m_law_real_c3 dnil)) [5])
def m_law_real : List D → Option D := runD 8 1 ((dSeq (dSet 1 (dL m_law_known (dcons (dv 0) dnil)))
    (dSeq (dSet 2 m_law_real_c2)
    (dSeq (dSet 3 m_law_real_c4)
    (dRet (dL m_law_fits (dcons (dv 0) (dcons (dv 2) (dcons (dv 3) dnil)))))))))
end Mi
namespace Mi
open DL
def m_without_c1 : DF := (dComp (iRng1 (dcons (dL opLen (dcons (d2 opIx (dv 0) (dc (.int 0))) dnil)) dnil)) (gN 5) bYes (dIf (bV (d2 opIn (dL opTup (dcons (dv 3) (dcons (dv 5) dnil))) (dv 1))) (dc .non) (d2 opIx (d2 opIx (dv 0) (dv 3)) (dv 5))) [5])
def m_without_b1 : DS := (dSeq (dSet 4 m_without_c1)
    (dApp 2 (dL opTuple (dcons (dv 4) dnil))))
def m_without : List D → Option D := runD 6 2 ((dSeq (dSetN 2 (nLst dnil))
    (dSeq (dFor (iRng1 (dcons (dL opLen (dcons (dv 0) dnil)) dnil)) (gN 3) m_without_b1)
    (dRet (dL opTuple (dcons (dv 2) dnil))))))
end Mi
namespace Mi
open DL
def m_prime_factors_b1 : DS := (dSet 0 (d2 opFdiv (dv 0) (dv 2)))
def m_prime_factors_b2 : DS := (dSeq (dIfS (bV (d2 opEq (d2 opMod (dv 0) (dv 2)) (dc (.int 0)))) (dSeq (dApp 1 (dv 2))
    (dWhile (bV (d2 opEq (d2 opMod (dv 0) (dv 2)) (dc (.int 0)))) m_prime_factors_b1)) dNx)
    (dAug 2 (dc (.int 1))))
def m_prime_factors : List D → Option D := runD 3 1 ((dSeq (dParN1 1 2 (nLst dnil) (dc (.int 2)))
    (dSeq (dWhile (bV (d2 opLe (d2 opMul (dv 2) (dv 2)) (dv 0))) m_prime_factors_b2)
    (dRet (dIf (bV (d2 opGt (dv 0) (dc (.int 1)))) (d2 opAdd (dv 1) (dL opLst (dcons (dv 0) dnil))) (dv 1))))))
def m_exponent_b1 : DS := (dPar 1 2 (d2 opFdiv (dv 1) (dv 0)) (d2 opAdd (dv 2) (dc (.int 1))))
def m_exponent : List D → Option D := runD 3 2 ((dSeq (dSet 2 (dc (.int 0)))
    (dSeq (dWhile (bV (d2 opEq (d2 opMod (dv 1) (dv 0)) (dc (.int 0)))) m_exponent_b1)
    (dRet (dv 2)))))
def m_power_b1 : DS := (dSet 2 (d2 opMul (dv 2) (dv 0)))
def m_power : List D → Option D := runD 4 2 ((dSeq (dSet 2 (dc (.int 1)))
    (dSeq (dFor (iRng1 (dcons (dv 1) dnil)) (gN 3) m_power_b1)
    (dRet (dv 2)))))
def m_between_c1 : DF := (dComp2 (iSeq (dv 2)) (gN 5) (iRng1 (dcons (d2 opAdd (dv 4) (dc (.int 1))) dnil)) (gN 6) bYes (d2 opMul (dv 5) (dL m_power (dcons (dv 3) (dcons (dv 6) dnil)))) [5, 6] [6])
def m_between_b1 : DS := (dSeq (dSet 4 (dL m_exponent (dcons (dv 3) (dcons (d2 opFdiv (dv 1) (dv 0)) dnil))))
    (dSet 2 m_between_c1))
def m_between : List D → Option D := runD 7 2 ((dSeq (dSet 2 (dL opLst (dcons (dv 0) dnil)))
    (dSeq (dFor (iSeq (dL m_prime_factors (dcons (d2 opFdiv (dv 1) (dv 0)) dnil))) (gN 3) m_between_b1)
    (dRet (dL opSorted (dcons (dv 2) dnil))))))
def m_all_primes_c1 : DF := (dComp (iSeq (dL m_prime_factors (dcons (d2 opIx (d2 opIx (dv 0) (dv 2)) (dv 3)) dnil))) (gN 4) (bV (d2 opNotIn (dv 4) (dv 1))) (dv 4) [4])
def m_all_primes_b1 : DS := (dSet 1 (d2 opAdd (dv 1) m_all_primes_c1))
def m_all_primes : List D → Option D := runD 5 1 ((dSeq (dSet 1 (dL opLst dnil))
    (dSeq (dFor (iSeq (dL m_known_places (dcons (dv 0) dnil))) (gT (gsCons (gN 2) (gsCons (gN 3) gsNil))) m_all_primes_b1)
    (dRet (dL opSorted (dcons (dv 1) dnil))))))
def m_sure_b1 : DS := (dSeq (dSet 8 (dL m_exponent (dcons (dv 5) (dcons (d2 opIx (d2 opIx (dv 0) (dv 6)) (dv 7)) dnil))))
    (dSeq (dIfS (bV (d2 opLt (dL m_exponent (dcons (dv 5) (dcons (d2 opIx (dv 4) (dv 7)) dnil))) (dv 8))) (dSetIx 1 (dv 6) (dL m_lcm (dcons (d2 opIx (dv 1) (dv 6)) (dcons (dL m_power (dcons (dv 5) (dcons (dv 8) dnil))) dnil)))) dNx)
    (dIfS (bV (d2 opLt (dL m_exponent (dcons (dv 5) (dcons (d2 opIx (dv 3) (dv 6)) dnil))) (dv 8))) (dSetIx 2 (dv 7) (dL m_lcm (dcons (d2 opIx (dv 2) (dv 7)) (dcons (dL m_power (dcons (dv 5) (dcons (dv 8) dnil))) dnil)))) dNx)))
def m_sure_b2 : DS := (dFor (iSeq (dL m_known_places (dcons (dv 0) dnil))) (gT (gsCons (gN 6) (gsCons (gN 7) gsNil))) m_sure_b1)
def m_sure : List D → Option D := runD 9 1 ((dSeq (dParNN 1 2 (nRep (dL opLst (dcons (dc (.int 1)) dnil)) (dL opLen (dcons (dv 0) dnil))) (nRep (dL opLst (dcons (dc (.int 1)) dnil)) (dL opLen (dcons (d2 opIx (dv 0) (dc (.int 0))) dnil))))
    (dSeq (dAsg (gT (gsCons (gN 3) (gsCons (gN 4) gsNil))) (dL m_greatest (dcons (dv 0) dnil)))
    (dSeq (dFor (iSeq (dL m_all_primes (dcons (dv 0) dnil))) (gN 5) m_sure_b2)
    (dRet (dL opTup (dcons (dL opTuple (dcons (dv 1) dnil)) (dcons (dL opTuple (dcons (dv 2) dnil)) dnil))))))))
end Mi
namespace Mi
open DL
def m_entry_values : List D → Option D := runD 7 3 ((dSeq (dAsg (gT (gsCons (gN 3) (gsCons (gN 4) gsNil))) (dL m_greatest (dcons (dv 0) dnil)))
    (dSeq (dIfS (bV (d2 opIsNot (d2 opIx (d2 opIx (dv 0) (dv 1)) (dv 2)) (dc .non))) (dRet (dL opLst (dcons (d2 opIx (d2 opIx (dv 0) (dv 1)) (dv 2)) dnil))) dNx)
    (dSeq (dIfS (bOr (bV (d2 opEq (d2 opIx (dv 3) (dv 1)) (dc (.int 0)))) (bV (d2 opEq (d2 opIx (dv 4) (dv 2)) (dc (.int 0))))) (dRet (dc .non)) dNx)
    (dSeq (dAsg (gT (gsCons (gN 5) (gsCons (gN 6) gsNil))) (dL m_sure (dcons (dv 0) dnil)))
    (dRet (dL m_between (dcons (dL m_lcm (dcons (d2 opIx (dv 5) (dv 1)) (dcons (d2 opIx (dv 6) (dv 2)) dnil))) (dcons (dL m_lcm (dcons (d2 opIx (dv 3) (dv 1)) (dcons (d2 opIx (dv 4) (dv 2)) dnil))) dnil)))))))))
def m_law_with : List D → Option D := runD 5 4 ((dSeq (dSet 4 (d2 opAdd (d2 opAdd (dSl (d2 opIx (dv 0) (dv 1)) oNo (oIx (dv 2))) (dL opTup (dcons (dv 3) dnil))) (dSl (d2 opIx (dv 0) (dv 1)) (oIx (d2 opAdd (dv 2) (dc (.int 1)))) oNo)))
    (dRet (d2 opAdd (d2 opAdd (dSl (dv 0) oNo (oIx (dv 1))) (dL opTup (dcons (dv 4) dnil))) (dSl (dv 0) (oIx (d2 opAdd (dv 1) (dc (.int 1)))) oNo)))))
end Mi
namespace Mi
open DL
def m_law_turned_c1 : DF := (dComp (iSeq (dv 0)) (gN 2) bYes (d2 opIx (dv 2) (dv 1)) [2])
def m_law_turned_c2 : DF := (dComp (iRng1 (dcons (dL opLen (dcons (d2 opIx (dv 0) (dc (.int 0))) dnil)) dnil)) (gN 1) bYes (dL opTuple (dcons m_law_turned_c1 dnil)) [1])
def m_law_turned : List D → Option D := runD 3 1 ((dRet (dL opTuple (dcons m_law_turned_c2 dnil))))
end Mi
namespace Mi
open DL
end Mi
namespace Mi
open DL
end Mi
namespace Mi
open DL
def m_single_mends_b1 : DS := (dSeq (dSet 4 (dL m_without (dcons (dv 0) (dcons (dL opLst (dcons (dL opTup (dcons (dv 2) (dcons (dv 3) dnil))) dnil)) dnil))))
    (dIfS (bV (dL m_is_real (dcons (dv 4) dnil))) (dApp 1 (dL opTup (dcons (dv 2) (dcons (dv 3) (dcons (dL m_entry_values (dcons (dv 4) (dcons (dv 2) (dcons (dv 3) dnil)))) dnil))))) dNx))
def m_single_mends : List D → Option D := runD 5 1 ((dSeq (dSetN 1 (nLst dnil))
    (dSeq (dFor (iSeq (dL m_known_places (dcons (dv 0) dnil))) (gT (gsCons (gN 2) (gsCons (gN 3) gsNil))) m_single_mends_b1)
    (dRet (dv 1)))))
def m_law_without_c1 : DF := (dComp (iEn (dcons (dv 4) dnil)) (gT (gsCons (gN 5) (gsCons (gN 6) gsNil))) bYes (dIf (bV (d2 opIn (dL opTup (dcons (dv 3) (dcons (dv 5) dnil))) (dv 1))) (dc .non) (dv 6)) [5, 6])
def m_law_without_b1 : DS := (dApp 2 (dL opTuple (dcons m_law_without_c1 dnil)))
def m_law_without : List D → Option D := runD 7 2 ((dSeq (dSetN 2 (nLst dnil))
    (dSeq (dFor (iEn (dcons (dv 0) dnil)) (gT (gsCons (gN 3) (gsCons (gN 4) gsNil))) m_law_without_b1)
    (dRet (dL opTuple (dcons (dv 2) dnil))))))
end Mi
namespace Mi
open DL
end Mi
namespace Mi
open DL
end Mi
namespace Mi
open DL
end Mi
namespace Mi
open DL
end Mi
namespace Mi
open DL
end Mi
namespace Mi
open DL
end Mi
namespace Mi
open DL
end Mi
namespace Mi
open DL
end Mi
namespace Mi
open DL
end Mi
namespace Mi
open DL
end Mi
namespace Mi
open DL
end Mi
namespace Mi
open DL
def m_law_with_entry : List D → Option D := runD 5 4 ((dSeq (dSet 4 (d2 opAdd (d2 opAdd (dSl (d2 opIx (dv 0) (dv 1)) oNo (oIx (dv 2))) (dL opTup (dcons (dv 3) dnil))) (dSl (d2 opIx (dv 0) (dv 1)) (oIx (d2 opAdd (dv 2) (dc (.int 1)))) oNo)))
    (dRet (d2 opAdd (d2 opAdd (dSl (dv 0) oNo (oIx (dv 1))) (dL opTup (dcons (dv 4) dnil))) (dSl (dv 0) (oIx (d2 opAdd (dv 1) (dc (.int 1)))) oNo)))))
def m_law_alone_c1 : DF := (dComp (iSeq (dL m_law_known (dcons (dv 0) dnil))) (gT (gsCons (gN 4) (gsCons (gN 5) (gsCons (gN 6) gsNil)))) (bV (d2 opNe (dL opTup (dcons (dv 4) (dcons (dv 5) dnil))) (dL opTup (dcons (dv 1) (dcons (dv 2) dnil))))) (dL opTup (dcons (dv 4) (dcons (dv 5) dnil))) [4, 5, 6])
def m_law_alone_c2 : DF := (dComp (iSeq (dv 3)) (gT (gsCons (gN 4) (gsCons (gN 5) gsNil))) (bV (d2 opEq (dv 4) (dv 1))) (dc (.int 1)) [4, 5])
def m_law_alone_c3 : DF := (dComp (iSeq (dv 3)) (gT (gsCons (gN 4) (gsCons (gN 5) gsNil))) (bV (d2 opEq (dv 5) (dv 2))) (dc (.int 1)) [4, 5])
def m_law_alone : List D → Option D := runD 7 3 ((dSeq (dSet 3 m_law_alone_c1)
    (dRet (dOr (d2 opEq m_law_alone_c2 (dL opLst dnil)) (d2 opEq m_law_alone_c3 (dL opLst dnil))))))
def m_law_due_c1 : DF := (dComp (iSeq (dL m_law_known (dcons (dv 0) dnil))) (gT (gsCons (gN 8) (gsCons (gN 9) (gsCons (gN 7) gsNil)))) (bV (d2 opEq (dv 8) (dv 1))) (dv 7) [8, 9, 7])
def m_law_due_c2 : DF := (dComp (iSeq (dL m_law_known (dcons (dv 4) dnil))) (gT (gsCons (gN 8) (gsCons (gN 9) (gsCons (gN 7) gsNil)))) (bV (d2 opEq (dv 8) (dv 2))) (dv 7) [8, 9, 7])
def m_law_due_c3 : DF := (dComp (iSeq (dL m_law_divisors (dcons (dv 6) dnil))) (gN 7) (bV (dL m_law_real (dcons (dL m_law_with_entry (dcons (dv 0) (dcons (dv 1) (dcons (dv 2) (dcons (dv 7) dnil))))) dnil))) (dv 7) [7])
def m_law_due : List D → Option D := runD 10 3 ((dSeq (dSet 3 (dL m_law_common (dcons m_law_due_c1 dnil)))
    (dSeq (dSet 4 (dL m_law_turned (dcons (dv 0) dnil)))
    (dSeq (dSet 5 (dL m_law_common (dcons m_law_due_c2 dnil)))
    (dSeq (dSet 6 (dL m_law_lcm (dcons (dv 3) (dcons (dv 5) dnil))))
    (dRet m_law_due_c3))))))
def m_k23_b1 : DS := (dSeq (dSet 11 (dL m_law_without (dcons (dv 6) (dcons (dL opLst (dcons (dL opTup (dcons (dv 8) (dcons (dv 9) dnil))) dnil)) dnil))))
    (dIfS (bV (dL m_law_real (dcons (dv 11) dnil))) (dSeq (dSet 12 (dL m_law_alone (dcons (dv 6) (dcons (dv 8) (dcons (dv 9) dnil)))))
    (dApp 7 (dL opTup (dcons (dv 8) (dcons (dv 9) (dcons (dIf (bV (dv 12)) (dc .non) (dL m_law_due (dcons (dv 11) (dcons (dv 8) (dcons (dv 9) dnil))))) dnil)))))) dNx))
def m_k23_b2 : DS := (dSeq (dSetN 7 (nLst dnil))
    (dSeq (dFor (iSeq (dL m_law_known (dcons (dv 6) dnil))) (gT (gsCons (gN 8) (gsCons (gN 9) (gsCons (gN 10) gsNil)))) m_k23_b1)
    (dSeq (dMend 13 7 [13, 8, 9, 14] m_single_mends (dcons (dv 6) dnil))
    (dIfS (bV (d2 opNe (dL m_single_mends (dcons (dv 6) dnil)) (dv 7))) (dRet (dc (.bl false))) dNx))))
def m_k23_b3 : DS := (dSeq (dSet 2 (dL m_law_digits (dcons (dv 0) (dcons (dv 1) (dcons (dc (.int 60)) (dcons (dc (.int 27720)) dnil))))))
    (dSeq (dAsg (gT (gsCons (gN 3) (gsCons (gN 4) gsNil))) (dL m_law_numbers (dcons (dv 2) (dcons (d2 opAdd (dc (.int 1)) (d2 opMod (d2 opIx (dv 2) (dc (.int 50))) (dc (.int 3)))) (dcons (d2 opAdd (dc (.int 1)) (d2 opMod (d2 opIx (dv 2) (dc (.int 51))) (dc (.int 3)))) dnil)))))
    (dSeq (dSet 5 (dL m_law_table (dcons (dv 3) (dcons (dv 4) dnil))))
    (dFor (iSeq (dL opTup (dcons (dL m_law_hidden (dcons (dv 5) (dcons (dSl (dv 2) (oIx (dc (.int 20))) oNo) (dcons (dc (.int 3)) dnil)))) (dcons (dL m_law_spoilt (dcons (dL m_law_hidden (dcons (dv 5) (dcons (dSl (dv 2) (oIx (dc (.int 25))) oNo) (dcons (dc (.int 7)) dnil)))) (dcons (dSl (dv 2) (oIx (dc (.int 30))) oNo) dnil))) dnil)))) (gN 6) m_k23_b2))))
def m_k23 : List D → Option D := runD 15 1 ((dSeq (dFor (iRng1 (dcons (dc (.int 5)) dnil)) (gN 1) m_k23_b3)
    (dSeq (dIfS (bV (d2 opNe (dL m_single_mends (dcons (dL opTup (dcons (dL opTup (dcons (dc (.int 4)) (dcons (dc (.int 1)) dnil))) (dcons (dL opTup (dcons (dc (.int 1)) (dcons (dc (.int 1)) dnil))) dnil))) dnil)) (dL opLst (dcons (dL opTup (dcons (dc (.int 0)) (dcons (dc (.int 0)) (dcons (dL opLst (dcons (dc (.int 1)) dnil)) dnil)))) (dcons (dL opTup (dcons (dc (.int 0)) (dcons (dc (.int 1)) (dcons (dL opLst (dcons (dc (.int 4)) dnil)) dnil)))) (dcons (dL opTup (dcons (dc (.int 1)) (dcons (dc (.int 0)) (dcons (dL opLst (dcons (dc (.int 4)) dnil)) dnil)))) dnil)))))) (dRet (dc (.bl false))) dNx)
    (dRet (dAnd (d2 opEq (dL m_single_mends (dcons (dL opTup (dcons (dL opTup (dcons (dc (.int 6)) (dcons (dc .non) dnil))) (dcons (dL opTup (dcons (dc .non) (dcons (dc (.int 5)) dnil))) dnil))) dnil)) (dL opLst (dcons (dL opTup (dcons (dc (.int 0)) (dcons (dc (.int 0)) (dcons (dc .non) dnil)))) (dcons (dL opTup (dcons (dc (.int 1)) (dcons (dc (.int 1)) (dcons (dc .non) dnil)))) dnil)))) (d2 opEq (dL m_single_mends (dcons (dL opTup (dcons (dL opTup (dcons (dc .non) dnil)) dnil)) dnil)) (dL opLst dnil)))))))
end Mi
namespace Mi
open DL
def bnd {α β : Type} (x : Option α) (f : α → Option β) : Option β := x.bind f
@[simp] theorem bnd_some {α β : Type} (x : α) (f : α → Option β) : bnd (some x) f = f x := (rfl)
@[simp] theorem bnd_none {α β : Type} (f : α → Option β) : bnd none f = none := (rfl)
section
variable {ρ : Rho} {x y z : D}
@[simp] theorem p_dc : dc x ρ = some x := (rfl)
@[simp] theorem p_dv (i : Nat) : dv i ρ = lk ρ i := (rfl)
@[simp] theorem lk_z (a : Option D) (r : Rho) : lk (a :: r) 0 = a := (rfl)
@[simp] theorem lk_s (a : Option D) (r : Rho) (n : Nat) : lk (a :: r) (n + 1) = lk r n := (rfl)
@[simp] theorem st_z (a : Option D) (r : Rho) : st (a :: r) 0 x = some x :: r := (rfl)
@[simp] theorem st_s (a : Option D) (r : Rho) (n : Nat) : st (a :: r) (n + 1) x = a :: st r n x := (rfl)
@[simp] theorem un_z (a : Option D) (r : Rho) : un (a :: r) 0 = none :: r := (rfl)
@[simp] theorem un_s (a : Option D) (r : Rho) (n : Nat) : un (a :: r) (n + 1) = a :: un r n := (rfl)
@[simp] theorem wipe_n : wipeR ρ [] = ρ := (rfl)
@[simp] theorem wipe_c (v : Nat) (vs : List Nat) : wipeR ρ (v :: vs) = un (wipeR ρ vs) v := (rfl)
@[simp] theorem p_d2 (op : D → D → Option D) (f g : DF) : d2 op f g ρ = bnd (f ρ) fun x => bnd (g ρ) fun y => op x y := (rfl)
@[simp] theorem p_d1 (op : D → Option D) (f : DF) : d1 op f ρ = bnd (f ρ) op := (rfl)
@[simp] theorem p_dnil : dnil ρ = some [] := (rfl)
@[simp] theorem p_dcons (f : DF) (g : DFs) : dcons f g ρ = bnd (f ρ) fun x => bnd (g ρ) fun xs => some (x :: xs) := (rfl)
@[simp] theorem p_dL (op : List D → Option D) (f : DFs) : dL op f ρ = bnd (f ρ) op := (rfl)
@[simp] theorem p_asB (b : Bool) : asB (.bl b) = some b := (rfl)
@[simp] theorem p_asI (b : Int) : asI (.int b) = some b := (rfl)
@[simp] theorem p_asL (b : List D) : asL (.lst b) = some b := (rfl)
@[simp] theorem p_asSeqL (b : List D) : asSeq (.lst b) = some b := (rfl)
@[simp] theorem p_asSeqT (b : List D) : asSeq (.tup b) = some b := (rfl)
@[simp] theorem p_bV (f : DF) : bV f ρ = bnd (f ρ) asB := (rfl)
@[simp] theorem p_dB (g : DB) : dB g ρ = bnd (g ρ) fun b => some (.bl b) := (rfl)
@[simp] theorem p_bAnd (g h : DB) : bAnd g h ρ = bnd (g ρ) fun b => if b = true then h ρ else some false := (rfl)
@[simp] theorem p_bOr (g h : DB) : bOr g h ρ = bnd (g ρ) fun b => if b = true then some true else h ρ := (rfl)
@[simp] theorem p_bNot (g : DB) : bNot g ρ = bnd (g ρ) fun b => some (!b) := (rfl)
@[simp] theorem p_dIf (g : DB) (f h : DF) : dIf g f h ρ = bnd (g ρ) fun b => if b = true then f ρ else h ρ := (rfl)
@[simp] theorem p_dAnd (f g : DF) : dAnd f g ρ = bnd (f ρ) fun x => bnd (asB x) fun b => if b = true then g ρ else some (.bl false) := (rfl)
@[simp] theorem p_dOr (f g : DF) : dOr f g ρ = bnd (f ρ) fun x => bnd (asB x) fun b => if b = true then some (.bl true) else g ρ := (rfl)
@[simp] theorem p_dNot (f : DF) : dNot f ρ = bnd (f ρ) fun x => bnd (asB x) fun b => some (.bl (!b)) := (rfl)
@[simp] theorem p_dCh (o o' : D → D → Option D) (f g h : DF) : dCh o o' f g h ρ = bnd (f ρ) fun x => bnd (g ρ) fun y => bnd (o x y) fun z => bnd (asB z) fun k => if k = true then bnd (h ρ) fun w => o' y w else some (.bl false) := (rfl)
@[simp] theorem p_bYes : bYes ρ = some true := (rfl)
@[simp] theorem p_gN (i : Nat) : gN i x ρ = some (st ρ i x) := (rfl)
@[simp] theorem p_gT (h : DGs) (ds : List D) : gT h (.tup ds) ρ = h ds ρ := (rfl)
@[simp] theorem p_gsNil : gsNil [] ρ = some ρ := (rfl)
@[simp] theorem p_gsCons (g : DG) (h : DGs) (r : List D) : gsCons g h (x :: r) ρ = bnd (g x ρ) (h r) := (rfl)
@[simp] theorem p_dNx : dNx ρ = some (.nx ρ) := (rfl)
@[simp] theorem p_dRet (f : DF) : dRet f ρ = bnd (f ρ) fun d => some (.rt d) := (rfl)
@[simp] theorem p_dSet (i : Nat) (f : DF) : dSet i f ρ = bnd (f ρ) fun d => some (.nx (st ρ i d)) := (rfl)
@[simp] theorem p_dIfS (t : DB) (f g : DS) : dIfS t f g ρ = bnd (t ρ) fun b => if b = true then f ρ else g ρ := (rfl)
@[simp] theorem p_dAsg (g : DG) (f : DF) : dAsg g f ρ = bnd (f ρ) fun d => bnd (g d ρ) fun ρ' => some (.nx ρ') := (rfl)
@[simp] theorem p_dPar (i j : Nat) (f g : DF) : dPar i j f g ρ = bnd (f ρ) fun x => bnd (g ρ) fun y => some (.nx (st (st ρ i x) j y)) := (rfl)
@[simp] theorem p_dAug (i : Nat) (f : DF) : dAug i f ρ = bnd (lk ρ i) fun x => bnd (asI x) fun a => bnd (f ρ) fun y => bnd (asI y) fun b => some (.nx (st ρ i (.int (a + b)))) := (rfl)
@[simp] theorem p_dApp (i : Nat) (f : DF) : dApp i f ρ = bnd (f ρ) fun d => bnd (lk ρ i) fun x => bnd (asL x) fun ds => if ds.length < 16777216 then some (.nx (st ρ i (.lst (ds ++ [d])))) else none := (rfl)
@[simp] theorem p_dSetIx (i : Nat) (k f : DF) : dSetIx i k f ρ = bnd (f ρ) fun d => bnd (k ρ) fun j => bnd (asI j) fun n => bnd (lk ρ i) fun x => bnd (asL x) fun ds => bnd (ixNat ds.length n) fun m => some (.nx (st ρ i (.lst (ds.set m d)))) := (rfl)
@[simp] theorem p_nLst (f : DFs) : nLst f ρ = bnd (f ρ) fun ds => if ds.length ≤ 100000 then some ds else none := (rfl)
@[simp] theorem p_nRep (f g : DF) : nRep f g ρ = bnd (f ρ) fun x => bnd (asL x) fun ds => bnd (g ρ) fun y => bnd (asI y) fun k => if k ≤ 16777216 ∧ -16777216 ≤ k ∧ ds.length * k.toNat ≤ 16777216 then some (List.replicate k.toNat ds).flatten else none := (rfl)
@[simp] theorem p_nOf (f : DF) : nOf f ρ = bnd (f ρ) asSeq := (rfl)
@[simp] theorem p_dSetN (i : Nat) (f : DFs) : dSetN i f ρ = bnd (f ρ) fun ds => some (.nx (st ρ i (.lst ds))) := (rfl)
@[simp] theorem p_dParN1 (i j : Nat) (f : DFs) (g : DF) : dParN1 i j f g ρ = bnd (f ρ) fun ds => bnd (g ρ) fun y => some (.nx (st (st ρ i (.lst ds)) j y)) := (rfl)
@[simp] theorem p_dParNN (i j : Nat) (f g : DFs) : dParNN i j f g ρ = bnd (f ρ) fun ds => bnd (g ρ) fun es => some (.nx (st (st ρ i (.lst ds)) j (.lst es))) := (rfl)
@[simp] theorem p_iSeq (f : DF) : iSeq f ρ = bnd (f ρ) asSeq := (rfl)
@[simp] theorem p_iRng1 (f : DFs) : iRng1 f ρ = bnd (f ρ) opRng1 := (rfl)
@[simp] theorem p_iRng2 (f : DFs) : iRng2 f ρ = bnd (f ρ) opRng2 := (rfl)
@[simp] theorem p_oNo : oNo ρ = some none := (rfl)
@[simp] theorem p_oIx (f : DF) : oIx f ρ = bnd (f ρ) fun d => bnd (asIx d) fun i => some (some i) := (rfl)
@[simp] theorem p_dSl (f : DF) (l u : DOx) : dSl f l u ρ = bnd (f ρ) fun x => bnd (l ρ) fun lo => bnd (u ρ) fun hi => opSl lo hi x := (rfl)
@[simp] theorem p_asIx (i : Int) : asIx (.int i) = some i := (rfl)
@[simp] theorem p_opTup (ds : List D) : opTup ds = if ds.length ≤ 100000 then some (.tup ds) else none := (rfl)
@[simp] theorem p_opLst (ds : List D) : opLst ds = if ds.length ≤ 100000 then some (.lst ds) else none := (rfl)
@[simp] theorem p_lenT (ds : List D) : opLen [.tup ds] = some (.int ds.length) := (rfl)
@[simp] theorem p_lenL (ds : List D) : opLen [.lst ds] = some (.int ds.length) := (rfl)
@[simp] theorem p_lenS (ds : List Int) : opLen [.scr ds] = some (.int ds.length) := (rfl)
@[simp] theorem p_tupT (ds : List D) : opTuple [.tup ds] = some (.tup ds) := (rfl)
@[simp] theorem p_tupL (ds : List D) : opTuple [.lst ds] = some (.tup ds) := (rfl)
@[simp] theorem p_add (a b : Int) : opAdd (.int a) (.int b) = some (.int (a + b)) := (rfl)
@[simp] theorem p_sub (a b : Int) : opSub (.int a) (.int b) = some (.int (a - b)) := (rfl)
@[simp] theorem p_mul (a b : Int) : opMul (.int a) (.int b) = if mulOk a b = true then some (.int (a * b)) else none := (rfl)
@[simp] theorem p_lt (a b : Int) : opLt (.int a) (.int b) = some (.bl (decide (a < b))) := (rfl)
@[simp] theorem p_le (a b : Int) : opLe (.int a) (.int b) = some (.bl (decide (a ≤ b))) := (rfl)
@[simp] theorem p_gt (a b : Int) : opGt (.int a) (.int b) = some (.bl (decide (b < a))) := (rfl)
@[simp] theorem p_ge (a b : Int) : opGe (.int a) (.int b) = some (.bl (decide (b ≤ a))) := (rfl)
@[simp] theorem p_eqI (a b : Int) : opEq (.int a) (.int b) = some (.bl (decide (a = b))) := by
  by_cases h : a = b <;> simp [opEq, okD, eqD, h]
@[simp] theorem p_neI (a b : Int) : opNe (.int a) (.int b) = some (.bl (!decide (a = b))) := by
  by_cases h : a = b <;> simp [opNe, okD, eqD, h]
theorem dec_cast {p q : Prop} [Decidable p] [Decidable q] (h : p ↔ q) : some (D.bl (decide p)) = some (D.bl (decide q)) := by simp only [h]
@[simp high] theorem p_eqN (a b : Nat) : opEq (.int (a : Int)) (.int (b : Int)) = some (.bl (decide (a = b))) := by rw [p_eqI]; exact dec_cast (by omega)
@[simp high] theorem p_neN (a b : Nat) : opNe (.int (a : Int)) (.int (b : Int)) = some (.bl (!decide (a = b))) := by
  rw [p_neI]
  have : ((a : Int) = (b : Int)) ↔ a = b := by omega
  simp only [this]
@[simp high] theorem p_ltN (a b : Nat) : opLt (.int (a : Int)) (.int (b : Int)) = some (.bl (decide (a < b))) := by rw [p_lt]; exact dec_cast (by omega)
@[simp high] theorem p_leN (a b : Nat) : opLe (.int (a : Int)) (.int (b : Int)) = some (.bl (decide (a ≤ b))) := by rw [p_le]; exact dec_cast (by omega)
@[simp high] theorem p_gtN (a b : Nat) : opGt (.int (a : Int)) (.int (b : Int)) = some (.bl (decide (b < a))) := by rw [p_gt]; exact dec_cast (by omega)
@[simp high] theorem p_geN (a b : Nat) : opGe (.int (a : Int)) (.int (b : Int)) = some (.bl (decide (b ≤ a))) := by rw [p_ge]; exact dec_cast (by omega)
@[simp] theorem p_isN (d : D) : opIs d .non = some (.bl (isNone d)) := by cases d <;> rfl
@[simp] theorem p_isnN (d : D) : opIsNot d .non = some (.bl (!isNone d)) := by cases d <;> rfl
@[simp] theorem p_isB (a b : Bool) : opIs (.bl a) (.bl b) = some (.bl (decide (a = b))) := (rfl)
@[simp] theorem p_isnB (a b : Bool) : opIsNot (.bl a) (.bl b) = some (.bl (!decide (a = b))) := (rfl)
@[simp] theorem p_isNone_n : isNone .non = true := (rfl)
@[simp] theorem p_isNone_i (i : Int) : isNone (.int i) = false := (rfl)
@[simp] theorem p_isNone_t (i : List D) : isNone (.tup i) = false := (rfl)
@[simp] theorem p_isNone_l (i : List D) : isNone (.lst i) = false := (rfl)
@[simp] theorem p_appL (a b : List D) : opAdd (.lst a) (.lst b) = if a.length + b.length ≤ 16777216 then some (.lst (a ++ b)) else none := (rfl)
@[simp] theorem p_appT (a b : List D) : opAdd (.tup a) (.tup b) = if a.length + b.length ≤ 16777216 then some (.tup (a ++ b)) else none := (rfl)
end
theorem b_mc {α β : Type} (f : α → β) (a : α) (l : List α) : List.map f (a :: l) = f a :: List.map f l := (rfl)
theorem b_mn {α β : Type} (f : α → β) : List.map f [] = [] := (rfl)
theorem b_ac {α : Type} (a : α) (l r : List α) : (a :: l) ++ r = a :: (l ++ r) := (rfl)
theorem b_an {α : Type} (r : List α) : ([] : List α) ++ r = r := (rfl)
theorem b_rs {α : Type} (n : Nat) (a : α) : List.replicate (n + 1) a = a :: List.replicate n a := (rfl)
theorem b_rz {α : Type} (a : α) : List.replicate 0 a = [] := (rfl)
theorem b_lc {α : Type} (a : α) (l : List α) : (a :: l).length = l.length + 1 := (rfl)
theorem b_ln {α : Type} : ([] : List α).length = 0 := (rfl)
theorem b_it {α : Type} (a b : α) : (if True then a else b) = a := by simp
theorem b_if {α : Type} (a b : α) : (if False then a else b) = b := by simp
theorem b_itt {α : Type} (a b : α) : (if true = true then a else b) = a := by simp
theorem b_iff {α : Type} (a b : α) : (if false = true then a else b) = b := by simp
theorem mod_i {a : Int} {b : Nat} (h : 0 < b) : opMod (.int a) (.int b) = some (.int (a % b)) := by
  have h' : (0 : Int) < b := by omega
  simp only [opMod, if_pos h']
theorem mul_i {a b : Int} (h : -18446744073709551616 < b) (h2 : b < 18446744073709551616) : opMul (.int a) (.int b) = some (.int (a * b)) := by
  have : mulOk a b = true := by simp [mulOk, h, h2]
  simp only [opMul, if_pos this]
theorem mul_j {a b : Int} (h : -18446744073709551616 < a) (h2 : a < 18446744073709551616) : opMul (.int a) (.int b) = some (.int (a * b)) := by
  have : mulOk a b = true := by simp [mulOk, h, h2]
  simp only [opMul, if_pos this]
theorem mod_n {a b : Nat} (h : 0 < b) : opMod (.int a) (.int b) = some (.int ((a % b : Nat) : Int)) := by
  have h' : (0 : Int) < b := by omega
  simp only [opMod, if_pos h']
  try rfl
theorem div_n {a b : Nat} (h : 0 < b) (h2 : b < 18446744073709551616) : opFdiv (.int a) (.int b) = some (.int ((a / b : Nat) : Int)) := by
  have h' : (0 : Int) < b := by omega
  have h3 : (b : Int) < 18446744073709551616 := by omega
  simp only [opFdiv, if_pos (And.intro h' h3)]
  try rfl
theorem mulOk_r {a b : Nat} (h : b < 18446744073709551616) : mulOk a b = true := by
  have h3 : (b : Int) < 18446744073709551616 := by omega
  have h4 : (-18446744073709551616 : Int) < b := by omega
  simp [mulOk, h3, h4]
theorem mulOk_l {a b : Nat} (h : a < 18446744073709551616) : mulOk a b = true := by
  have h3 : (a : Int) < 18446744073709551616 := by omega
  have h4 : (-18446744073709551616 : Int) < a := by omega
  simp [mulOk, h3, h4]
theorem mul_n {a b : Nat} (h : b < 18446744073709551616) : opMul (.int a) (.int b) = some (.int ((a * b : Nat) : Int)) := by
  simp [mulOk_r h]
theorem mul_l {a b : Nat} (h : a < 18446744073709551616) : opMul (.int a) (.int b) = some (.int ((a * b : Nat) : Int)) := by
  simp [mulOk_l h]
theorem ixN {n i : Nat} (h : i < n) : ixNat n (i : Int) = some i := by
  have h1 : (0 : Int) ≤ i := by omega
  have h2 : (i : Int) < n := by omega
  simp [ixNat, h2]
theorem ixT {xs : List D} {i : Nat} {d : D} (h : xs[i]? = some d) : opIx (.tup xs) (.int i) = some d := by
  have hl : i < xs.length := by
    apply Classical.byContradiction
    intro q
    rw [List.getElem?_eq_none (by omega)] at h
    cases h
  simp [opIx, ixN hl, h]
theorem ixL {xs : List D} {i : Nat} {d : D} (h : xs[i]? = some d) : opIx (.lst xs) (.int i) = some d := by
  have hl : i < xs.length := by
    apply Classical.byContradiction
    intro q
    rw [List.getElem?_eq_none (by omega)] at h
    cases h
  simp [opIx, ixN hl, h]
theorem ixRT {m i : Nat} {f : Nat → D} (h : i < m) : opIx (.tup ((List.range m).map f)) (.int i) = some (f i) := by
  apply ixT
  simp [h]
theorem ixRL {m i : Nat} {f : Nat → D} (h : i < m) : opIx (.lst ((List.range m).map f)) (.int i) = some (f i) := by
  apply ixL
  simp [h]
theorem rng1 {n : Nat} (h : n < 4611686018427387904) : opRng1 [.int n] = some ((List.range n).map fun (i : Nat) => D.int i) := by
  have h1 : (-4611686018427387904 : Int) ≤ n := by omega
  have h2 : (n : Int) < 4611686018427387904 := by omega
  simp [opRng1, h1, h2, rngD]
theorem enum_range {m : Nat} (f : Nat → D) : enumD ((List.range m).map f) = (List.range m).map fun i => .tup [.int (i : Nat), f i] := by
  unfold enumD
  apply List.ext_getElem
  · simp
  · intro i h1 h2
    simp
theorem p_iEnT {fs : DFs} {ρ : Rho} {xs : List D} (h : fs ρ = some [.tup xs]) : iEn fs ρ = some (enumD xs) := by simp [iEn, h]
theorem seq_nx {f g : DS} {ρ ρ' : Rho} (h : f ρ = some (.nx ρ')) : dSeq f g ρ = g ρ' := by simp [dSeq, h]
@[simp] theorem p_dSeq (f g : DS) (ρ : Rho) : dSeq f g ρ = bnd (f ρ) fun r => match r with
  | .nx ρ' => g ρ'
  | .rt d => some (.rt d) := (rfl)
theorem run_rt {n a : Nat} {f : DS} {ds : List D} {d : D} (hl : ds.length = a) (h : f (ds.map some ++ List.replicate (n - a) none) = some (.rt d)) : runD n a f ds = some d := by
  simp [runD, hl, h]
theorem for_eq {it : DFs} {g : DG} {b : DS} {ρ : Rho} {ds : List D} (h : it ρ = some ds) : dFor it g b ρ = forL g b ds ρ := by simp [dFor, h]
theorem for_fold {α β : Type} {g : DG} {b : DS} (e : α → D) (P : β → Rho → Prop) (f : β → α → β) : ∀ (xs : List α) (a : β) (ρ : Rho),
    (∀ x ∈ xs, ∀ a ρ, P a ρ → ∃ ρ1, g (e x) ρ = some ρ1 ∧ ∃ ρ2, b ρ1 = some (.nx ρ2) ∧ P (f a x) ρ2) → P a ρ → ∃ ρ', forL g b (xs.map e) ρ = some (.nx ρ') ∧ P (xs.foldl f a) ρ'
  | [], a, ρ, _, h => ⟨ρ, rfl, h⟩
  | x :: xs, a, ρ, hs, h => by
    obtain ⟨ρ1, h1, ρ2, h2, h3⟩ := hs x List.mem_cons_self a ρ h
    obtain ⟨ρ', h4, h5⟩ := for_fold e P f xs (f a x) ρ2 (fun y hy => hs y (List.mem_cons_of_mem _ hy)) h3
    exact ⟨ρ', by simp [forL, h1, h2, h4], h5⟩
/-- by an invariant of what is done so far -/
theorem for_pre {α : Type} {g : DG} {b : DS} (e : α → D) (P : List α → Rho → Prop) (xs : List α) {ρ : Rho} (hs : ∀ l x r, xs = l ++ x :: r → ∀ ρ, P l ρ → ∃ ρ1, g (e x) ρ = some ρ1 ∧ ∃ ρ2, b ρ1 = some (.nx ρ2) ∧ P (l ++ [x]) ρ2) (h : P [] ρ) :
    ∃ ρ', forL g b (xs.map e) ρ = some (.nx ρ') ∧ P xs ρ' := by
  have gen : ∀ (r l : List α) (ρ : Rho), xs = l ++ r → P l ρ → ∃ ρ', forL g b (r.map e) ρ = some (.nx ρ') ∧ P xs ρ' := by
    intro r
    induction r with
    | nil =>
      intro l ρ q hp
      rw [List.append_nil] at q
      subst q
      exact ⟨ρ, rfl, hp⟩
    | cons x r ih =>
      intro l ρ q hp
      obtain ⟨ρ1, h1, ρ2, h2, h3⟩ := hs l x r q ρ hp
      obtain ⟨ρ', h4, h5⟩ := ih (l ++ [x]) ρ2 (by rw [q]; simp) h3
      exact ⟨ρ', by rw [List.map_cons]; simp [forL, h1, h2, h4], h5⟩
  exact gen xs [] ρ rfl h
/-- over a range, by an invariant -/
theorem for_range {g : DG} {b : DS} (e : Nat → D) (P : Nat → Rho → Prop) (n : Nat) (hs : ∀ i, i < n → ∀ ρ, P i ρ → ∃ ρ1, g (e i) ρ = some ρ1 ∧ ∃ ρ2, b ρ1 = some (.nx ρ2) ∧ P (i + 1) ρ2) {ρ : Rho} (h : P 0 ρ) :
    ∃ ρ', forL g b ((List.range n).map e) ρ = some (.nx ρ') ∧ P n ρ' := by
  have gen : ∀ (k s : Nat) (ρ : Rho), s + k = n → P s ρ → ∃ ρ', forL g b ((List.range' s k).map e) ρ = some (.nx ρ') ∧ P n ρ' := by
    intro k
    induction k with
    | zero =>
      intro s ρ e hp
      have : s = n := by omega
      subst this
      exact ⟨ρ, rfl, hp⟩
    | succ k ih =>
      intro s ρ e' hp
      obtain ⟨ρ1, h1, ρ2, h2, h3⟩ := hs s (by omega) ρ hp
      obtain ⟨ρ', h4, h5⟩ := ih (s + 1) ρ2 (by omega) h3
      refine ⟨ρ', ?_, h5⟩
      rw [List.range'_succ, List.map_cons]
      simp [forL, h1, h2, h4]
  rw [List.range_eq_range']
  exact gen n 0 ρ (by omega) h
/-- no one returns -/
theorem for_all {α : Type} {g : DG} {b : DS} (e : α → D) (P : Rho → Prop) (xs : List α) (ρ : Rho) (hs : ∀ x ∈ xs, ∀ ρ, P ρ → ∃ ρ1, g (e x) ρ = some ρ1 ∧ ∃ ρ2, b ρ1 = some (.nx ρ2) ∧ P ρ2) (h : P ρ) :
    ∃ ρ', forL g b (xs.map e) ρ = some (.nx ρ') ∧ P ρ' :=
  for_fold e (fun (_ : Unit) ρ => P ρ) (fun a _ => a) xs () ρ (fun x hx _ ρ hP => hs x hx ρ hP) h
theorem while_m {t : DB} {b : DS} (P : Nat → Rho → Prop) (Q : Rho → Prop) (hs : ∀ k ρ, P k ρ → ∃ c, t ρ = some c ∧ (c = true → ∃ k' ρ', k' < k ∧ b ρ = some (.nx ρ') ∧ P k' ρ') ∧ (c = false → Q ρ)) :
    ∀ (n k : Nat) (ρ : Rho), k < n → P k ρ → ∃ ρ', whileN t b n ρ = some (.nx ρ') ∧ Q ρ'
  | 0, k, ρ, hk, _ => by omega
  | n + 1, k, ρ, hk, h => by
    obtain ⟨c, h1, h2, h3⟩ := hs k ρ h
    cases c with
    | false => exact ⟨ρ, by simp [whileN, h1], h3 rfl⟩
    | true =>
      obtain ⟨k', ρ', h4, h5, h6⟩ := h2 rfl
      obtain ⟨ρ2, h7, h8⟩ := while_m P Q hs n k' ρ' (by omega) h6
      exact ⟨ρ2, by simp [whileN, h1, h5, h7], h8⟩
theorem dWhile_m {t : DB} {b : DS} (P : Nat → Rho → Prop) (Q : Rho → Prop) {k : Nat} {ρ : Rho} (h : P k ρ) (hk : k < 1000000000000000000000000000000) (hs : ∀ k ρ, P k ρ → ∃ c, t ρ = some c ∧ (c = true → ∃ k' ρ', k' < k ∧ b ρ = some (.nx ρ') ∧ P k' ρ') ∧ (c = false → Q ρ)) :
    ∃ ρ', dWhile t b ρ = some (.nx ρ') ∧ Q ρ' := by
  unfold dWhile
  exact while_m P Q hs FUEL k ρ (by unfold FUEL; exact hk) h
theorem compL_map {α : Type} {g : DG} {t : DB} {e : DF} {ρ : Rho} (en : α → D) (p : α → Bool) (q : α → D) : ∀ (xs : List α),
    (∀ x ∈ xs, ∃ ρ1, g (en x) ρ = some ρ1 ∧ t ρ1 = some (p x) ∧ (p x = true → e ρ1 = some (q x))) → compL g t e ρ (xs.map en) = some ((xs.filter p).map q)
  | [], _ => rfl
  | x :: xs, hs => by
    obtain ⟨ρ1, h1, h2, h3⟩ := hs x List.mem_cons_self
    have ih := compL_map en p q xs fun y hy => hs y (List.mem_cons_of_mem _ hy)
    cases hp : p x with
    | true => simp [compL, h1, h2, hp, h3 hp, ih]
    | false => simp [compL, h1, h2, hp, ih]
theorem compL_all {α : Type} {g : DG} {e : DF} {ρ : Rho} (en : α → D) (q : α → D) (xs : List α)
    (hs : ∀ x ∈ xs, ∃ ρ1, g (en x) ρ = some ρ1 ∧ e ρ1 = some (q x)) : compL g bYes e ρ (xs.map en) = some (xs.map q) := by
  rw [compL_map en (fun _ => true) q xs fun x hx => by
    obtain ⟨ρ1, h1, h2⟩ := hs x hx
    exact ⟨ρ1, h1, rfl, fun _ => h2⟩]
  rw [List.filter_eq_self.mpr (fun _ _ => rfl)]
theorem lstOk_le {ds : List D} (h : ds.length ≤ 16777216) : lstOk ds = some (.lst ds) := by simp [lstOk, h]
/-- a comprehension, without an if -/
theorem comp_all {α : Type} {it : DFs} {g : DG} {e : DF} {vs : List Nat} {ρ : Rho} (en : α → D) (q : α → D) (xs : List α) (hi : it ρ = some (xs.map en)) (hl : xs.length ≤ 16777216)
    (hs : ∀ x ∈ xs, ∃ ρ1, g (en x) (wipeR ρ vs) = some ρ1 ∧ e ρ1 = some (q x)) : dComp it g bYes e vs ρ = some (.lst (xs.map q)) := by
  unfold dComp
  rw [hi]
  simp only [Option.bind_some]
  rw [compL_all en q xs hs]
  simp [lstOk, hl]
theorem comp_if {α : Type} {it : DFs} {g : DG} {t : DB} {e : DF} {vs : List Nat} {ρ : Rho} (en : α → D) (p : α → Bool) (q : α → D) (xs : List α) (hi : it ρ = some (xs.map en)) (hl : xs.length ≤ 16777216)
    (hs : ∀ x ∈ xs, ∃ ρ1, g (en x) (wipeR ρ vs) = some ρ1 ∧ t ρ1 = some (p x) ∧ (p x = true → e ρ1 = some (q x))) : dComp it g t e vs ρ = some (.lst ((xs.filter p).map q)) := by
  unfold dComp
  rw [hi]
  simp only [Option.bind_some]
  rw [compL_map en p q xs hs]
  have : (xs.filter p).length ≤ 16777216 := Nat.le_trans (List.length_filter_le p xs) hl
  simp [lstOk, this]
theorem asBls_map {α : Type} (p : α → Bool) : ∀ xs : List α, asBls (xs.map fun x => .bl (p x)) = some (xs.map p)
  | [] => rfl
  | x :: xs => by simp [asBls, asBls_map p xs]
theorem asInts_map {α : Type} (p : α → Int) : ∀ xs : List α, asInts (xs.map fun x => .int (p x)) = some (xs.map p)
  | [] => rfl
  | x :: xs => by simp [asInts, asInts_map p xs]
theorem opAll_map {α : Type} (p : α → Bool) (xs : List α) : opAll [.lst (xs.map fun x => .bl (p x))] = some (.bl (xs.all p)) := by
  simp [opAll, asBls_map, List.all_map]
theorem okDs_map {α : Type} {n : Nat} (f : α → D) : ∀ l : List α, (∀ x ∈ l, okD n (f x) = true) → okDs n (l.map f) = true
  | [], _ => rfl
  | x :: l, h => by
    rw [List.map_cons]
    unfold okDs
    rw [h x List.mem_cons_self, okDs_map f l fun y hy => h y (List.mem_cons_of_mem _ hy)]
    rfl
theorem opEq_ok {d e : D} (h1 : okD 60 d = true) (h2 : okD 60 e = true) : opEq d e = some (.bl (eqD d e)) := by simp [opEq, h1, h2]
theorem opNe_ok {d e : D} (h1 : okD 60 d = true) (h2 : okD 60 e = true) : opNe d e = some (.bl (!eqD d e)) := by simp [opNe, h1, h2]
@[simp] theorem p_eqB (a b : Bool) : opEq (.bl a) (.bl b) = some (.bl (decide (a = b))) := by cases a <;> cases b <;> rfl
@[simp] theorem p_neB (a b : Bool) : opNe (.bl a) (.bl b) = some (.bl (!decide (a = b))) := by cases a <;> cases b <;> rfl
mutual
def sameD : D → D → Bool
  | .non, .non => true
  | .bl a, .bl b => a == b
  | .int i, .int j => i == j
  | .str x, .str y => decide (x = y)
  | .tup xs, .tup ys => sameDs xs ys
  | .lst xs, .lst ys => sameDs xs ys
  | _, _ => false
def sameDs : List D → List D → Bool
  | [], [] => true
  | x :: xs, y :: ys => sameD x y && sameDs xs ys
  | _, _ => false
end
mutual
theorem sameD_eq : ∀ (x y : D), sameD x y = true → x = y
  | .non, y, h => by cases y <;> first | rfl | (simp [sameD] at h)
  | .bl a, y, h => by cases y <;> simp [sameD] at h <;> rw [h]
  | .int a, y, h => by cases y <;> simp [sameD] at h <;> rw [h]
  | .str a, y, h => by cases y <;> simp [sameD] at h <;> rw [h]
  | .tup a, y, h => by
    cases y <;> simp [sameD] at h
    rw [sameDs_eq _ _ h]
  | .lst a, y, h => by
    cases y <;> simp [sameD] at h
    rw [sameDs_eq _ _ h]
  | .bell a, y, h => by cases y <;> simp [sameD] at h
  | .scr a, y, h => by cases y <;> simp [sameD] at h
theorem sameDs_eq : ∀ (x y : List D), sameDs x y = true → x = y
  | [], [], _ => rfl
  | [], _ :: _, h => by simp [sameDs] at h
  | _ :: _, [], h => by simp [sameDs] at h
  | x :: xs, y :: ys, h => by
    simp only [sameDs, Bool.and_eq_true] at h
    rw [sameD_eq x y h.1, sameDs_eq xs ys h.2]
end
def sameO : Option D → D → Bool
  | some x, y => sameD x y
  | none, _ => false
theorem sameO_eq {x : Option D} {y : D} (h : sameO x y = true) : x = some y := by
  cases x with
  | none => cases h
  | some x => rw [sameD_eq x y h]
end Mi
namespace Mi
open DL
def eO : Option Nat → D
  | none => .non
  | some n => .int n
def eV (m : Nat) (f : Nat → Nat) : D := .tup ((List.range m).map fun i => .int (f i))
def eR (w : Nat) (f : Nat → Option Nat) : D := .tup ((List.range w).map fun j => eO (f j))
def eT (m w : Nat) (T : Nat → Nat → Option Nat) : D := .tup ((List.range m).map fun i => eR w (T i))
def eP (p : Nat × Nat) : D := .tup [.int p.1, .int p.2]
def eL (l : List Nat) : D := .lst (l.map fun n => .int (n : Nat))
theorem ixRT0 {m : Nat} {f : Nat → D} (h : 0 < m) : opIx (.tup ((List.range m).map f)) (.int 0) = some (f 0) := ixRT (i := 0) h
theorem ix_eT {m w i : Nat} {T : Nat → Nat → Option Nat} (h : i < m) : opIx (eT m w T) (.int i) = some (eR w (T i)) := ixRT h
theorem ix_eT0 {m w : Nat} {T : Nat → Nat → Option Nat} (h : 0 < m) : opIx (eT m w T) (.int 0) = some (eR w (T 0)) := ixRT0 h
theorem ix_eR {w i : Nat} {T : Nat → Option Nat} (h : i < w) : opIx (eR w T) (.int i) = some (eO (T i)) := ixRT h
theorem ix_eV {w i : Nat} {T : Nat → Nat} (h : i < w) : opIx (eV w T) (.int i) = some (.int (T i)) := ixRT h
@[simp] theorem len_eT (m w : Nat) (T : Nat → Nat → Option Nat) : opLen [eT m w T] = some (.int m) := by simp [eT]
@[simp] theorem len_eR (w : Nat) (T : Nat → Option Nat) : opLen [eR w T] = some (.int w) := by simp [eR]
@[simp] theorem len_eV (w : Nat) (T : Nat → Nat) : opLen [eV w T] = some (.int w) := by simp [eV]
@[simp] theorem isNone_eO (x : Option Nat) : isNone (eO x) = x.isNone := by cases x <;> rfl
@[simp] theorem seq_eT (m w : Nat) (T : Nat → Nat → Option Nat) : asSeq (eT m w T) = some ((List.range m).map fun i => eR w (T i)) := rfl
@[simp] theorem seq_eR (w : Nat) (T : Nat → Option Nat) : asSeq (eR w T) = some ((List.range w).map fun j => eO (T j)) := rfl
@[simp] theorem seq_eV (w : Nat) (T : Nat → Nat) : asSeq (eV w T) = some ((List.range w).map fun j => .int (T j)) := rfl
@[simp] theorem seq_eL (l : List Nat) : asSeq (eL l) = some (l.map fun n => .int (n : Nat)) := rfl
@[simp] theorem eO_some (n : Nat) : eO (some n) = .int n := rfl
@[simp] theorem eO_none : eO none = .non := rfl
theorem gcd_step {a b : Nat} (h : 0 < b) : Nat.gcd b (a % b) = Nat.gcd a b := by
  rw [Nat.gcd_comm b, ← Nat.gcd_rec, Nat.gcd_comm]
theorem gcd_loop (ds : DF) {a b : Nat} (hb : b < 1000000000000000000000000000000) :
    ∃ ρ', dWhile (bV (d2 opGt (dv 1) (dc (.int 0)))) m_gcd_b1 [some (.int a), some (.int b)] = some (.nx ρ') ∧ ρ' = [some (.int (Nat.gcd a b)), some (.int 0)] := by
  refine dWhile_m (fun k ρ => ∃ x y : Nat, ρ = [some (.int x), some (.int y)] ∧ y = k ∧ Nat.gcd x y = Nat.gcd a b) _ (k := b) ⟨a, b, rfl, rfl, rfl⟩ hb ?_
  rintro k ρ ⟨x, y, rfl, rfl, hg⟩
  refine ⟨decide (0 < y), by simp, ?_, ?_⟩
  · intro h
    have h := of_decide_eq_true h
    refine ⟨x % y, [some (.int y), some (.int ((x % y : Nat) : Int))], Nat.mod_lt _ h, by simp [m_gcd_b1, mod_n h], y, x % y, rfl, rfl, ?_⟩
    rw [gcd_step h, hg]
  · intro h
    have h := of_decide_eq_false h
    have : y = 0 := by omega
    subst this
    rw [Nat.gcd_zero_right] at hg
    rw [hg]
    rfl
theorem gcd_m {a b : Nat} (hb : b < 1000000000000000000000000000000) : m_gcd [.int a, .int b] = some (.int (Nat.gcd a b)) := by
  obtain ⟨ρ', h, e⟩ := gcd_loop (dv 0) (a := a) hb
  refine run_rt rfl ?_
  show dSeq _ _ [some (.int a), some (.int b)] = _
  rw [seq_nx h, e]
  simp
theorem lgcd_m {a b : Nat} (hb : b < 1000000000000000000000000000000) : m_law_gcd [.int a, .int b] = some (.int (Nat.gcd a b)) := by
  rw [show m_law_gcd = m_gcd from rfl]
  exact gcd_m hb
theorem div_gcd_mul {a b : Nat} (hg0 : 0 < Nat.gcd a b) : a / a.gcd b * b = a.lcm b := by
  unfold Nat.lcm
  rw [Nat.mul_comm, ← Nat.mul_div_assoc _ (Nat.gcd_dvd_left a b), Nat.mul_comm]
theorem lcm_m {a b : Nat} (ha : 0 < a) (hb : b < 18446744073709551616) (hg : Nat.gcd a b < 18446744073709551616) : m_lcm [.int a, .int b] = some (.int (Nat.lcm a b)) := by
  have hg0 : 0 < Nat.gcd a b := Nat.gcd_pos_of_pos_left _ ha
  have h1 := mul_n (a := a / Nat.gcd a b) hb
  have h2 := gcd_m (a := a) (b := b) (by omega)
  have h3 := div_n (a := a) hg0 hg
  refine run_rt rfl ?_
  rw [div_gcd_mul hg0] at h1
  simp only [p_dRet, p_d2, p_dL, p_dcons, p_dnil, p_dv, lk_z, lk_s, List.map_cons, List.map_nil, List.cons_append, bnd_some, h1, h2, h3]
theorem llcm_m {a b : Nat} (ha : 0 < a) (hb : b < 18446744073709551616) (hg : Nat.gcd a b < 18446744073709551616) : m_law_lcm [.int a, .int b] = some (.int (Nat.lcm a b)) := by
  have hg0 : 0 < Nat.gcd a b := Nat.gcd_pos_of_pos_left _ ha
  have h1 := mul_n (a := a) hb
  have h2 := lgcd_m (a := a) (b := b) (by omega)
  have h3 := div_n (a := a * b) hg0 hg
  refine run_rt rfl ?_
  simp only [p_dRet, p_d2, p_dL, p_dcons, p_dnil, p_dv, lk_z, lk_s, List.map_cons, List.map_nil, List.cons_append, bnd_some, h1, h2, h3]
  rfl
structure Tab (m w : Nat) (T : Nat → Nat → Option Nat) : Prop where
  m0 : 0 < m
  m1 : m ≤ 100
  w0 : 0 < w
  w1 : w ≤ 100
  bd : ∀ i j e, T i j = some e → 0 < e ∧ e ≤ 1000000000000000000
theorem Tab.tr {m w : Nat} {T : Nat → Nat → Option Nat} (h : Tab m w T) : Tab w m (fun j i => T i j) := ⟨h.w0, h.w1, h.m0, h.m1, fun i j e q => h.bd j i e q⟩
def gStep (f : Nat → Option Nat) (g j : Nat) : Nat := match f j with
  | none => g
  | some e => Nat.gcd e g
def gRow (w : Nat) (f : Nat → Option Nat) : Nat := (List.range w).foldl (gStep f) 0
theorem gRow_succ (w : Nat) (f : Nat → Option Nat) : gRow (w + 1) f = gStep f (gRow w f) w := by
  unfold gRow
  rw [List.range_succ, List.foldl_append]
  rfl
theorem dvd_gRow (f : Nat → Option Nat) (d : Nat) : ∀ w : Nat, d ∣ gRow w f ↔ ∀ j, j < w → ∀ e, f j = some e → d ∣ e
  | 0 => by
    constructor
    · intro _ j hj
      omega
    · intro _
      exact Nat.dvd_zero d
  | w + 1 => by
    rw [gRow_succ]
    unfold gStep
    constructor
    · intro h j hj e he
      by_cases hjw : j = w
      · subst hjw
        rw [he] at h
        exact Nat.dvd_trans h (Nat.gcd_dvd_left _ _)
      · refine (dvd_gRow f d w).mp ?_ j (by omega) e he
        cases q : f w with
        | none => rw [q] at h; exact h
        | some x => rw [q] at h; exact Nat.dvd_trans h (Nat.gcd_dvd_right _ _)
    · intro h
      have h1 : d ∣ gRow w f := (dvd_gRow f d w).mpr fun j hj e he => h j (by omega) e he
      cases q : f w with
      | none => exact h1
      | some x => exact Nat.dvd_gcd (h w (by omega) x q) h1
theorem gRow_dvd {f : Nat → Option Nat} {w j e : Nat} (hj : j < w) (he : f j = some e) : gRow w f ∣ e := (dvd_gRow f _ w).mp (Nat.dvd_refl _) j hj e he
theorem gRow_pos {f : Nat → Option Nat} {w j e : Nat} (hj : j < w) (he : f j = some e) (h0 : 0 < e) : 0 < gRow w f := Nat.pos_of_dvd_of_pos (gRow_dvd hj he) h0
theorem gRow_le {f : Nat → Option Nat} {B : Nat} (hf : ∀ j e, f j = some e → 0 < e ∧ e ≤ B) : ∀ w, gRow w f ≤ B
  | 0 => Nat.zero_le _
  | w + 1 => by
    rw [gRow_succ]
    unfold gStep
    cases q : f w with
    | none => exact gRow_le hf w
    | some x => exact Nat.le_trans (Nat.gcd_le_left _ (hf w x q).1) (hf w x q).2
theorem row_divisor_m {w : Nat} {f : Nat → Option Nat} (hf : ∀ j e, f j = some e → 0 < e ∧ e ≤ 1000000000000000000) : m_row_divisor [eR w f] = some (.int (gRow w f)) := by
  refine run_rt rfl ?_
  obtain ⟨ρ', h1, h2, x, h3⟩ := for_fold (g := gN 2) (b := m_row_divisor_b1) (fun j => eO (f j))
    (fun (g : Nat) (ρ : Rho) => g ≤ 1000000000000000000 ∧ ∃ x, ρ = [some (eR w f), some (.int g), x]) (gStep f) (List.range w) 0 [some (eR w f), some (.int 0), none] (by
      rintro j _ a ρ ⟨ha, x, rfl⟩
      refine ⟨_, rfl, ?_⟩
      cases q : f j with
      | none => exact ⟨_, by simp [m_row_divisor_b1, q]; rfl, by simp [gStep, q, ha]⟩
      | some e =>
        have := gcd_m (a := e) (b := a) (by omega)
        have h2 := Nat.le_trans (Nat.gcd_le_left a (hf j e q).1) (hf j e q).2
        exact ⟨_, by simp [m_row_divisor_b1, q, this]; rfl, by simp [gStep, q, h2]⟩) ⟨by omega, none, rfl⟩
  simp only [p_dSeq, p_dSet, p_dc, bnd_some, List.map_cons, List.map_nil, List.cons_append, List.nil_append, st_z, st_s, List.replicate]
  rw [for_eq (ds := (List.range w).map fun j => eO (f j)) (by simp), h1]
  subst h3
  simp [gRow]
theorem turned_m {m w : Nat} {T : Nat → Nat → Option Nat} (h : Tab m w T) : m_turned [eT m w T] = some (eT w m (fun j i => T i j)) := by
  have hm := h.m0
  have hm1 := h.m1
  have hw1 := h.w1
  refine run_rt rfl ?_
  simp only [p_dRet, p_dL, p_dcons, p_dnil]
  unfold m_turned_c2
  rw [comp_all (fun j : Nat => D.int j) (fun j => eR m (fun i => T i j)) (List.range w) (by simp [ix_eT0 hm, rng1 (n := w) (by omega)]) (by simp; omega) (by
    intro j hj
    have hj := List.mem_range.mp hj
    refine ⟨_, rfl, ?_⟩
    simp only [p_dL, p_dcons, p_dnil]
    unfold m_turned_c1
    rw [comp_all (fun i => eR w (T i)) (fun i => eO (T i j)) (List.range m) (by simp) (by simp; omega) (by
      intro i hi
      refine ⟨_, rfl, ?_⟩
      simp [ix_eR hj])]
    simp [eR])]
  simp [eT]
theorem greatest_m {m w : Nat} {T : Nat → Nat → Option Nat} (h : Tab m w T) : m_greatest [eT m w T] = some (.tup [eV m (fun i => gRow w (T i)), eV w (fun j => gRow m (fun i => T i j))]) := by
  have hm1 := h.m1
  have hw1 := h.w1
  refine run_rt rfl ?_
  simp only [p_dRet, p_dL, p_dcons, p_dnil]
  unfold m_greatest_c1 m_greatest_c2
  rw [comp_all (fun i => eR w (T i)) (fun i => D.int (gRow w (T i))) (List.range m) (by simp) (by simp; omega) (by
      intro i hi
      refine ⟨_, rfl, ?_⟩
      simp [row_divisor_m (w := w) (fun j e q => h.bd i j e q)]),
    comp_all (fun j => eR m (fun i => T i j)) (fun j => D.int (gRow m (fun i => T i j))) (List.range w) (by simp [turned_m h]) (by simp; omega) (by
      intro j hj
      refine ⟨_, rfl, ?_⟩
      simp [row_divisor_m (w := m) (fun i e q => h.bd i j e q)])]
  simp [eV]
def kpRow (w : Nat) (T : Nat → Nat → Option Nat) (i : Nat) : List (Nat × Nat) := ((List.range w).filter fun j => (T i j).isSome).map fun j => (i, j)
def kp (m w : Nat) (T : Nat → Nat → Option Nat) : List (Nat × Nat) := (List.range m).flatMap (kpRow w T)
theorem kp_succ (m w : Nat) (T : Nat → Nat → Option Nat) : kp (m + 1) w T = kp m w T ++ kpRow w T m := by
  unfold kp
  rw [List.range_succ, List.flatMap_append]
  simp
theorem kpRow_len (w : Nat) (T : Nat → Nat → Option Nat) (i : Nat) : (kpRow w T i).length ≤ w := by
  unfold kpRow
  rw [List.length_map]
  exact Nat.le_trans (List.length_filter_le _ _) (by simp)
theorem kp_len (w : Nat) (T : Nat → Nat → Option Nat) : ∀ m, (kp m w T).length ≤ m * w
  | 0 => by simp [kp]
  | m + 1 => by
    rw [kp_succ, List.length_append, Nat.succ_mul]
    exact Nat.add_le_add (kp_len w T m) (kpRow_len w T m)
theorem kp_len1 {m w : Nat} {T : Nat → Nat → Option Nat} (h : Tab m w T) : (kp m w T).length ≤ 10000 :=
  Nat.le_trans (kp_len w T m) (Nat.mul_le_mul h.m1 h.w1)
theorem mem_kp {m w : Nat} {T : Nat → Nat → Option Nat} {p : Nat × Nat} : p ∈ kp m w T ↔ p.1 < m ∧ p.2 < w ∧ (T p.1 p.2).isSome = true := by
  unfold kp kpRow
  simp only [List.mem_flatMap, List.mem_range, List.mem_map, List.mem_filter]
  constructor
  · rintro ⟨i, hi, j, ⟨hj, hs⟩, rfl⟩
    exact ⟨hi, hj, hs⟩
  · rintro ⟨h1, h2, h3⟩
    exact ⟨p.1, h1, p.2, ⟨h2, h3⟩, rfl⟩
theorem kp_some {m w : Nat} {T : Nat → Nat → Option Nat} {p : Nat × Nat} (h : p ∈ kp m w T) : ∃ e, T p.1 p.2 = some e ∧ p.1 < m ∧ p.2 < w := by
  obtain ⟨h1, h2, h3⟩ := mem_kp.mp h
  cases q : T p.1 p.2 with
  | none => rw [q] at h3; cases h3
  | some e => exact ⟨e, rfl, h1, h2⟩
theorem known_places_m {m w : Nat} {T : Nat → Nat → Option Nat} (h : Tab m w T) : m_known_places [eT m w T] = some (.lst ((kp m w T).map eP)) := by
  have hm := h.m0
  have hm1 := h.m1
  have hw1 := h.w1
  refine run_rt rfl ?_
  obtain ⟨ρ', h1, x, h3⟩ := for_range (g := gN 2) (b := m_known_places_b1) (fun i : Nat => D.int i)
    (fun (i : Nat) (ρ : Rho) => ∃ x, ρ = [some (eT m w T), some (.lst ((kp i w T).map eP)), x, none]) m (by
      rintro i hi ρ ⟨x, rfl⟩
      refine ⟨_, rfl, ?_⟩
      have h2 : m_known_places_c1 [some (eT m w T), some (.lst ((kp i w T).map eP)), some (.int i), none]
          = some (.lst ((kpRow w T i).map eP)) := by
        unfold m_known_places_c1
        rw [comp_if (fun j : Nat => D.int j) (fun j => (T i j).isSome) (fun j => eP (i, j)) (List.range w) (by simp [ix_eT0 hm, rng1 (n := w) (by omega)]) (by simp; omega) (by
          intro j hj
          have hj := List.mem_range.mp hj
          refine ⟨_, rfl, ?_, fun _ => ?_⟩
          · simp [ix_eT hi, ix_eR hj]
          · simp [eP])]
        simp [kpRow, Function.comp_def]
      have hl : ((kp i w T).map eP).length + ((kpRow w T i).map eP).length ≤ 16777216 := by
        have h5 := kp_len w T i
        have h6 := kpRow_len w T i
        have h7 : i * w ≤ 100 * 100 := Nat.mul_le_mul (by omega) hw1
        simp only [List.length_map]
        omega
      refine ⟨[some (eT m w T), some (.lst ((kp (i + 1) w T).map eP)), some (.int i), none], ?_, _, rfl⟩
      rw [kp_succ, List.map_append]
      simp only [m_known_places_b1, p_dSet, p_d2, p_dv, lk_z, lk_s, bnd_some, st_s, st_z, h2, p_appL, if_pos hl]) (ρ := [some (eT m w T), some (.lst []), none, none]) ⟨none, rfl⟩
  simp only [p_dSeq, p_dSet, p_dL, p_dnil, p_opLst, bnd_some, List.map_cons, List.map_nil, List.cons_append, List.nil_append, st_z, st_s, List.replicate, List.length_nil, Nat.zero_le, if_true]
  rw [for_eq (ds := (List.range m).map fun i : Nat => D.int i) (by simp [rng1 (n := m) (by omega)]), h1]
  subst h3
  simp
abbrev gR (w : Nat) (T : Nat → Nat → Option Nat) (i : Nat) : Nat := gRow w (T i)
abbrev gC (m : Nat) (T : Nat → Nat → Option Nat) (j : Nat) : Nat := gRow m (fun i => T i j)
def isReal (m w : Nat) (T : Nat → Nat → Option Nat) : Bool := (kp m w T).all fun p => decide (Nat.lcm (gR w T p.1) (gC m T p.2) = (T p.1 p.2).getD 0)
theorem isReal_iff {m w : Nat} {T : Nat → Nat → Option Nat} : isReal m w T = true ↔ ∀ i, i < m → ∀ j, j < w → ∀ e, T i j = some e → Nat.lcm (gR w T i) (gC m T j) = e := by
  unfold isReal
  rw [List.all_eq_true]
  constructor
  · intro h i hi j hj e he
    have := h (i, j) (mem_kp.mpr ⟨hi, hj, by simp [he]⟩)
    simpa [he] using this
  · intro h p hp
    obtain ⟨e, he, h1, h2⟩ := kp_some hp
    simp [he, h p.1 h1 p.2 h2 e he]
theorem is_real_m {m w : Nat} {T : Nat → Nat → Option Nat} (h : Tab m w T) : m_is_real [eT m w T] = some (.bl (isReal m w T)) := by
  refine run_rt rfl ?_
  simp only [p_dSeq, p_dAsg, p_dL, p_dcons, p_dnil, p_dv, lk_z, bnd_some, greatest_m h, p_gT, p_gsCons, p_gsNil, p_gN, p_dRet, List.map_cons, List.map_nil, List.cons_append, List.nil_append, st_z, st_s, List.replicate]
  unfold m_is_real_c1
  rw [comp_all eP (fun p => D.bl (decide (Nat.lcm (gR w T p.1) (gC m T p.2) = (T p.1 p.2).getD 0))) (kp m w T) (by simp [known_places_m h]) (by have := kp_len1 h; omega) (by
    intro p hp
    obtain ⟨e, he, h1, h2⟩ := kp_some hp
    obtain ⟨e0, e1⟩ := h.bd _ _ _ he
    have r0 : 0 < gR w T p.1 := gRow_pos h2 he e0
    have c0 : 0 < gC m T p.2 := gRow_pos (f := fun i => T i p.2) h1 he e0
    have r1 : gR w T p.1 ≤ 1000000000000000000 := gRow_le (fun j e q => h.bd _ j e q) w
    have c1 : gC m T p.2 ≤ 1000000000000000000 := gRow_le (fun i e q => h.bd i _ e q) m
    have l := lcm_m r0 (b := gC m T p.2) (by omega) (Nat.lt_of_le_of_lt (Nat.gcd_le_left _ r0) (by omega))
    refine ⟨_, rfl, ?_⟩
    simp [ix_eV h1, ix_eV h2, ix_eT h1, ix_eR h2, he, l])]
  simp [opAll_map, isReal]
end Mi
namespace Mi
open DL
theorem cell_m {ns : List Int} (h : ns.length ≤ 63) {i : Nat} (hi : i ≤ 1000) : ∃ c : Int, m_law_cell [.scr ns, .int i] = some (.int c) := by
  have ix : ∀ j : Nat, j < ns.length → ∃ c, opIx (.scr ns) (.int j) = some (.int c) := fun j hj => ⟨ns[j], by simp [opIx, ixN hj, List.getElem?_eq_getElem hj]⟩
  by_cases h1 : i < ns.length
  · obtain ⟨c, hc⟩ := ix i h1
    have h2 : ((i : Int) < (ns.length : Int)) := by omega
    exact ⟨c, run_rt rfl (by simp only [bnd_some, bnd_none, p_dc, p_dv, lk_z, lk_s, st_z, st_s, un_z, un_s, wipe_n, wipe_c, p_d2, p_d1, p_dnil, p_dcons, p_dL, p_asB, p_asI, p_asL, p_asSeqL, p_asSeqT, p_bV, p_dB, p_bAnd, p_bOr, p_bNot, p_dIf, p_dAnd, p_dOr, p_dNot, p_dCh, p_bYes, p_gN, p_gT, p_gsNil, p_gsCons, p_dNx, p_dRet, p_dSet, p_dIfS, p_dAsg, p_dPar, p_dAug, p_dApp, p_dSetIx, p_nLst, p_nRep, p_nOf, p_dSetN, p_dParN1, p_dParNN, p_iSeq, p_iRng1, p_iRng2, p_oNo, p_oIx, p_dSl, p_asIx, p_opTup, p_opLst, p_lenT, p_lenL, p_lenS, p_tupT, p_tupL, p_add, p_sub, p_mul, p_lt, p_le, p_gt, p_ge, p_eqI, p_neI, p_isN, p_isnN, p_isB, p_isnB, p_isNone_n, p_isNone_i, p_isNone_t, p_isNone_l, p_appL, p_appT, b_mc, b_mn, b_ac, b_an, b_rs, b_rz, b_lc, b_ln, b_it, b_if, b_itt, b_iff, p_dSeq, p_eqB, p_neB, len_eT, len_eR, len_eV, isNone_eO, seq_eT, seq_eR, seq_eV, seq_eL, eO_some, eO_none, ↓p_eqN, ↓p_neN, ↓p_ltN, ↓p_leN, ↓p_gtN, ↓p_geN, decide_eq_true h1, hc])⟩
  · have h2 : ¬ ((i : Int) < (ns.length : Int)) := by omega
    by_cases h3 : ns.length = 0
    · have h4 : (ns.length : Int) = 0 := by omega
      have h5 := mul_j (a := 7919) (b := i) (by decide) (by decide)
      exact ⟨_, run_rt rfl (by simp only [bnd_some, bnd_none, p_dc, p_dv, lk_z, lk_s, st_z, st_s, un_z, un_s, wipe_n, wipe_c, p_d2, p_d1, p_dnil, p_dcons, p_dL, p_asB, p_asI, p_asL, p_asSeqL, p_asSeqT, p_bV, p_dB, p_bAnd, p_bOr, p_bNot, p_dIf, p_dAnd, p_dOr, p_dNot, p_dCh, p_bYes, p_gN, p_gT, p_gsNil, p_gsCons, p_dNx, p_dRet, p_dSet, p_dIfS, p_dAsg, p_dPar, p_dAug, p_dApp, p_dSetIx, p_nLst, p_nRep, p_nOf, p_dSetN, p_dParN1, p_dParNN, p_iSeq, p_iRng1, p_iRng2, p_oNo, p_oIx, p_dSl, p_asIx, p_opTup, p_opLst, p_lenT, p_lenL, p_lenS, p_tupT, p_tupL, p_add, p_sub, p_mul, p_lt, p_le, p_gt, p_ge, p_eqI, p_neI, p_isN, p_isnN, p_isB, p_isnB, p_isNone_n, p_isNone_i, p_isNone_t, p_isNone_l, p_appL, p_appT, b_mc, b_mn, b_ac, b_an, b_rs, b_rz, b_lc, b_ln, b_it, b_if, b_itt, b_iff, p_dSeq, p_eqB, p_neB, len_eT, len_eR, len_eV, isNone_eO, seq_eT, seq_eR, seq_eV, seq_eL, eO_some, eO_none, ↓p_eqN, ↓p_neN, ↓p_ltN, ↓p_leN, ↓p_gtN, ↓p_geN, decide_eq_false h1, decide_eq_true h4, h5]; rfl)⟩
    · have h4 : ¬ (ns.length : Int) = 0 := by omega
      have h5 := mul_j (a := 7919) (b := i) (by decide) (by decide)
      have h6 := mod_n (a := i) (b := ns.length) (by omega)
      obtain ⟨c, hc⟩ := ix (i % ns.length) (Nat.mod_lt _ (by omega))
      have h7 := mod_i (a := c) (b := 1000003) (by decide)
      exact ⟨_, run_rt rfl (by simp only [bnd_some, bnd_none, p_dc, p_dv, lk_z, lk_s, st_z, st_s, un_z, un_s, wipe_n, wipe_c, p_d2, p_d1, p_dnil, p_dcons, p_dL, p_asB, p_asI, p_asL, p_asSeqL, p_asSeqT, p_bV, p_dB, p_bAnd, p_bOr, p_bNot, p_dIf, p_dAnd, p_dOr, p_dNot, p_dCh, p_bYes, p_gN, p_gT, p_gsNil, p_gsCons, p_dNx, p_dRet, p_dSet, p_dIfS, p_dAsg, p_dPar, p_dAug, p_dApp, p_dSetIx, p_nLst, p_nRep, p_nOf, p_dSetN, p_dParN1, p_dParNN, p_iSeq, p_iRng1, p_iRng2, p_oNo, p_oIx, p_dSl, p_asIx, p_opTup, p_opLst, p_lenT, p_lenL, p_lenS, p_tupT, p_tupL, p_add, p_sub, p_mul, p_lt, p_le, p_gt, p_ge, p_eqI, p_neI, p_isN, p_isnN, p_isB, p_isnB, p_isNone_n, p_isNone_i, p_isNone_t, p_isNone_l, p_appL, p_appT, b_mc, b_mn, b_ac, b_an, b_rs, b_rz, b_lc, b_ln, b_it, b_if, b_itt, b_iff, p_dSeq, p_eqB, p_neB, len_eT, len_eR, len_eV, isNone_eO, seq_eT, seq_eR, seq_eV, seq_eL, eO_some, eO_none, ↓p_eqN, ↓p_neN, ↓p_ltN, ↓p_leN, ↓p_gtN, ↓p_geN, decide_eq_false h1, decide_eq_false h4, h5, h6, hc]; erw [h7]; simp only [bnd_some, bnd_none, p_dc, p_dv, lk_z, lk_s, st_z, st_s, un_z, un_s, wipe_n, wipe_c, p_d2, p_d1, p_dnil, p_dcons, p_dL, p_asB, p_asI, p_asL, p_asSeqL, p_asSeqT, p_bV, p_dB, p_bAnd, p_bOr, p_bNot, p_dIf, p_dAnd, p_dOr, p_dNot, p_dCh, p_bYes, p_gN, p_gT, p_gsNil, p_gsCons, p_dNx, p_dRet, p_dSet, p_dIfS, p_dAsg, p_dPar, p_dAug, p_dApp, p_dSetIx, p_nLst, p_nRep, p_nOf, p_dSetN, p_dParN1, p_dParNN, p_iSeq, p_iRng1, p_iRng2, p_oNo, p_oIx, p_dSl, p_asIx, p_opTup, p_opLst, p_lenT, p_lenL, p_lenS, p_tupT, p_tupL, p_add, p_sub, p_mul, p_lt, p_le, p_gt, p_ge, p_eqI, p_neI, p_isN, p_isnN, p_isB, p_isnB, p_isNone_n, p_isNone_i, p_isNone_t, p_isNone_l, p_appL, p_appT, b_mc, b_mn, b_ac, b_an, b_rs, b_rz, b_lc, b_ln, b_it, b_if, b_itt, b_iff, p_dSeq, p_eqB, p_neB, len_eT, len_eR, len_eV, isNone_eO, seq_eT, seq_eR, seq_eV, seq_eL, eO_some, eO_none, ↓p_eqN, ↓p_neN, ↓p_ltN, ↓p_leN, ↓p_gtN, ↓p_geN]; rfl)⟩
theorem mod_z {a b : Int} (h : 0 < b) : opMod (.int a) (.int b) = some (.int (a % b)) := by simp only [opMod, if_pos h]
theorem div_z {a b : Int} (h : 0 < b) (h3 : b < 18446744073709551616) : opFdiv (.int a) (.int b) = some (.int (a / b)) := by simp only [opFdiv, if_pos (And.intro h h3)]
def prD : List D := [.int 2147483647, .int 2147483629, .int 2147483587, .int 2147483579, .int 2147483563, .int 2147483549, .int 2147483543, .int 2147483497]
theorem prime_ix {r : Nat} (h : r < 8) : ∃ p : Int, opIx (.tup prD) (.int r) = some (.int p) ∧ 0 < p ∧ p < 4294967296 := by
  have : r = 0 ∨ r = 1 ∨ r = 2 ∨ r = 3 ∨ r = 4 ∨ r = 5 ∨ r = 6 ∨ r = 7 := by omega
  rcases this with e | e | e | e | e | e | e | e <;> subst e <;> exact ⟨_, rfl, by decide, by decide⟩
theorem pIx {k : Nat} {x : D} (h : opIx (.tup prD) (.int (k % 8 : Nat)) = some x) : (bnd (opMod (.int k) (.int 8)) fun y => opIx (.tup prD) y) = some x := by
  have : opMod (.int k) (.int 8) = some (.int (k % 8 : Nat)) := mod_n (b := 8) (by decide)
  rw [this]
  simp only [bnd_some, bnd_none, p_dc, p_dv, lk_z, lk_s, st_z, st_s, un_z, un_s, wipe_n, wipe_c, p_d2, p_d1, p_dnil, p_dcons, p_dL, p_asB, p_asI, p_asL, p_asSeqL, p_asSeqT, p_bV, p_dB, p_bAnd, p_bOr, p_bNot, p_dIf, p_dAnd, p_dOr, p_dNot, p_dCh, p_bYes, p_gN, p_gT, p_gsNil, p_gsCons, p_dNx, p_dRet, p_dSet, p_dIfS, p_dAsg, p_dPar, p_dAug, p_dApp, p_dSetIx, p_nLst, p_nRep, p_nOf, p_dSetN, p_dParN1, p_dParNN, p_iSeq, p_iRng1, p_iRng2, p_oNo, p_oIx, p_dSl, p_asIx, p_opTup, p_opLst, p_lenT, p_lenL, p_lenS, p_tupT, p_tupL, p_add, p_sub, p_mul, p_lt, p_le, p_gt, p_ge, p_eqI, p_neI, p_isN, p_isnN, p_isB, p_isnB, p_isNone_n, p_isNone_i, p_isNone_t, p_isNone_l, p_appL, p_appT, b_mc, b_mn, b_ac, b_an, b_rs, b_rz, b_lc, b_ln, b_it, b_if, b_itt, b_iff, p_dSeq, p_eqB, p_neB, len_eT, len_eR, len_eV, isNone_eO, seq_eT, seq_eR, seq_eV, seq_eL, eO_some, eO_none, ↓p_eqN, ↓p_neN, ↓p_ltN, ↓p_leN, ↓p_gtN, ↓p_geN, h]
theorem dig_body {s : D} {i k : Nat} {c base r cell : Int} {ds : List Nat} (x : Option D) (hi : i ≤ 1000) (hk : k ≤ 1000) (hd : ds.length ≤ 1000) (hb0 : 0 < base) (hb : base < 18446744073709551616) :
    ∃ d : Nat, (d : Int) < base ∧ ∃ r' m : Int, m_law_digits_b1 [some s, some (.int i), some (.int c), some (.int base), some (.tup prD), some (.int cell), some (.int r), some (eL ds), some (.int k), x] =
      some (.nx [some s, some (.int i), some (.int c), some (.int base), some (.tup prD), some (.int cell), some (.int r'), some (eL (ds ++ [d])), some (.int k), some (.int m)]) := by
  obtain ⟨p1, e1, a1, b1⟩ := prime_ix (r := k % 8) (by omega)
  obtain ⟨p2, e2, a2, b2⟩ := prime_ix (r := (3 * k + i) % 8) (by omega)
  obtain ⟨p3, e3, a3, b3⟩ := prime_ix (r := (k + 5) % 8) (by omega)
  have f1 := pIx e1
  have f2 := pIx e2
  have f3 := pIx e3
  have c2 : (((3 * k + i : Nat) : Int)) = 3 * (k : Int) + i := by omega
  have c3 : (((k + 5 : Nat) : Int)) = (k : Int) + 5 := by omega
  rw [c2] at f2
  rw [c3] at f3
  have g1 := mod_z (a := cell) a1
  have u0 : (0 : Int) ≤ k := by omega
  have v0 : (k : Int) ≤ 1000 := by omega
  have m1 := mul_j (a := 2) (b := k) (by decide) (by decide)
  have m2 := mul_i (a := 2 * (k : Int)) (b := k) (by omega) (by omega)
  have w1 := Int.emod_nonneg cell (b := p1) (by omega)
  have w2 := Int.emod_lt_of_pos cell a1
  have m3 := mul_j (a := cell % p1) (b := 48271 + 2 * (k : Int) * k) (by omega) (by omega)
  have m4 := mul_j (a := 7919) (b := (k : Int) + 1) (by decide) (by decide)
  have m5 := mul_i (a := 7919 * ((k : Int) + 1)) (b := (k : Int) + 1) (by omega) (by omega)
  have m6 := mul_j (a := 104729) (b := (i : Int)) (by decide) (by decide)
  have m7 := mul_j (a := 3) (b := (k : Int)) (by decide) (by decide)
  generalize hz : cell % p1 * (48271 + 2 * (k : Int) * k) = z at m3
  generalize hy : z + 7919 * ((k : Int) + 1) * ((k : Int) + 1) + 104729 * i = y
  have g2 := mod_z (a := y) a2
  have w3 := Int.emod_nonneg y (b := p2) (by omega)
  have w4 := Int.emod_lt_of_pos y a2
  generalize hx : y % p2 = q at g2 w3 w4
  have m8 := mul_j (a := q) (b := q) (by omega) (by omega)
  have m9 := mul_i (a := q * q) (b := q) (by omega) (by omega)
  have g3 := mod_z (a := q * q * q) a3
  have g5 := fun t => div_z (a := t) hb0 hb
  have g6 : ∀ t : Int, ∃ d : Nat, (d : Int) < base ∧ opMod (.int t) (.int base) = some (.int d) := fun t => by
    have h1 := Int.emod_nonneg t (b := base) (by omega)
    have h2 := Int.emod_lt_of_pos t hb0
    exact ⟨(t % base).toNat, by omega, by rw [mod_z hb0, Int.toNat_of_nonneg h1]⟩
  have hl : (ds.map fun n : Nat => D.int n).length < 16777216 := by rw [List.length_map]; omega
  unfold m_law_digits_b1
  by_cases hr : 0 < r
  · obtain ⟨d, hd1, hd2⟩ := g6 r
    refine ⟨d, hd1, r / base, r, ?_⟩
    simp only [bnd_some, bnd_none, p_dc, p_dv, lk_z, lk_s, st_z, st_s, un_z, un_s, wipe_n, wipe_c, p_d2, p_d1, p_dnil, p_dcons, p_dL, p_asB, p_asI, p_asL, p_asSeqL, p_asSeqT, p_bV, p_dB, p_bAnd, p_bOr, p_bNot, p_dIf, p_dAnd, p_dOr, p_dNot, p_dCh, p_bYes, p_gN, p_gT, p_gsNil, p_gsCons, p_dNx, p_dRet, p_dSet, p_dIfS, p_dAsg, p_dPar, p_dAug, p_dApp, p_dSetIx, p_nLst, p_nRep, p_nOf, p_dSetN, p_dParN1, p_dParNN, p_iSeq, p_iRng1, p_iRng2, p_oNo, p_oIx, p_dSl, p_asIx, p_opTup, p_opLst, p_lenT, p_lenL, p_lenS, p_tupT, p_tupL, p_add, p_sub, p_mul, p_lt, p_le, p_gt, p_ge, p_eqI, p_neI, p_isN, p_isnN, p_isB, p_isnB, p_isNone_n, p_isNone_i, p_isNone_t, p_isNone_l, p_appL, p_appT, b_mc, b_mn, b_ac, b_an, b_rs, b_rz, b_lc, b_ln, b_it, b_if, b_itt, b_iff, p_dSeq, p_eqB, p_neB, len_eT, len_eR, len_eV, isNone_eO, seq_eT, seq_eR, seq_eV, seq_eL, eO_some, eO_none, ↓p_eqN, ↓p_neN, ↓p_ltN, ↓p_leN, ↓p_gtN, ↓p_geN, f1, g1, m1, m2, m3, m4, m5, m6, hy, m7, f2, g2, m8, m9, f3, g3, decide_eq_true hr, hd2, g5, eL, if_pos hl, List.map_append]
  · obtain ⟨d, hd1, hd2⟩ := g6 (q * q * q % p3)
    refine ⟨d, hd1, r / base, q * q * q % p3, ?_⟩
    simp only [bnd_some, bnd_none, p_dc, p_dv, lk_z, lk_s, st_z, st_s, un_z, un_s, wipe_n, wipe_c, p_d2, p_d1, p_dnil, p_dcons, p_dL, p_asB, p_asI, p_asL, p_asSeqL, p_asSeqT, p_bV, p_dB, p_bAnd, p_bOr, p_bNot, p_dIf, p_dAnd, p_dOr, p_dNot, p_dCh, p_bYes, p_gN, p_gT, p_gsNil, p_gsCons, p_dNx, p_dRet, p_dSet, p_dIfS, p_dAsg, p_dPar, p_dAug, p_dApp, p_dSetIx, p_nLst, p_nRep, p_nOf, p_dSetN, p_dParN1, p_dParNN, p_iSeq, p_iRng1, p_iRng2, p_oNo, p_oIx, p_dSl, p_asIx, p_opTup, p_opLst, p_lenT, p_lenL, p_lenS, p_tupT, p_tupL, p_add, p_sub, p_mul, p_lt, p_le, p_gt, p_ge, p_eqI, p_neI, p_isN, p_isnN, p_isB, p_isnB, p_isNone_n, p_isNone_i, p_isNone_t, p_isNone_l, p_appL, p_appT, b_mc, b_mn, b_ac, b_an, b_rs, b_rz, b_lc, b_ln, b_it, b_if, b_itt, b_iff, p_dSeq, p_eqB, p_neB, len_eT, len_eR, len_eV, isNone_eO, seq_eT, seq_eR, seq_eV, seq_eL, eO_some, eO_none, ↓p_eqN, ↓p_neN, ↓p_ltN, ↓p_leN, ↓p_gtN, ↓p_geN, f1, g1, m1, m2, m3, m4, m5, m6, hy, m7, f2, g2, m8, m9, f3, g3, decide_eq_false hr, hd2, g5, eL, if_pos hl, List.map_append]
theorem digits_m {ns : List Int} (h : ns.length ≤ 63) {i count : Nat} {base : Int} (hi : i ≤ 1000) (hc : count ≤ 1000) (hb0 : 0 < base) (hb : base < 18446744073709551616) :
    ∃ ds : List Nat, ds.length = count ∧ (∀ d ∈ ds, (d : Int) < base) ∧ m_law_digits [.scr ns, .int i, .int count, .int base] = some (eL ds) := by
  obtain ⟨c, hcell⟩ := cell_m h hi
  have hgo : ∀ r : Int, ∃ ds : List Nat, ds.length = count ∧ (∀ d ∈ ds, (d : Int) < base) ∧ ∃ ρ', lk ρ' 7 = some (eL ds) ∧ forL (gN 8) m_law_digits_b1 ((List.range count).map fun i : Nat => D.int i) [some (.scr ns), some (.int i), some (.int count), some (.int base), some (.tup prD), some (.int c), some (.int r), some (.lst []), none, none] = some (.nx ρ') := by
    intro r
    obtain ⟨ρ', h1, ds, h2, h3, r', x, y, h4⟩ := for_range (g := gN 8) (b := m_law_digits_b1) (fun i : Nat => D.int i)
      (fun (k : Nat) (ρ : Rho) => ∃ ds : List Nat, ds.length = k ∧ (∀ d ∈ ds, (d : Int) < base) ∧ ∃ (r : Int) (x y : Option D), ρ = [some (.scr ns), some (.int i), some (.int count), some (.int base), some (.tup prD), some (.int c), some (.int r), some (eL ds), x, y]) count (by
        rintro k hk ρ ⟨ds, hl, hds, r, x, y, rfl⟩
        obtain ⟨d, hd, r', m, e⟩ := dig_body (s := .scr ns) (i := i) (k := k) (c := count) (base := base) (r := r) (cell := c) (ds := ds) y hi (by omega) (by omega) hb0 hb
        refine ⟨_, rfl, _, e, ds ++ [d], by simp [hl], ?_, r', _, _, rfl⟩
        intro z hz
        rcases List.mem_append.mp hz with q | q
        · exact hds z q
        · rw [List.mem_singleton.mp q]
          exact hd) (ρ := [some (.scr ns), some (.int i), some (.int count), some (.int base), some (.tup prD), some (.int c), some (.int r), some (.lst []), none, none]) ⟨[], rfl, by simp, r, none, none, rfl⟩
    exact ⟨ds, h2, h3, ρ', by rw [h4]; rfl, h1⟩
  have hp : opPow (.int 10) (.int 18) = some (.int 1000000000000000000) := rfl
  have hn : (iRng1 (dcons (dv 2) dnil)) = (iRng1 (dcons (dv 2) dnil)) := rfl
  have hr : ∀ r : Int, dFor (iRng1 (dcons (dv 2) dnil)) (gN 8) m_law_digits_b1 [some (.scr ns), some (.int i), some (.int count), some (.int base), some (.tup prD), some (.int c), some (.int r), some (.lst []), none, none] = forL (gN 8) m_law_digits_b1 ((List.range count).map fun i : Nat => D.int i) [some (.scr ns), some (.int i), some (.int count), some (.int base), some (.tup prD), some (.int c), some (.int r), some (.lst []), none, none] := by
    intro r
    exact for_eq (by simp only [bnd_some, bnd_none, p_dc, p_dv, lk_z, lk_s, st_z, st_s, un_z, un_s, wipe_n, wipe_c, p_d2, p_d1, p_dnil, p_dcons, p_dL, p_asB, p_asI, p_asL, p_asSeqL, p_asSeqT, p_bV, p_dB, p_bAnd, p_bOr, p_bNot, p_dIf, p_dAnd, p_dOr, p_dNot, p_dCh, p_bYes, p_gN, p_gT, p_gsNil, p_gsCons, p_dNx, p_dRet, p_dSet, p_dIfS, p_dAsg, p_dPar, p_dAug, p_dApp, p_dSetIx, p_nLst, p_nRep, p_nOf, p_dSetN, p_dParN1, p_dParNN, p_iSeq, p_iRng1, p_iRng2, p_oNo, p_oIx, p_dSl, p_asIx, p_opTup, p_opLst, p_lenT, p_lenL, p_lenS, p_tupT, p_tupL, p_add, p_sub, p_mul, p_lt, p_le, p_gt, p_ge, p_eqI, p_neI, p_isN, p_isnN, p_isB, p_isnB, p_isNone_n, p_isNone_i, p_isNone_t, p_isNone_l, p_appL, p_appT, b_mc, b_mn, b_ac, b_an, b_rs, b_rz, b_lc, b_ln, b_it, b_if, b_itt, b_iff, p_dSeq, p_eqB, p_neB, len_eT, len_eR, len_eV, isNone_eO, seq_eT, seq_eR, seq_eV, seq_eL, eO_some, eO_none, ↓p_eqN, ↓p_neN, ↓p_ltN, ↓p_leN, ↓p_gtN, ↓p_geN, rng1 (n := count) (by omega)])
  by_cases h1 : (1000000000000000000 : Int) ≤ c
  · obtain ⟨ds, h2, h3, ρ', h4, h5⟩ := hgo c
    refine ⟨ds, h2, h3, run_rt rfl ?_⟩
    have h6 := (hr c).trans h5
    unfold prD at h6
    simp only [bnd_some, bnd_none, p_dc, p_dv, lk_z, lk_s, st_z, st_s, un_z, un_s, wipe_n, wipe_c, p_d2, p_d1, p_dnil, p_dcons, p_dL, p_asB, p_asI, p_asL, p_asSeqL, p_asSeqT, p_bV, p_dB, p_bAnd, p_bOr, p_bNot, p_dIf, p_dAnd, p_dOr, p_dNot, p_dCh, p_bYes, p_gN, p_gT, p_gsNil, p_gsCons, p_dNx, p_dRet, p_dSet, p_dIfS, p_dAsg, p_dPar, p_dAug, p_dApp, p_dSetIx, p_nLst, p_nRep, p_nOf, p_dSetN, p_dParN1, p_dParNN, p_iSeq, p_iRng1, p_iRng2, p_oNo, p_oIx, p_dSl, p_asIx, p_opTup, p_opLst, p_lenT, p_lenL, p_lenS, p_tupT, p_tupL, p_add, p_sub, p_mul, p_lt, p_le, p_gt, p_ge, p_eqI, p_neI, p_isN, p_isnN, p_isB, p_isnB, p_isNone_n, p_isNone_i, p_isNone_t, p_isNone_l, p_appL, p_appT, b_mc, b_mn, b_ac, b_an, b_rs, b_rz, b_lc, b_ln, b_it, b_if, b_itt, b_iff, p_dSeq, p_eqB, p_neB, len_eT, len_eR, len_eV, isNone_eO, seq_eT, seq_eR, seq_eV, seq_eL, eO_some, eO_none, ↓p_eqN, ↓p_neN, ↓p_ltN, ↓p_leN, ↓p_gtN, ↓p_geN, hcell, hp, decide_eq_true h1, Nat.reduceLeDiff, Nat.reduceAdd, Nat.reduceSub, h6, h4]
  · obtain ⟨ds, h2, h3, ρ', h4, h5⟩ := hgo 0
    refine ⟨ds, h2, h3, run_rt rfl ?_⟩
    have h6 := (hr 0).trans h5
    unfold prD at h6
    simp only [bnd_some, bnd_none, p_dc, p_dv, lk_z, lk_s, st_z, st_s, un_z, un_s, wipe_n, wipe_c, p_d2, p_d1, p_dnil, p_dcons, p_dL, p_asB, p_asI, p_asL, p_asSeqL, p_asSeqT, p_bV, p_dB, p_bAnd, p_bOr, p_bNot, p_dIf, p_dAnd, p_dOr, p_dNot, p_dCh, p_bYes, p_gN, p_gT, p_gsNil, p_gsCons, p_dNx, p_dRet, p_dSet, p_dIfS, p_dAsg, p_dPar, p_dAug, p_dApp, p_dSetIx, p_nLst, p_nRep, p_nOf, p_dSetN, p_dParN1, p_dParNN, p_iSeq, p_iRng1, p_iRng2, p_oNo, p_oIx, p_dSl, p_asIx, p_opTup, p_opLst, p_lenT, p_lenL, p_lenS, p_tupT, p_tupL, p_add, p_sub, p_mul, p_lt, p_le, p_gt, p_ge, p_eqI, p_neI, p_isN, p_isnN, p_isB, p_isnB, p_isNone_n, p_isNone_i, p_isNone_t, p_isNone_l, p_appL, p_appT, b_mc, b_mn, b_ac, b_an, b_rs, b_rz, b_lc, b_ln, b_it, b_if, b_itt, b_iff, p_dSeq, p_eqB, p_neB, len_eT, len_eR, len_eV, isNone_eO, seq_eT, seq_eR, seq_eV, seq_eL, eO_some, eO_none, ↓p_eqN, ↓p_neN, ↓p_ltN, ↓p_leN, ↓p_gtN, ↓p_geN, hcell, hp, decide_eq_false h1, Nat.reduceLeDiff, Nat.reduceAdd, Nat.reduceSub, h6, h4]
end Mi
namespace Mi
open DL
theorem ix_eL {ds : List Nat} {k : Nat} (h : k < ds.length) : opIx (eL ds) (.int k) = some (.int (ds.getD k 0)) := by
  apply ixL
  simp [h]
theorem ix_eLz {ds : List Nat} {k : Int} (n : Nat) (e : k = n) (h : n < ds.length) : opIx (eL ds) (.int k) = some (.int (ds.getD n 0)) := by
  subst e
  exact ix_eL h
@[simp] theorem len_eL (ds : List Nat) : opLen [eL ds] = some (.int ds.length) := by simp [eL]
theorem sl_eL {ds : List Nat} {k : Nat} (h : k ≤ ds.length) : opSl (some (k : Int)) none (eL ds) = some (eL (ds.drop k)) := by
  have e : opSl (some (k : Int)) none (eL ds) = some (.lst (cutL (ds.map fun n : Nat => D.int n) (some (k : Int)) none)) := rfl
  rw [e]
  unfold cutL
  have e1 : HT.sIx (ds.map fun n : Nat => D.int n).length 0 (some (k : Int)) = k := by
    rw [HT.sIx_nat, List.length_map]
    omega
  rw [e1, HT.sIx_none, ← List.map_drop, List.take_of_length_le (by simp)]
  rfl
def someL : List Nat := [1, 2, 3, 4, 6, 8, 9, 12, 5, 10, 18, 30]
theorem someL_mem {r : Nat} : someL.getD r 1 ∈ someL := by
  by_cases h : r < 12
  · have : r = 0 ∨ r = 1 ∨ r = 2 ∨ r = 3 ∨ r = 4 ∨ r = 5 ∨ r = 6 ∨ r = 7 ∨ r = 8 ∨ r = 9 ∨ r = 10 ∨ r = 11 := by omega
    rcases this with e | e | e | e | e | e | e | e | e | e | e | e <;> subst e <;> decide
  · have : someL.getD r 1 = 1 := by
      rw [List.getD_eq_getElem?_getD, List.getElem?_eq_none (by simp [someL]; omega)]
      rfl
    rw [this]
    decide
theorem someL_pos {n : Nat} (h : n ∈ someL) : 0 < n ∧ n ≤ 30 := by
  simp [someL] at h
  omega
theorem ix_someL {r : Nat} (h : r < 12) : opIx (eL someL) (.int r) = some (.int (someL.getD r 1)) := by
  have : r = 0 ∨ r = 1 ∨ r = 2 ∨ r = 3 ∨ r = 4 ∨ r = 5 ∨ r = 6 ∨ r = 7 ∨ r = 8 ∨ r = 9 ∨ r = 10 ∨ r = 11 := by omega
  rcases this with e | e | e | e | e | e | e | e | e | e | e | e <;> subst e <;> rfl
theorem size_ix (d : Nat) : ∃ s : Nat, 0 < s ∧ s ≤ 12 ∧ (bnd (opMod (.int d) (.int 3)) fun y => opIx (.lst [.int 4, .int 7, .int 12]) y) = some (.int s) := by
  have h : opMod (.int d) (.int 3) = some (.int (d % 3 : Nat)) := mod_n (b := 3) (by decide)
  rw [h]
  simp only [bnd_some]
  have : d % 3 = 0 ∨ d % 3 = 1 ∨ d % 3 = 2 := by omega
  rcases this with e | e | e <;> rw [e]
  · exact ⟨4, by decide, by decide, rfl⟩
  · exact ⟨7, by decide, by decide, rfl⟩
  · exact ⟨12, by decide, by decide, rfl⟩
theorem numbers_m {ds : List Nat} (h : 12 ≤ ds.length) {m w : Nat} (hm : m ≤ 5) (hw : w ≤ 5) : ∃ R C : Nat → Nat, (∀ i, R i ∈ someL) ∧ (∀ j, C j ∈ someL) ∧ m_law_numbers [eL ds, .int m, .int w] = some (.tup [eV m R, eV w C]) := by
  obtain ⟨s, hs0, hs1, hs⟩ := size_ix (ds.getD 0 0)
  refine ⟨fun i => someL.getD (ds.getD (1 + i) 0 % s) 1, fun i => someL.getD (ds.getD (6 + i) 0 % s) 1, fun i => someL_mem, fun i => someL_mem, run_rt rfl ?_⟩
  have h0 : opIx (eL ds) (.int 0) = some (.int (ds.getD 0 0)) := ix_eL (k := 0) (by omega)
  have e1 : D.lst [.int 1, .int 2, .int 3, .int 4, .int 6, .int 8, .int 9, .int 12, .int 5, .int 10, .int 18, .int 30] = eL someL := rfl
  simp only [p_dSeq, p_dSet, p_dL, p_dcons, p_dnil, p_dc, bnd_some, p_opLst, List.length_cons, List.length_nil, Nat.reduceAdd, Nat.reduceLeDiff, if_true, e1, p_d2, p_dv, b_mc, b_mn, b_ac, b_an, b_rs, b_rz, Nat.reduceSub, lk_z, lk_s, st_z, st_s, h0, hs]
  unfold m_law_numbers_c1
  rw [comp_all (fun i : Nat => D.int i) (fun i => D.int (someL.getD (ds.getD (1 + i) 0 % s) 1)) (List.range m) (by simp only [bnd_some, bnd_none, p_dc, p_dv, lk_z, lk_s, st_z, st_s, un_z, un_s, wipe_n, wipe_c, p_d2, p_d1, p_dnil, p_dcons, p_dL, p_asB, p_asI, p_asL, p_asSeqL, p_asSeqT, p_bV, p_dB, p_bAnd, p_bOr, p_bNot, p_dIf, p_dAnd, p_dOr, p_dNot, p_dCh, p_bYes, p_gN, p_gT, p_gsNil, p_gsCons, p_dNx, p_dRet, p_dSet, p_dIfS, p_dAsg, p_dPar, p_dAug, p_dApp, p_dSetIx, p_nLst, p_nRep, p_nOf, p_dSetN, p_dParN1, p_dParNN, p_iSeq, p_iRng1, p_iRng2, p_oNo, p_oIx, p_dSl, p_asIx, p_opTup, p_opLst, p_lenT, p_lenL, p_lenS, p_tupT, p_tupL, p_add, p_sub, p_mul, p_lt, p_le, p_gt, p_ge, p_eqI, p_neI, p_isN, p_isnN, p_isB, p_isnB, p_isNone_n, p_isNone_i, p_isNone_t, p_isNone_l, p_appL, p_appT, b_mc, b_mn, b_ac, b_an, b_rs, b_rz, b_lc, b_ln, b_it, b_if, b_itt, b_iff, p_dSeq, p_eqB, p_neB, len_eT, len_eR, len_eV, isNone_eO, seq_eT, seq_eR, seq_eV, seq_eL, eO_some, eO_none, len_eL, ↓p_eqN, ↓p_neN, ↓p_ltN, ↓p_leN, ↓p_gtN, ↓p_geN, rng1 (n := m) (by omega)]) (by simp; omega) (by
    intro i hi
    have hi := List.mem_range.mp hi
    refine ⟨_, rfl, ?_⟩
    have a1 := ix_eLz (ds := ds) (k := 1 + (i : Int)) (1 + i) (by omega) (by omega)
    have a2 := mod_n (a := ds.getD (1 + i) 0) hs0
    have a3 := ix_someL (r := ds.getD (1 + i) 0 % s) (Nat.lt_of_lt_of_le (Nat.mod_lt _ hs0) hs1)
    simp only [bnd_some, bnd_none, p_dc, p_dv, lk_z, lk_s, st_z, st_s, un_z, un_s, wipe_n, wipe_c, p_d2, p_d1, p_dnil, p_dcons, p_dL, p_asB, p_asI, p_asL, p_asSeqL, p_asSeqT, p_bV, p_dB, p_bAnd, p_bOr, p_bNot, p_dIf, p_dAnd, p_dOr, p_dNot, p_dCh, p_bYes, p_gN, p_gT, p_gsNil, p_gsCons, p_dNx, p_dRet, p_dSet, p_dIfS, p_dAsg, p_dPar, p_dAug, p_dApp, p_dSetIx, p_nLst, p_nRep, p_nOf, p_dSetN, p_dParN1, p_dParNN, p_iSeq, p_iRng1, p_iRng2, p_oNo, p_oIx, p_dSl, p_asIx, p_opTup, p_opLst, p_lenT, p_lenL, p_lenS, p_tupT, p_tupL, p_add, p_sub, p_mul, p_lt, p_le, p_gt, p_ge, p_eqI, p_neI, p_isN, p_isnN, p_isB, p_isnB, p_isNone_n, p_isNone_i, p_isNone_t, p_isNone_l, p_appL, p_appT, b_mc, b_mn, b_ac, b_an, b_rs, b_rz, b_lc, b_ln, b_it, b_if, b_itt, b_iff, p_dSeq, p_eqB, p_neB, len_eT, len_eR, len_eV, isNone_eO, seq_eT, seq_eR, seq_eV, seq_eL, eO_some, eO_none, len_eL, ↓p_eqN, ↓p_neN, ↓p_ltN, ↓p_leN, ↓p_gtN, ↓p_geN, a1, a2, a3]),
   ]
  simp only [bnd_some, bnd_none, p_dc, p_dv, lk_z, lk_s, st_z, st_s, un_z, un_s, wipe_n, wipe_c, p_d2, p_d1, p_dnil, p_dcons, p_dL, p_asB, p_asI, p_asL, p_asSeqL, p_asSeqT, p_bV, p_dB, p_bAnd, p_bOr, p_bNot, p_dIf, p_dAnd, p_dOr, p_dNot, p_dCh, p_bYes, p_gN, p_gT, p_gsNil, p_gsCons, p_dNx, p_dRet, p_dSet, p_dIfS, p_dAsg, p_dPar, p_dAug, p_dApp, p_dSetIx, p_nLst, p_nRep, p_nOf, p_dSetN, p_dParN1, p_dParNN, p_iSeq, p_iRng1, p_iRng2, p_oNo, p_oIx, p_dSl, p_asIx, p_opTup, p_opLst, p_lenT, p_lenL, p_lenS, p_tupT, p_tupL, p_add, p_sub, p_mul, p_lt, p_le, p_gt, p_ge, p_eqI, p_neI, p_isN, p_isnN, p_isB, p_isnB, p_isNone_n, p_isNone_i, p_isNone_t, p_isNone_l, p_appL, p_appT, b_mc, b_mn, b_ac, b_an, b_rs, b_rz, b_lc, b_ln, b_it, b_if, b_itt, b_iff, p_dSeq, p_eqB, p_neB, len_eT, len_eR, len_eV, isNone_eO, seq_eT, seq_eR, seq_eV, seq_eL, eO_some, eO_none, len_eL, ↓p_eqN, ↓p_neN, ↓p_ltN, ↓p_leN, ↓p_gtN, ↓p_geN]
  unfold m_law_numbers_c2
  rw [comp_all (fun i : Nat => D.int i) (fun i => D.int (someL.getD (ds.getD (6 + i) 0 % s) 1)) (List.range w) (by simp only [bnd_some, bnd_none, p_dc, p_dv, lk_z, lk_s, st_z, st_s, un_z, un_s, wipe_n, wipe_c, p_d2, p_d1, p_dnil, p_dcons, p_dL, p_asB, p_asI, p_asL, p_asSeqL, p_asSeqT, p_bV, p_dB, p_bAnd, p_bOr, p_bNot, p_dIf, p_dAnd, p_dOr, p_dNot, p_dCh, p_bYes, p_gN, p_gT, p_gsNil, p_gsCons, p_dNx, p_dRet, p_dSet, p_dIfS, p_dAsg, p_dPar, p_dAug, p_dApp, p_dSetIx, p_nLst, p_nRep, p_nOf, p_dSetN, p_dParN1, p_dParNN, p_iSeq, p_iRng1, p_iRng2, p_oNo, p_oIx, p_dSl, p_asIx, p_opTup, p_opLst, p_lenT, p_lenL, p_lenS, p_tupT, p_tupL, p_add, p_sub, p_mul, p_lt, p_le, p_gt, p_ge, p_eqI, p_neI, p_isN, p_isnN, p_isB, p_isnB, p_isNone_n, p_isNone_i, p_isNone_t, p_isNone_l, p_appL, p_appT, b_mc, b_mn, b_ac, b_an, b_rs, b_rz, b_lc, b_ln, b_it, b_if, b_itt, b_iff, p_dSeq, p_eqB, p_neB, len_eT, len_eR, len_eV, isNone_eO, seq_eT, seq_eR, seq_eV, seq_eL, eO_some, eO_none, len_eL, ↓p_eqN, ↓p_neN, ↓p_ltN, ↓p_leN, ↓p_gtN, ↓p_geN, rng1 (n := w) (by omega)]) (by simp; omega) (by
    intro i hi
    have hi := List.mem_range.mp hi
    refine ⟨_, rfl, ?_⟩
    have a1 := ix_eLz (ds := ds) (k := 6 + (i : Int)) (6 + i) (by omega) (by omega)
    have a2 := mod_n (a := ds.getD (6 + i) 0) hs0
    have a3 := ix_someL (r := ds.getD (6 + i) 0 % s) (Nat.lt_of_lt_of_le (Nat.mod_lt _ hs0) hs1)
    simp only [bnd_some, bnd_none, p_dc, p_dv, lk_z, lk_s, st_z, st_s, un_z, un_s, wipe_n, wipe_c, p_d2, p_d1, p_dnil, p_dcons, p_dL, p_asB, p_asI, p_asL, p_asSeqL, p_asSeqT, p_bV, p_dB, p_bAnd, p_bOr, p_bNot, p_dIf, p_dAnd, p_dOr, p_dNot, p_dCh, p_bYes, p_gN, p_gT, p_gsNil, p_gsCons, p_dNx, p_dRet, p_dSet, p_dIfS, p_dAsg, p_dPar, p_dAug, p_dApp, p_dSetIx, p_nLst, p_nRep, p_nOf, p_dSetN, p_dParN1, p_dParNN, p_iSeq, p_iRng1, p_iRng2, p_oNo, p_oIx, p_dSl, p_asIx, p_opTup, p_opLst, p_lenT, p_lenL, p_lenS, p_tupT, p_tupL, p_add, p_sub, p_mul, p_lt, p_le, p_gt, p_ge, p_eqI, p_neI, p_isN, p_isnN, p_isB, p_isnB, p_isNone_n, p_isNone_i, p_isNone_t, p_isNone_l, p_appL, p_appT, b_mc, b_mn, b_ac, b_an, b_rs, b_rz, b_lc, b_ln, b_it, b_if, b_itt, b_iff, p_dSeq, p_eqB, p_neB, len_eT, len_eR, len_eV, isNone_eO, seq_eT, seq_eR, seq_eV, seq_eL, eO_some, eO_none, len_eL, ↓p_eqN, ↓p_neN, ↓p_ltN, ↓p_leN, ↓p_gtN, ↓p_geN, a1, a2, a3])]
  simp only [bnd_some, bnd_none, p_dc, p_dv, lk_z, lk_s, st_z, st_s, un_z, un_s, wipe_n, wipe_c, p_d2, p_d1, p_dnil, p_dcons, p_dL, p_asB, p_asI, p_asL, p_asSeqL, p_asSeqT, p_bV, p_dB, p_bAnd, p_bOr, p_bNot, p_dIf, p_dAnd, p_dOr, p_dNot, p_dCh, p_bYes, p_gN, p_gT, p_gsNil, p_gsCons, p_dNx, p_dRet, p_dSet, p_dIfS, p_dAsg, p_dPar, p_dAug, p_dApp, p_dSetIx, p_nLst, p_nRep, p_nOf, p_dSetN, p_dParN1, p_dParNN, p_iSeq, p_iRng1, p_iRng2, p_oNo, p_oIx, p_dSl, p_asIx, p_opTup, p_opLst, p_lenT, p_lenL, p_lenS, p_tupT, p_tupL, p_add, p_sub, p_mul, p_lt, p_le, p_gt, p_ge, p_eqI, p_neI, p_isN, p_isnN, p_isB, p_isnB, p_isNone_n, p_isNone_i, p_isNone_t, p_isNone_l, p_appL, p_appT, b_mc, b_mn, b_ac, b_an, b_rs, b_rz, b_lc, b_ln, b_it, b_if, b_itt, b_iff, p_dSeq, p_eqB, p_neB, len_eT, len_eR, len_eV, isNone_eO, seq_eT, seq_eR, seq_eV, seq_eL, eO_some, eO_none, len_eL, ↓p_eqN, ↓p_neN, ↓p_ltN, ↓p_leN, ↓p_gtN, ↓p_geN, Nat.reduceAdd, Nat.reduceLeDiff]
  rfl
theorem table_m {m w : Nat} {R C : Nat → Nat} (hm : m ≤ 100) (hw : w ≤ 100) (hR : ∀ i, 0 < R i ∧ R i ≤ 1000000000) (hC : ∀ i, 0 < C i ∧ C i ≤ 1000000000) :
    m_law_table [eV m R, eV w C] = some (eT m w fun i j => some (Nat.lcm (R i) (C j))) := by
  refine run_rt rfl ?_
  simp only [p_dRet, p_dL, p_dcons, p_dnil]
  unfold m_law_table_c2
  rw [comp_all (fun i : Nat => D.int (R i)) (fun i => eR w (fun j => some (Nat.lcm (R i) (C j)))) (List.range m) (by simp) (by simp; omega) (by
    intro i _
    refine ⟨_, rfl, ?_⟩
    simp only [p_dL, p_dcons, p_dnil]
    unfold m_law_table_c1
    rw [comp_all (fun j : Nat => D.int (C j)) (fun j => D.int (Nat.lcm (R i) (C j))) (List.range w) (by simp) (by simp; omega) (by
      intro j _
      refine ⟨_, rfl, ?_⟩
      have := hC j
      have := hR i
      have l := llcm_m (a := R i) (b := C j) (by omega) (by omega) (Nat.lt_of_le_of_lt (Nat.gcd_le_left _ (by omega)) (show R i < _ by omega))
      simp only [bnd_some, bnd_none, p_dc, p_dv, lk_z, lk_s, st_z, st_s, un_z, un_s, wipe_n, wipe_c, p_d2, p_d1, p_dnil, p_dcons, p_dL, p_asB, p_asI, p_asL, p_asSeqL, p_asSeqT, p_bV, p_dB, p_bAnd, p_bOr, p_bNot, p_dIf, p_dAnd, p_dOr, p_dNot, p_dCh, p_bYes, p_gN, p_gT, p_gsNil, p_gsCons, p_dNx, p_dRet, p_dSet, p_dIfS, p_dAsg, p_dPar, p_dAug, p_dApp, p_dSetIx, p_nLst, p_nRep, p_nOf, p_dSetN, p_dParN1, p_dParNN, p_iSeq, p_iRng1, p_iRng2, p_oNo, p_oIx, p_dSl, p_asIx, p_opTup, p_opLst, p_lenT, p_lenL, p_lenS, p_tupT, p_tupL, p_add, p_sub, p_mul, p_lt, p_le, p_gt, p_ge, p_eqI, p_neI, p_isN, p_isnN, p_isB, p_isnB, p_isNone_n, p_isNone_i, p_isNone_t, p_isNone_l, p_appL, p_appT, b_mc, b_mn, b_ac, b_an, b_rs, b_rz, b_lc, b_ln, b_it, b_if, b_itt, b_iff, p_dSeq, p_eqB, p_neB, len_eT, len_eR, len_eV, isNone_eO, seq_eT, seq_eR, seq_eV, seq_eL, eO_some, eO_none, len_eL, ↓p_eqN, ↓p_neN, ↓p_ltN, ↓p_leN, ↓p_gtN, ↓p_geN, l])]
    simp [eR])]
  simp [eT]
theorem lcm_pos {a b : Nat} (ha : 0 < a) (hb : 0 < b) : 0 < Nat.lcm a b := Nat.lcm_pos ha hb
theorem hidden_m {m w : Nat} {T : Nat → Nat → Option Nat} {ds : List Nat} {often : Nat} (h : Tab m w T) (hd : 0 < ds.length) (ho : 0 < often) :
    ∃ hid : Nat → Nat → Bool, m_law_hidden [eT m w T, eL ds, .int often] = some (eT m w fun i j => if hid i j = true then none else T i j) := by
  have hm1 := h.m1
  have hw1 := h.w1
  let hid : Nat → Nat → Bool := fun i j => decide (ds.getD ((i * w + j) % ds.length) 0 % often = 0)
  refine ⟨hid, run_rt rfl ?_⟩
  let T' : Nat → Nat → Option Nat := fun i j => if hid i j = true then none else T i j
  have inner : ∀ (i : Nat) (acc : List D) (x : Option D), ∃ ρ', forL (gN 7) m_law_hidden_b1 ((List.range w).map fun j => eO (T i j)) [some (eT m w T), some (eL ds), some (.int often), some (.lst acc), some (.int ((i * w : Nat) : Int)), some (eR w (T i)), some (.lst []), x] = some (.nx ρ') ∧
      ∃ y, ρ' = [some (eT m w T), some (eL ds), some (.int often), some (.lst acc), some (.int ((i * w + w : Nat) : Int)), some (eR w (T i)), some (.lst ((List.range w).map fun j => eO (T' i j))), y] := by
    intro i acc x
    refine for_range (fun j => eO (T i j)) (fun j ρ => ∃ y, ρ = [some (eT m w T), some (eL ds), some (.int often), some (.lst acc), some (.int ((i * w + j : Nat) : Int)), some (eR w (T i)), some (.lst ((List.range j).map fun j => eO (T' i j))), y]) w ?_ ⟨x, rfl⟩
    rintro j hj ρ ⟨y, rfl⟩
    refine ⟨_, rfl, [some (eT m w T), some (eL ds), some (.int often), some (.lst acc), some (.int ((i * w + (j + 1) : Nat) : Int)), some (eR w (T i)), some (.lst ((List.range (j + 1)).map fun j => eO (T' i j))), some (eO (T i j))], ?_, _, rfl⟩
    have a1 := mod_n (a := i * w + j) hd
    have a2 := ix_eL (k := (i * w + j) % ds.length) (Nat.mod_lt _ hd)
    have a3 := mod_n (a := ds.getD ((i * w + j) % ds.length) 0) ho
    have a4 : ((List.range j).map fun j => eO (T' i j)).length < 16777216 := by simp; omega
    have a5 : (((i * w + (j + 1) : Nat)) : Int) = ((i * w + j : Nat) : Int) + 1 := by omega
    rw [a5, List.range_succ, List.map_append]
    by_cases q : ds.getD ((i * w + j) % ds.length) 0 % often = 0
    · have q2 : ((ds.getD ((i * w + j) % ds.length) 0 % often : Nat) : Int) = 0 := by omega
      have q3 : T' i j = none := by simp only [T', hid, decide_eq_true q, if_true]
      simp only [m_law_hidden_b1, bnd_some, bnd_none, p_dc, p_dv, lk_z, lk_s, st_z, st_s, un_z, un_s, wipe_n, wipe_c, p_d2, p_d1, p_dnil, p_dcons, p_dL, p_asB, p_asI, p_asL, p_asSeqL, p_asSeqT, p_bV, p_dB, p_bAnd, p_bOr, p_bNot, p_dIf, p_dAnd, p_dOr, p_dNot, p_dCh, p_bYes, p_gN, p_gT, p_gsNil, p_gsCons, p_dNx, p_dRet, p_dSet, p_dIfS, p_dAsg, p_dPar, p_dAug, p_dApp, p_dSetIx, p_nLst, p_nRep, p_nOf, p_dSetN, p_dParN1, p_dParNN, p_iSeq, p_iRng1, p_iRng2, p_oNo, p_oIx, p_dSl, p_asIx, p_opTup, p_opLst, p_lenT, p_lenL, p_lenS, p_tupT, p_tupL, p_add, p_sub, p_mul, p_lt, p_le, p_gt, p_ge, p_eqI, p_neI, p_isN, p_isnN, p_isB, p_isnB, p_isNone_n, p_isNone_i, p_isNone_t, p_isNone_l, p_appL, p_appT, b_mc, b_mn, b_ac, b_an, b_rs, b_rz, b_lc, b_ln, b_it, b_if, b_itt, b_iff, p_dSeq, p_eqB, p_neB, len_eT, len_eR, len_eV, isNone_eO, seq_eT, seq_eR, seq_eV, seq_eL, eO_some, eO_none, len_eL, ↓p_eqN, ↓p_neN, ↓p_ltN, ↓p_leN, ↓p_gtN, ↓p_geN, a1, a2, a3, decide_eq_true q2, if_pos a4, q3]
    · have q2 : ¬ ((ds.getD ((i * w + j) % ds.length) 0 % often : Nat) : Int) = 0 := by omega
      have q3 : T' i j = T i j := by simp only [T', hid, decide_eq_false q]; rfl
      simp only [m_law_hidden_b1, bnd_some, bnd_none, p_dc, p_dv, lk_z, lk_s, st_z, st_s, un_z, un_s, wipe_n, wipe_c, p_d2, p_d1, p_dnil, p_dcons, p_dL, p_asB, p_asI, p_asL, p_asSeqL, p_asSeqT, p_bV, p_dB, p_bAnd, p_bOr, p_bNot, p_dIf, p_dAnd, p_dOr, p_dNot, p_dCh, p_bYes, p_gN, p_gT, p_gsNil, p_gsCons, p_dNx, p_dRet, p_dSet, p_dIfS, p_dAsg, p_dPar, p_dAug, p_dApp, p_dSetIx, p_nLst, p_nRep, p_nOf, p_dSetN, p_dParN1, p_dParNN, p_iSeq, p_iRng1, p_iRng2, p_oNo, p_oIx, p_dSl, p_asIx, p_opTup, p_opLst, p_lenT, p_lenL, p_lenS, p_tupT, p_tupL, p_add, p_sub, p_mul, p_lt, p_le, p_gt, p_ge, p_eqI, p_neI, p_isN, p_isnN, p_isB, p_isnB, p_isNone_n, p_isNone_i, p_isNone_t, p_isNone_l, p_appL, p_appT, b_mc, b_mn, b_ac, b_an, b_rs, b_rz, b_lc, b_ln, b_it, b_if, b_itt, b_iff, p_dSeq, p_eqB, p_neB, len_eT, len_eR, len_eV, isNone_eO, seq_eT, seq_eR, seq_eV, seq_eL, eO_some, eO_none, len_eL, ↓p_eqN, ↓p_neN, ↓p_ltN, ↓p_leN, ↓p_gtN, ↓p_geN, a1, a2, a3, decide_eq_false q2, if_pos a4, q3]
  obtain ⟨ρ', h1, x, y, z, h3⟩ := for_range (g := gN 5) (b := m_law_hidden_b2) (fun i => eR w (T i))
    (fun (i : Nat) (ρ : Rho) => ∃ x y z, ρ = [some (eT m w T), some (eL ds), some (.int often), some (.lst ((List.range i).map fun i => eR w (T' i))), some (.int ((i * w : Nat) : Int)), x, y, z]) m (by
      rintro i hi ρ ⟨x, y, z, rfl⟩
      obtain ⟨ρ', b1, y', b2⟩ := inner i ((List.range i).map fun i => eR w (T' i)) z
      subst b2
      refine ⟨_, rfl, [some (eT m w T), some (eL ds), some (.int often), some (.lst ((List.range (i + 1)).map fun i => eR w (T' i))), some (.int (((i + 1) * w : Nat) : Int)), some (eR w (T i)), some (.lst ((List.range w).map fun j => eO (T' i j))), y'], ?_, _, _, _, rfl⟩
      have hl : ((List.range i).map fun i => eR w (T' i)).length < 16777216 := by simp; omega
      have hf : dFor (iSeq (dv 5)) (gN 7) m_law_hidden_b1 [some (eT m w T), some (eL ds), some (.int often), some (.lst ((List.range i).map fun i => eR w (T' i))), some (.int ((i * w : Nat) : Int)), some (eR w (T i)), some (.lst []), z] = _ := (for_eq (by simp only [bnd_some, bnd_none, p_dc, p_dv, lk_z, lk_s, st_z, st_s, un_z, un_s, wipe_n, wipe_c, p_d2, p_d1, p_dnil, p_dcons, p_dL, p_asB, p_asI, p_asL, p_asSeqL, p_asSeqT, p_bV, p_dB, p_bAnd, p_bOr, p_bNot, p_dIf, p_dAnd, p_dOr, p_dNot, p_dCh, p_bYes, p_gN, p_gT, p_gsNil, p_gsCons, p_dNx, p_dRet, p_dSet, p_dIfS, p_dAsg, p_dPar, p_dAug, p_dApp, p_dSetIx, p_nLst, p_nRep, p_nOf, p_dSetN, p_dParN1, p_dParNN, p_iSeq, p_iRng1, p_iRng2, p_oNo, p_oIx, p_dSl, p_asIx, p_opTup, p_opLst, p_lenT, p_lenL, p_lenS, p_tupT, p_tupL, p_add, p_sub, p_mul, p_lt, p_le, p_gt, p_ge, p_eqI, p_neI, p_isN, p_isnN, p_isB, p_isnB, p_isNone_n, p_isNone_i, p_isNone_t, p_isNone_l, p_appL, p_appT, b_mc, b_mn, b_ac, b_an, b_rs, b_rz, b_lc, b_ln, b_it, b_if, b_itt, b_iff, p_dSeq, p_eqB, p_neB, len_eT, len_eR, len_eV, isNone_eO, seq_eT, seq_eR, seq_eV, seq_eL, eO_some, eO_none, len_eL, ↓p_eqN, ↓p_neN, ↓p_ltN, ↓p_leN, ↓p_gtN, ↓p_geN])).trans b1
      rw [List.range_succ, List.map_append, show (i + 1) * w = i * w + w from Nat.succ_mul i w]
      simp only [m_law_hidden_b2, bnd_some, bnd_none, p_dc, p_dv, lk_z, lk_s, st_z, st_s, un_z, un_s, wipe_n, wipe_c, p_d2, p_d1, p_dnil, p_dcons, p_dL, p_asB, p_asI, p_asL, p_asSeqL, p_asSeqT, p_bV, p_dB, p_bAnd, p_bOr, p_bNot, p_dIf, p_dAnd, p_dOr, p_dNot, p_dCh, p_bYes, p_gN, p_gT, p_gsNil, p_gsCons, p_dNx, p_dRet, p_dSet, p_dIfS, p_dAsg, p_dPar, p_dAug, p_dApp, p_dSetIx, p_nLst, p_nRep, p_nOf, p_dSetN, p_dParN1, p_dParNN, p_iSeq, p_iRng1, p_iRng2, p_oNo, p_oIx, p_dSl, p_asIx, p_opTup, p_opLst, p_lenT, p_lenL, p_lenS, p_tupT, p_tupL, p_add, p_sub, p_mul, p_lt, p_le, p_gt, p_ge, p_eqI, p_neI, p_isN, p_isnN, p_isB, p_isnB, p_isNone_n, p_isNone_i, p_isNone_t, p_isNone_l, p_appL, p_appT, b_mc, b_mn, b_ac, b_an, b_rs, b_rz, b_lc, b_ln, b_it, b_if, b_itt, b_iff, p_dSeq, p_eqB, p_neB, len_eT, len_eR, len_eV, isNone_eO, seq_eT, seq_eR, seq_eV, seq_eL, eO_some, eO_none, len_eL, ↓p_eqN, ↓p_neN, ↓p_ltN, ↓p_leN, ↓p_gtN, ↓p_geN, Nat.reduceLeDiff, hf, if_pos hl]
      rfl) (ρ := [some (eT m w T), some (eL ds), some (.int often), some (.lst []), some (.int 0), none, none, none]) ⟨none, none, none, by simp⟩
  subst h3
  have hf := (for_eq (it := iSeq (dv 0)) (ρ := [some (eT m w T), some (eL ds), some (.int often), some (.lst []), some (.int 0), none, none, none]) (by simp only [bnd_some, bnd_none, p_dc, p_dv, lk_z, lk_s, st_z, st_s, un_z, un_s, wipe_n, wipe_c, p_d2, p_d1, p_dnil, p_dcons, p_dL, p_asB, p_asI, p_asL, p_asSeqL, p_asSeqT, p_bV, p_dB, p_bAnd, p_bOr, p_bNot, p_dIf, p_dAnd, p_dOr, p_dNot, p_dCh, p_bYes, p_gN, p_gT, p_gsNil, p_gsCons, p_dNx, p_dRet, p_dSet, p_dIfS, p_dAsg, p_dPar, p_dAug, p_dApp, p_dSetIx, p_nLst, p_nRep, p_nOf, p_dSetN, p_dParN1, p_dParNN, p_iSeq, p_iRng1, p_iRng2, p_oNo, p_oIx, p_dSl, p_asIx, p_opTup, p_opLst, p_lenT, p_lenL, p_lenS, p_tupT, p_tupL, p_add, p_sub, p_mul, p_lt, p_le, p_gt, p_ge, p_eqI, p_neI, p_isN, p_isnN, p_isB, p_isnB, p_isNone_n, p_isNone_i, p_isNone_t, p_isNone_l, p_appL, p_appT, b_mc, b_mn, b_ac, b_an, b_rs, b_rz, b_lc, b_ln, b_it, b_if, b_itt, b_iff, p_dSeq, p_eqB, p_neB, len_eT, len_eR, len_eV, isNone_eO, seq_eT, seq_eR, seq_eV, seq_eL, eO_some, eO_none, len_eL, ↓p_eqN, ↓p_neN, ↓p_ltN, ↓p_leN, ↓p_gtN, ↓p_geN])).trans h1
  simp only [bnd_some, bnd_none, p_dc, p_dv, lk_z, lk_s, st_z, st_s, un_z, un_s, wipe_n, wipe_c, p_d2, p_d1, p_dnil, p_dcons, p_dL, p_asB, p_asI, p_asL, p_asSeqL, p_asSeqT, p_bV, p_dB, p_bAnd, p_bOr, p_bNot, p_dIf, p_dAnd, p_dOr, p_dNot, p_dCh, p_bYes, p_gN, p_gT, p_gsNil, p_gsCons, p_dNx, p_dRet, p_dSet, p_dIfS, p_dAsg, p_dPar, p_dAug, p_dApp, p_dSetIx, p_nLst, p_nRep, p_nOf, p_dSetN, p_dParN1, p_dParNN, p_iSeq, p_iRng1, p_iRng2, p_oNo, p_oIx, p_dSl, p_asIx, p_opTup, p_opLst, p_lenT, p_lenL, p_lenS, p_tupT, p_tupL, p_add, p_sub, p_mul, p_lt, p_le, p_gt, p_ge, p_eqI, p_neI, p_isN, p_isnN, p_isB, p_isnB, p_isNone_n, p_isNone_i, p_isNone_t, p_isNone_l, p_appL, p_appT, b_mc, b_mn, b_ac, b_an, b_rs, b_rz, b_lc, b_ln, b_it, b_if, b_itt, b_iff, p_dSeq, p_eqB, p_neB, len_eT, len_eR, len_eV, isNone_eO, seq_eT, seq_eR, seq_eV, seq_eL, eO_some, eO_none, len_eL, ↓p_eqN, ↓p_neN, ↓p_ltN, ↓p_leN, ↓p_gtN, ↓p_geN, Nat.reduceLeDiff, Nat.reduceSub, hf]
  rfl
theorem Tab.hid {m w : Nat} {T : Nat → Nat → Option Nat} (h : Tab m w T) (hid : Nat → Nat → Bool) : Tab m w fun i j => if hid i j = true then none else T i j :=
  ⟨h.m0, h.m1, h.w0, h.w1, fun i j e q => h.bd i j e (by
    by_cases z : hid i j = true
    · rw [if_pos z] at q; cases q
    · rw [if_neg z] at q; exact q)⟩
theorem mapM_seq {α : Type} (f : α → List D) : ∀ l : List α, (l.map fun x => D.tup (f x)).mapM asSeq = some (l.map f)
  | [] => rfl
  | x :: l => by
    rw [List.map_cons, List.mapM_cons, mapM_seq f l]
    rfl
def SpL (e x : Nat) : Prop := x = 1 ∨ x = 2 ∨ x = 3 ∨ x = 4 ∨ x = 6 ∨ x = 12 ∨ x = e * 2 ∨ x = e * 3
theorem spl_ix {e k : Nat} (h : k < 8) : ∃ x : Nat, SpL e x ∧ opIx (.lst [.int 1, .int 2, .int 3, .int 4, .int 6, .int 12, .int (e * 2 : Nat), .int (e * 3 : Nat)]) (.int k) = some (.int x) := by
  have : k = 0 ∨ k = 1 ∨ k = 2 ∨ k = 3 ∨ k = 4 ∨ k = 5 ∨ k = 6 ∨ k = 7 := by omega
  rcases this with q | q | q | q | q | q | q | q <;> subst q
  · exact ⟨1, by simp [SpL], rfl⟩
  · exact ⟨2, by simp [SpL], rfl⟩
  · exact ⟨3, by simp [SpL], rfl⟩
  · exact ⟨4, by simp [SpL], rfl⟩
  · exact ⟨6, by simp [SpL], rfl⟩
  · exact ⟨12, by simp [SpL], rfl⟩
  · exact ⟨e * 2, by simp [SpL], rfl⟩
  · exact ⟨e * 3, by simp [SpL], rfl⟩
def put (T : Nat → Nat → Option Nat) (r c x : Nat) : Nat → Nat → Option Nat := fun i j => if i = r ∧ j = c then some x else T i j
/-- one known entry changed, or nothing -/
def Spo (m w : Nat) (T T' : Nat → Nat → Option Nat) : Prop := T' = T ∨ ∃ r, r < m ∧ ∃ c, c < w ∧ ∃ e, T r c = some e ∧ ∃ x, SpL e x ∧ T' = put T r c x
theorem Tab.spo {m w : Nat} {T T' : Nat → Nat → Option Nat} (h : Tab m w T) (hB : ∀ i j e, T i j = some e → e ≤ 100000000000000000) (s : Spo m w T T') : Tab m w T' := by
  rcases s with e | ⟨r, _, c, _, e, he, x, hx, q⟩
  · rw [e]; exact h
  · refine ⟨h.m0, h.m1, h.w0, h.w1, fun i j y hy => ?_⟩
    rw [q] at hy
    unfold put at hy
    by_cases z : i = r ∧ j = c
    · rw [if_pos z] at hy
      cases hy
      have := hB r c e he
      have := (h.bd r c e he).1
      unfold SpL at hx
      omega
    · rw [if_neg z] at hy
      exact h.bd i j y hy
theorem set_range {α : Type} (f : Nat → α) (m r : Nat) (x : α) : ((List.range m).map f).set r x = (List.range m).map fun i => if i = r then x else f i := by
  apply List.ext_getElem
  · simp
  · intro i h1 h2
    rw [List.getElem_set]
    simp
    by_cases q : r = i
    · simp [q]
    · have : ¬ i = r := fun z => q z.symm
      simp [q, this]
theorem spoilt_m {m w : Nat} {T : Nat → Nat → Option Nat} {ds : List Nat} (h : Tab m w T) (hd : 3 ≤ ds.length) :
    ∃ T', Spo m w T T' ∧ m_law_spoilt [eT m w T, eL ds] = some (eT m w T') := by
  have hm0 := h.m0
  have hw0 := h.w0
  have hm1 := h.m1
  have hw1 := h.w1
  have hr := Nat.mod_lt (ds.getD 0 0) hm0
  have hc := Nat.mod_lt (ds.getD 1 0) hw0
  generalize qr : ds.getD 0 0 % m = r at hr
  generalize qc : ds.getD 1 0 % w = c at hc
  have a0 : opIx (eL ds) (.int 0) = some (.int (ds.getD 0 0)) := ix_eL (k := 0) (by omega)
  have a1 : opIx (eL ds) (.int 1) = some (.int (ds.getD 1 0)) := ix_eL (k := 1) (by omega)
  have a2 : opIx (eL ds) (.int 2) = some (.int (ds.getD 2 0)) := ix_eL (k := 2) (by omega)
  have m0 := mod_n (a := ds.getD 0 0) hm0
  have m1 := mod_n (a := ds.getD 1 0) hw0
  rw [qr] at m0
  rw [qc] at m1
  have k8 : opMod (.int (ds.getD 2 0)) (.int 8) = some (.int (ds.getD 2 0 % 8 : Nat)) := mod_n (b := 8) (by decide)
  let E : (Nat → Nat → Option Nat) → List D := fun T => (List.range m).map fun i => D.lst ((List.range w).map fun j => eO (T i j))
  have fin : ∀ (T : Nat → Nat → Option Nat) (x y : Option D) (z : D), (dRet (dL opTuple (dcons m_law_spoilt_c1 dnil))) [some z, some (eL ds), some (.lst (E T)), x, y] = some (.rt (eT m w T)) := by
    intro T x y z
    simp only [p_dRet, p_dL, p_dcons, p_dnil]
    unfold m_law_spoilt_c1
    rw [comp_all (fun i => D.lst ((List.range w).map fun j => eO (T i j))) (fun i => eR w (T i)) (List.range m) (by simp only [bnd_some, bnd_none, p_dc, p_dv, lk_z, lk_s, st_z, st_s, un_z, un_s, wipe_n, wipe_c, p_d2, p_d1, p_dnil, p_dcons, p_dL, p_asB, p_asI, p_asL, p_asSeqL, p_asSeqT, p_bV, p_dB, p_bAnd, p_bOr, p_bNot, p_dIf, p_dAnd, p_dOr, p_dNot, p_dCh, p_bYes, p_gN, p_gT, p_gsNil, p_gsCons, p_dNx, p_dRet, p_dSet, p_dIfS, p_dAsg, p_dPar, p_dAug, p_dApp, p_dSetIx, p_nLst, p_nRep, p_nOf, p_dSetN, p_dParN1, p_dParNN, p_iSeq, p_iRng1, p_iRng2, p_oNo, p_oIx, p_dSl, p_asIx, p_opTup, p_opLst, p_lenT, p_lenL, p_lenS, p_tupT, p_tupL, p_add, p_sub, p_mul, p_lt, p_le, p_gt, p_ge, p_eqI, p_neI, p_isN, p_isnN, p_isB, p_isnB, p_isNone_n, p_isNone_i, p_isNone_t, p_isNone_l, p_appL, p_appT, b_mc, b_mn, b_ac, b_an, b_rs, b_rz, b_lc, b_ln, b_it, b_if, b_itt, b_iff, p_dSeq, p_eqB, p_neB, len_eT, len_eR, len_eV, isNone_eO, seq_eT, seq_eR, seq_eV, seq_eL, eO_some, eO_none, len_eL, ↓p_eqN, ↓p_neN, ↓p_ltN, ↓p_leN, ↓p_gtN, ↓p_geN]; rfl) (by simp; omega) (by
      intro i _
      refine ⟨_, rfl, ?_⟩
      simp only [bnd_some, bnd_none, p_dc, p_dv, lk_z, lk_s, st_z, st_s, un_z, un_s, wipe_n, wipe_c, p_d2, p_d1, p_dnil, p_dcons, p_dL, p_asB, p_asI, p_asL, p_asSeqL, p_asSeqT, p_bV, p_dB, p_bAnd, p_bOr, p_bNot, p_dIf, p_dAnd, p_dOr, p_dNot, p_dCh, p_bYes, p_gN, p_gT, p_gsNil, p_gsCons, p_dNx, p_dRet, p_dSet, p_dIfS, p_dAsg, p_dPar, p_dAug, p_dApp, p_dSetIx, p_nLst, p_nRep, p_nOf, p_dSetN, p_dParN1, p_dParNN, p_iSeq, p_iRng1, p_iRng2, p_oNo, p_oIx, p_dSl, p_asIx, p_opTup, p_opLst, p_lenT, p_lenL, p_lenS, p_tupT, p_tupL, p_add, p_sub, p_mul, p_lt, p_le, p_gt, p_ge, p_eqI, p_neI, p_isN, p_isnN, p_isB, p_isnB, p_isNone_n, p_isNone_i, p_isNone_t, p_isNone_l, p_appL, p_appT, b_mc, b_mn, b_ac, b_an, b_rs, b_rz, b_lc, b_ln, b_it, b_if, b_itt, b_iff, p_dSeq, p_eqB, p_neB, len_eT, len_eR, len_eV, isNone_eO, seq_eT, seq_eR, seq_eV, seq_eL, eO_some, eO_none, len_eL, ↓p_eqN, ↓p_neN, ↓p_ltN, ↓p_leN, ↓p_gtN, ↓p_geN]
      rfl)]
    simp only [bnd_some, bnd_none, p_dc, p_dv, lk_z, lk_s, st_z, st_s, un_z, un_s, wipe_n, wipe_c, p_d2, p_d1, p_dnil, p_dcons, p_dL, p_asB, p_asI, p_asL, p_asSeqL, p_asSeqT, p_bV, p_dB, p_bAnd, p_bOr, p_bNot, p_dIf, p_dAnd, p_dOr, p_dNot, p_dCh, p_bYes, p_gN, p_gT, p_gsNil, p_gsCons, p_dNx, p_dRet, p_dSet, p_dIfS, p_dAsg, p_dPar, p_dAug, p_dApp, p_dSetIx, p_nLst, p_nRep, p_nOf, p_dSetN, p_dParN1, p_dParNN, p_iSeq, p_iRng1, p_iRng2, p_oNo, p_oIx, p_dSl, p_asIx, p_opTup, p_opLst, p_lenT, p_lenL, p_lenS, p_tupT, p_tupL, p_add, p_sub, p_mul, p_lt, p_le, p_gt, p_ge, p_eqI, p_neI, p_isN, p_isnN, p_isB, p_isnB, p_isNone_n, p_isNone_i, p_isNone_t, p_isNone_l, p_appL, p_appT, b_mc, b_mn, b_ac, b_an, b_rs, b_rz, b_lc, b_ln, b_it, b_if, b_itt, b_iff, p_dSeq, p_eqB, p_neB, len_eT, len_eR, len_eV, isNone_eO, seq_eT, seq_eR, seq_eV, seq_eL, eO_some, eO_none, len_eL, ↓p_eqN, ↓p_neN, ↓p_ltN, ↓p_leN, ↓p_gtN, ↓p_geN]
    rfl
  have s1 : dSetNN' 2 3 (iSeq (dv 0)) [some (eT m w T), some (eL ds), none, none, none] = some (.nx [some (eT m w T), some (eL ds), some (.lst (E T)), none, none]) := by
    have e1 : ((List.range m).map fun i => eR w (T i)).mapM asSeq = some ((List.range m).map fun i => (List.range w).map fun j => eO (T i j)) := mapM_seq _ _
    have e2 : iSeq (dv 0) [some (eT m w T), some (eL ds), none, none, none] = some ((List.range m).map fun i => eR w (T i)) := by simp only [bnd_some, bnd_none, p_dc, p_dv, lk_z, lk_s, st_z, st_s, un_z, un_s, wipe_n, wipe_c, p_d2, p_d1, p_dnil, p_dcons, p_dL, p_asB, p_asI, p_asL, p_asSeqL, p_asSeqT, p_bV, p_dB, p_bAnd, p_bOr, p_bNot, p_dIf, p_dAnd, p_dOr, p_dNot, p_dCh, p_bYes, p_gN, p_gT, p_gsNil, p_gsCons, p_dNx, p_dRet, p_dSet, p_dIfS, p_dAsg, p_dPar, p_dAug, p_dApp, p_dSetIx, p_nLst, p_nRep, p_nOf, p_dSetN, p_dParN1, p_dParNN, p_iSeq, p_iRng1, p_iRng2, p_oNo, p_oIx, p_dSl, p_asIx, p_opTup, p_opLst, p_lenT, p_lenL, p_lenS, p_tupT, p_tupL, p_add, p_sub, p_mul, p_lt, p_le, p_gt, p_ge, p_eqI, p_neI, p_isN, p_isnN, p_isB, p_isnB, p_isNone_n, p_isNone_i, p_isNone_t, p_isNone_l, p_appL, p_appT, b_mc, b_mn, b_ac, b_an, b_rs, b_rz, b_lc, b_ln, b_it, b_if, b_itt, b_iff, p_dSeq, p_eqB, p_neB, len_eT, len_eR, len_eV, isNone_eO, seq_eT, seq_eR, seq_eV, seq_eL, eO_some, eO_none, len_eL, ↓p_eqN, ↓p_neN, ↓p_ltN, ↓p_leN, ↓p_gtN, ↓p_geN]
    unfold dSetNN'
    rw [e2]
    simp only [Option.bind_some, e1]
    rw [if_pos (by simp; omega)]
    simp only [bnd_some, bnd_none, p_dc, p_dv, lk_z, lk_s, st_z, st_s, un_z, un_s, wipe_n, wipe_c, p_d2, p_d1, p_dnil, p_dcons, p_dL, p_asB, p_asI, p_asL, p_asSeqL, p_asSeqT, p_bV, p_dB, p_bAnd, p_bOr, p_bNot, p_dIf, p_dAnd, p_dOr, p_dNot, p_dCh, p_bYes, p_gN, p_gT, p_gsNil, p_gsCons, p_dNx, p_dRet, p_dSet, p_dIfS, p_dAsg, p_dPar, p_dAug, p_dApp, p_dSetIx, p_nLst, p_nRep, p_nOf, p_dSetN, p_dParN1, p_dParNN, p_iSeq, p_iRng1, p_iRng2, p_oNo, p_oIx, p_dSl, p_asIx, p_opTup, p_opLst, p_lenT, p_lenL, p_lenS, p_tupT, p_tupL, p_add, p_sub, p_mul, p_lt, p_le, p_gt, p_ge, p_eqI, p_neI, p_isN, p_isnN, p_isB, p_isnB, p_isNone_n, p_isNone_i, p_isNone_t, p_isNone_l, p_appL, p_appT, b_mc, b_mn, b_ac, b_an, b_rs, b_rz, b_lc, b_ln, b_it, b_if, b_itt, b_iff, p_dSeq, p_eqB, p_neB, len_eT, len_eR, len_eV, isNone_eO, seq_eT, seq_eR, seq_eV, seq_eL, eO_some, eO_none, len_eL, ↓p_eqN, ↓p_neN, ↓p_ltN, ↓p_leN, ↓p_gtN, ↓p_geN, List.map_map]
    rfl
  have ixm : ∀ {i : Nat}, i < m → opIx (.lst (E T)) (.int i) = some (.lst ((List.range w).map fun j => eO (T i j))) := fun hi => ixRL hi
  have ixm0 : opIx (.lst (E T)) (.int 0) = some (.lst ((List.range w).map fun j => eO (T 0 j))) := ixRL (i := 0) hm0
  have ixw : ∀ {j : Nat}, j < w → opIx (.lst ((List.range w).map fun j => eO (T r j))) (.int j) = some (eO (T r j)) := fun hj => ixRL hj
  have lm : opLen [.lst (E T)] = some (.int m) := by simp [E]
  have lw : opLen [.lst ((List.range w).map fun j => eO (T 0 j))] = some (.int w) := by simp
  have sc : ∀ (f : DF) (n : Int) (ρ : Rho), f ρ = some (.int n) → scD f ρ = some (.int n) := fun f n ρ q => by simp [scD, q, isSc]
  have s2 : ∀ ρ : Rho, ρ = [some (eT m w T), some (eL ds), some (.lst (E T)), none, none] → dPar 3 4 (scD (d2 opMod (d2 opIx (dv 1) (dc (.int 0))) (dL opLen (dcons (dv 2) dnil)))) (scD (d2 opMod (d2 opIx (dv 1) (dc (.int 1))) (dL opLen (dcons (d2 opIx (dv 2) (dc (.int 0))) dnil)))) ρ =
      some (.nx [some (eT m w T), some (eL ds), some (.lst (E T)), some (.int r), some (.int c)]) := by
    rintro ρ rfl
    rw [p_dPar, sc _ _ _ (by simp only [bnd_some, bnd_none, p_dc, p_dv, lk_z, lk_s, st_z, st_s, un_z, un_s, wipe_n, wipe_c, p_d2, p_d1, p_dnil, p_dcons, p_dL, p_asB, p_asI, p_asL, p_asSeqL, p_asSeqT, p_bV, p_dB, p_bAnd, p_bOr, p_bNot, p_dIf, p_dAnd, p_dOr, p_dNot, p_dCh, p_bYes, p_gN, p_gT, p_gsNil, p_gsCons, p_dNx, p_dRet, p_dSet, p_dIfS, p_dAsg, p_dPar, p_dAug, p_dApp, p_dSetIx, p_nLst, p_nRep, p_nOf, p_dSetN, p_dParN1, p_dParNN, p_iSeq, p_iRng1, p_iRng2, p_oNo, p_oIx, p_dSl, p_asIx, p_opTup, p_opLst, p_lenT, p_lenL, p_lenS, p_tupT, p_tupL, p_add, p_sub, p_mul, p_lt, p_le, p_gt, p_ge, p_eqI, p_neI, p_isN, p_isnN, p_isB, p_isnB, p_isNone_n, p_isNone_i, p_isNone_t, p_isNone_l, p_appL, p_appT, b_mc, b_mn, b_ac, b_an, b_rs, b_rz, b_lc, b_ln, b_it, b_if, b_itt, b_iff, p_dSeq, p_eqB, p_neB, len_eT, len_eR, len_eV, isNone_eO, seq_eT, seq_eR, seq_eV, seq_eL, eO_some, eO_none, len_eL, ↓p_eqN, ↓p_neN, ↓p_ltN, ↓p_leN, ↓p_gtN, ↓p_geN, a0, lm, m0]; rfl), sc _ _ _ (by simp only [bnd_some, bnd_none, p_dc, p_dv, lk_z, lk_s, st_z, st_s, un_z, un_s, wipe_n, wipe_c, p_d2, p_d1, p_dnil, p_dcons, p_dL, p_asB, p_asI, p_asL, p_asSeqL, p_asSeqT, p_bV, p_dB, p_bAnd, p_bOr, p_bNot, p_dIf, p_dAnd, p_dOr, p_dNot, p_dCh, p_bYes, p_gN, p_gT, p_gsNil, p_gsCons, p_dNx, p_dRet, p_dSet, p_dIfS, p_dAsg, p_dPar, p_dAug, p_dApp, p_dSetIx, p_nLst, p_nRep, p_nOf, p_dSetN, p_dParN1, p_dParNN, p_iSeq, p_iRng1, p_iRng2, p_oNo, p_oIx, p_dSl, p_asIx, p_opTup, p_opLst, p_lenT, p_lenL, p_lenS, p_tupT, p_tupL, p_add, p_sub, p_mul, p_lt, p_le, p_gt, p_ge, p_eqI, p_neI, p_isN, p_isnN, p_isB, p_isnB, p_isNone_n, p_isNone_i, p_isNone_t, p_isNone_l, p_appL, p_appT, b_mc, b_mn, b_ac, b_an, b_rs, b_rz, b_lc, b_ln, b_it, b_if, b_itt, b_iff, p_dSeq, p_eqB, p_neB, len_eT, len_eR, len_eV, isNone_eO, seq_eT, seq_eR, seq_eV, seq_eL, eO_some, eO_none, len_eL, ↓p_eqN, ↓p_neN, ↓p_ltN, ↓p_leN, ↓p_gtN, ↓p_geN, a1, ixm0, lw, m1]; rfl)]
    simp only [bnd_some, bnd_none, p_dc, p_dv, lk_z, lk_s, st_z, st_s, un_z, un_s, wipe_n, wipe_c, p_d2, p_d1, p_dnil, p_dcons, p_dL, p_asB, p_asI, p_asL, p_asSeqL, p_asSeqT, p_bV, p_dB, p_bAnd, p_bOr, p_bNot, p_dIf, p_dAnd, p_dOr, p_dNot, p_dCh, p_bYes, p_gN, p_gT, p_gsNil, p_gsCons, p_dNx, p_dRet, p_dSet, p_dIfS, p_dAsg, p_dPar, p_dAug, p_dApp, p_dSetIx, p_nLst, p_nRep, p_nOf, p_dSetN, p_dParN1, p_dParNN, p_iSeq, p_iRng1, p_iRng2, p_oNo, p_oIx, p_dSl, p_asIx, p_opTup, p_opLst, p_lenT, p_lenL, p_lenS, p_tupT, p_tupL, p_add, p_sub, p_mul, p_lt, p_le, p_gt, p_ge, p_eqI, p_neI, p_isN, p_isnN, p_isB, p_isnB, p_isNone_n, p_isNone_i, p_isNone_t, p_isNone_l, p_appL, p_appT, b_mc, b_mn, b_ac, b_an, b_rs, b_rz, b_lc, b_ln, b_it, b_if, b_itt, b_iff, p_dSeq, p_eqB, p_neB, len_eT, len_eR, len_eV, isNone_eO, seq_eT, seq_eR, seq_eV, seq_eL, eO_some, eO_none, len_eL, ↓p_eqN, ↓p_neN, ↓p_ltN, ↓p_leN, ↓p_gtN, ↓p_geN]
  cases q : T r c with
  | none =>
    refine ⟨T, Or.inl rfl, run_rt rfl ?_⟩
    simp only [b_mc, b_mn, b_ac, b_an, b_rs, b_rz, Nat.reduceSub, p_dSeq, s1, bnd_some, s2]
    rw [p_dIfS]
    simp only [p_bV, p_d2, p_dv, lk_z, lk_s, bnd_some, ixm hr, ixw hc, q, eO_none, p_dc, p_isnN, p_isNone_n, p_asB, Bool.not_true, b_iff, p_dNx]
    exact fin T _ _ _
  | some e =>
    obtain ⟨x, hx, hx2⟩ := spl_ix (e := e) (k := ds.getD 2 0 % 8) (Nat.mod_lt _ (by decide))
    refine ⟨put T r c x, Or.inr ⟨r, hr, c, hc, e, q, x, hx, rfl⟩, run_rt rfl ?_⟩
    have t2 : opMul (.int e) (.int 2) = some (.int (e * 2 : Nat)) := mul_n (b := 2) (by decide)
    have t3 : opMul (.int e) (.int 3) = some (.int (e * 3 : Nat)) := mul_n (b := 3) (by decide)
    have fin2 : E (put T r c x) = (E T).set r (.lst (((List.range w).map fun j => eO (T r j)).set c (.int x))) := by
      simp only [E, set_range]
      apply List.map_congr_left
      intro i _
      by_cases qi : i = r
      · subst qi
        rw [if_pos rfl]
        refine congrArg D.lst ?_
        apply List.map_congr_left
        intro j _
        by_cases qj : j = c
        · simp [put, qj]
        · simp [put, qj]
      · rw [if_neg qi]
        refine congrArg D.lst ?_
        apply List.map_congr_left
        intro j _
        simp [put, qi]
    have s3 : dSetIx2 2 (dv 3) (dv 4) (d2 opIx (dL opLst (dcons (dc (.int 1)) (dcons (dc (.int 2)) (dcons (dc (.int 3)) (dcons (dc (.int 4)) (dcons (dc (.int 6)) (dcons (dc (.int 12)) (dcons (d2 opMul (d2 opIx (d2 opIx (dv 2) (dv 3)) (dv 4)) (dc (.int 2))) (dcons (d2 opMul (d2 opIx (d2 opIx (dv 2) (dv 3)) (dv 4)) (dc (.int 3))) dnil))))))))) (d2 opMod (d2 opIx (dv 1) (dc (.int 2))) (dc (.int 8)))) [some (eT m w T), some (eL ds), some (.lst (E T)), some (.int r), some (.int c)] =
        some (.nx [some (eT m w T), some (eL ds), some (.lst (E (put T r c x))), some (.int r), some (.int c)]) := by
      unfold dSetIx2
      rw [sc _ _ _ (by simp only [bnd_some, bnd_none, p_dc, p_dv, lk_z, lk_s, st_z, st_s, un_z, un_s, wipe_n, wipe_c, p_d2, p_d1, p_dnil, p_dcons, p_dL, p_asB, p_asI, p_asL, p_asSeqL, p_asSeqT, p_bV, p_dB, p_bAnd, p_bOr, p_bNot, p_dIf, p_dAnd, p_dOr, p_dNot, p_dCh, p_bYes, p_gN, p_gT, p_gsNil, p_gsCons, p_dNx, p_dRet, p_dSet, p_dIfS, p_dAsg, p_dPar, p_dAug, p_dApp, p_dSetIx, p_nLst, p_nRep, p_nOf, p_dSetN, p_dParN1, p_dParNN, p_iSeq, p_iRng1, p_iRng2, p_oNo, p_oIx, p_dSl, p_asIx, p_opTup, p_opLst, p_lenT, p_lenL, p_lenS, p_tupT, p_tupL, p_add, p_sub, p_mul, p_lt, p_le, p_gt, p_ge, p_eqI, p_neI, p_isN, p_isnN, p_isB, p_isnB, p_isNone_n, p_isNone_i, p_isNone_t, p_isNone_l, p_appL, p_appT, b_mc, b_mn, b_ac, b_an, b_rs, b_rz, b_lc, b_ln, b_it, b_if, b_itt, b_iff, p_dSeq, p_eqB, p_neB, len_eT, len_eR, len_eV, isNone_eO, seq_eT, seq_eR, seq_eV, seq_eL, eO_some, eO_none, len_eL, ↓p_eqN, ↓p_neN, ↓p_ltN, ↓p_leN, ↓p_gtN, ↓p_geN, ixm hr, ixw hc, q, t2, t3, Nat.reduceAdd, Nat.reduceLeDiff, a2, k8, hx2]; rfl)]
      have g1 : ixNat (E T).length (r : Int) = some r := ixN (by simp [E]; omega)
      have g2 : (E T)[r]? = some (.lst ((List.range w).map fun j => eO (T r j))) := by simp [E, hr]
      have g3 : ixNat ((List.range w).map fun j => eO (T r j)).length (c : Int) = some c := ixN (by simp; omega)
      rw [fin2]
      simp only [p_dv, lk_z, lk_s, Option.bind_some, p_asI, p_asL, g1, g2, g3, st_z, st_s]
    simp only [b_mc, b_mn, b_ac, b_an, b_rs, b_rz, Nat.reduceSub, p_dSeq, s1, bnd_some, s2]
    rw [p_dIfS]
    have nn : T r c = some e := q
    have tt : bV (d2 opIsNot (d2 opIx (d2 opIx (dv 2) (dv 3)) (dv 4)) (dc .non)) [some (eT m w T), some (eL ds), some (.lst (E T)), some (.int r), some (.int c)] = some true := by
      simp only [p_bV, p_d2, p_dv, lk_z, lk_s, bnd_some, ixm hr, ixw hc, q, eO_some, p_dc, p_isnN, p_isNone_i, p_asB, Bool.not_false]
    rw [tt]
    simp only [bnd_some, if_true, s3]
    exact fin _ _ _ _
def eK (T : Nat → Nat → Option Nat) (p : Nat × Nat) : D := .tup [.int p.1, .int p.2, eO (T p.1 p.2)]
theorem en_eT {m w : Nat} {T : Nat → Nat → Option Nat} {f : DFs} {ρ : Rho} (h : f ρ = some [eT m w T]) : iEn f ρ = some ((List.range m).map fun i => .tup [.int (i : Nat), eR w (T i)]) := by
  rw [p_iEnT (xs := (List.range m).map fun i => eR w (T i)) h, enum_range]
theorem en_eR {w : Nat} {T : Nat → Option Nat} {f : DFs} {ρ : Rho} (h : f ρ = some [eR w T]) : iEn f ρ = some ((List.range w).map fun j => .tup [.int (j : Nat), eO (T j)]) := by
  rw [p_iEnT (xs := (List.range w).map fun j => eO (T j)) h, enum_range]
theorem known_m {m w : Nat} {T : Nat → Nat → Option Nat} (h : Tab m w T) : m_law_known [eT m w T] = some (.lst ((kp m w T).map (eK T))) := by
  have hm := h.m0
  have hm1 := h.m1
  have hw1 := h.w1
  refine run_rt rfl ?_
  obtain ⟨ρ', h1, x, y, h3⟩ := for_range (g := (gT (gsCons (gN 2) (gsCons (gN 3) gsNil)))) (b := m_law_known_b1) (fun i => .tup [.int (i : Nat), eR w (T i)])
    (fun (i : Nat) (ρ : Rho) => ∃ x y, ρ = [some (eT m w T), some (.lst ((kp i w T).map (eK T))), x, y, none, none]) m (by
      rintro i hi ρ ⟨x, y, rfl⟩
      refine ⟨_, rfl, ?_⟩
      have h2 : m_law_known_c1 [some (eT m w T), some (.lst ((kp i w T).map (eK T))), some (.int i), some (eR w (T i)), none, none]
          = some (.lst ((kpRow w T i).map (eK T))) := by
        unfold m_law_known_c1
        rw [comp_if (fun j : Nat => D.tup [.int (j : Nat), eO (T i j)]) (fun j => (T i j).isSome) (fun j => eK T (i, j)) (List.range w) (en_eR (by simp)) (by simp; omega) (by
          intro j hj
          refine ⟨_, rfl, ?_, fun _ => ?_⟩
          · simp
          · simp [eK])]
        simp [kpRow, Function.comp_def]
      have hl : ((kp i w T).map (eK T)).length + ((kpRow w T i).map (eK T)).length ≤ 16777216 := by
        have h5 := kp_len w T i
        have h6 := kpRow_len w T i
        have h7 : i * w ≤ 100 * 100 := Nat.mul_le_mul (by omega) hw1
        simp only [List.length_map]
        omega
      refine ⟨[some (eT m w T), some (.lst ((kp (i + 1) w T).map (eK T))), some (.int i), some (eR w (T i)), none, none], ?_, _, _, rfl⟩
      rw [kp_succ, List.map_append]
      simp only [m_law_known_b1, p_dSet, p_d2, p_dv, lk_z, lk_s, bnd_some, st_s, st_z, h2, p_appL, if_pos hl]) (ρ := [some (eT m w T), some (.lst []), none, none, none, none]) ⟨none, none, rfl⟩
  have hf := (for_eq (it := iEn (dcons (dv 0) dnil)) (ρ := [some (eT m w T), some (.lst []), none, none, none, none]) (en_eT (by simp))).trans h1
  subst h3
  simp only [bnd_some, bnd_none, p_dc, p_dv, lk_z, lk_s, st_z, st_s, un_z, un_s, wipe_n, wipe_c, p_d2, p_d1, p_dnil, p_dcons, p_dL, p_asB, p_asI, p_asL, p_asSeqL, p_asSeqT, p_bV, p_dB, p_bAnd, p_bOr, p_bNot, p_dIf, p_dAnd, p_dOr, p_dNot, p_dCh, p_bYes, p_gN, p_gT, p_gsNil, p_gsCons, p_dNx, p_dRet, p_dSet, p_dIfS, p_dAsg, p_dPar, p_dAug, p_dApp, p_dSetIx, p_nLst, p_nRep, p_nOf, p_dSetN, p_dParN1, p_dParNN, p_iSeq, p_iRng1, p_iRng2, p_oNo, p_oIx, p_dSl, p_asIx, p_opTup, p_opLst, p_lenT, p_lenL, p_lenS, p_tupT, p_tupL, p_add, p_sub, p_mul, p_lt, p_le, p_gt, p_ge, p_eqI, p_neI, p_isN, p_isnN, p_isB, p_isnB, p_isNone_n, p_isNone_i, p_isNone_t, p_isNone_l, p_appL, p_appT, b_mc, b_mn, b_ac, b_an, b_rs, b_rz, b_lc, b_ln, b_it, b_if, b_itt, b_iff, p_dSeq, p_eqB, p_neB, len_eT, len_eR, len_eV, isNone_eO, seq_eT, seq_eR, seq_eV, seq_eL, eO_some, eO_none, len_eL, ↓p_eqN, ↓p_neN, ↓p_ltN, ↓p_leN, ↓p_gtN, ↓p_geN, Nat.reduceSub, Nat.reduceLeDiff, Nat.zero_le, hf]
end Mi
namespace Mi
open DL
structure DvM (M : Nat) (T : Nat → Nat → Option Nat) : Prop where
  pos : 0 < M
  le : M ≤ 1000000000
  dvd : ∀ i j e, T i j = some e → e ∣ M
theorem DvM.bd {M : Nat} {T : Nat → Nat → Option Nat} (h : DvM M T) {i j e : Nat} (q : T i j = some e) : 0 < e ∧ e ≤ 1000000000 := by
  have h1 := h.dvd i j e q
  exact ⟨Nat.pos_of_dvd_of_pos h1 h.pos, Nat.le_trans (Nat.le_of_dvd h.pos h1) h.le⟩
theorem DvM.tab {M m w : Nat} {T : Nat → Nat → Option Nat} (h : DvM M T) (m0 : 0 < m) (m1 : m ≤ 100) (w0 : 0 < w) (w1 : w ≤ 100) : Tab m w T := ⟨m0, m1, w0, w1, fun i j e q => by
  have := h.bd q
  omega⟩
end Mi
namespace Mi
open DL
end Mi
namespace Mi
open DL
theorem someL_dvd {n : Nat} (h : n ∈ someL) : n ∣ 360 := by
  simp [someL] at h
  rcases h with h | h | h | h | h | h | h | h | h | h | h | h <;> subst h <;> decide
theorem dvm_lcm {R C : Nat → Nat} (hR : ∀ i, R i ∈ someL) (hC : ∀ j, C j ∈ someL) : DvM 360 fun i j => some (Nat.lcm (R i) (C j)) := ⟨by decide, by decide, fun i j e q => by
  cases q
  exact Nat.lcm_dvd (someL_dvd (hR i)) (someL_dvd (hC j))⟩
theorem DvM.hid {M : Nat} {T : Nat → Nat → Option Nat} (h : DvM M T) (hid : Nat → Nat → Bool) : DvM M fun i j => if hid i j = true then none else T i j :=
  ⟨h.pos, h.le, fun i j e q => h.dvd i j e (by
    by_cases z : hid i j = true
    · rw [if_pos z] at q; cases q
    · rw [if_neg z] at q; exact q)⟩
theorem DvM.up {M N : Nat} {T : Nat → Nat → Option Nat} (h : DvM M T) (hN : 0 < N) (hl : N ≤ 1000000000) (hd : M ∣ N) : DvM N T := ⟨hN, hl, fun i j e q => Nat.dvd_trans (h.dvd i j e q) hd⟩
theorem DvM.spo {T T' : Nat → Nat → Option Nat} {m w : Nat} (h : DvM 360 T) (s : Spo m w T T') : DvM 2160 T' := by
  have h' := h.up (N := 2160) (by decide) (by decide) (by decide)
  rcases s with e | ⟨r, _, c, _, e, he, x, hx, q⟩
  · rw [e]; exact h'
  · refine ⟨by decide, by decide, fun i j y hy => ?_⟩
    rw [q] at hy
    unfold put at hy
    by_cases z : i = r ∧ j = c
    · rw [if_pos z] at hy
      cases hy
      obtain ⟨k, hk⟩ := h.dvd r c e he
      rcases hx with rfl | rfl | rfl | rfl | rfl | rfl | rfl | rfl
      · decide
      · decide
      · decide
      · decide
      · decide
      · decide
      · exact ⟨k * 3, by rw [show e * 2 * (k * 3) = e * k * 6 by ac_rfl, ← hk]⟩
      · exact ⟨k * 2, by rw [show e * 3 * (k * 2) = e * k * 6 by ac_rfl, ← hk]⟩
    · rw [if_neg z] at hy
      exact h'.dvd i j y hy
end Mi
namespace Mi
open DL
end Mi
namespace Mi
open DL
end Mi
namespace Mi
open DL
def comL (es : List Nat) : Nat := es.foldl (fun g e => Nat.gcd e g) 0
theorem comL_snoc (es : List Nat) (e : Nat) : comL (es ++ [e]) = Nat.gcd e (comL es) := by
  unfold comL
  rw [List.foldl_append]
  rfl
theorem foldg_dvd (d : Nat) : ∀ (es : List Nat) (a : Nat), d ∣ es.foldl (fun g e => Nat.gcd e g) a ↔ d ∣ a ∧ ∀ e ∈ es, d ∣ e
  | [], a => by simp
  | e :: es, a => by
    rw [List.foldl_cons, foldg_dvd d es, Nat.dvd_gcd_iff]
    simp only [List.mem_cons, forall_eq_or_imp]
    constructor
    · rintro ⟨⟨h1, h2⟩, h3⟩; exact ⟨h2, h1, h3⟩
    · rintro ⟨h1, h2, h3⟩; exact ⟨⟨h2, h1⟩, h3⟩
theorem dvd_comL {es : List Nat} {d : Nat} : d ∣ comL es ↔ ∀ e ∈ es, d ∣ e := by
  unfold comL
  rw [foldg_dvd]
  exact ⟨fun h => h.2, fun h => ⟨Nat.dvd_zero _, h⟩⟩
theorem eq_of_dvd_iff {a b : Nat} (h : ∀ d, d ∣ a ↔ d ∣ b) : a = b := Nat.dvd_antisymm ((h a).mp (Nat.dvd_refl a)) ((h b).mpr (Nat.dvd_refl b))
def rowE (m w : Nat) (T : Nat → Nat → Option Nat) (i : Nat) : List Nat := ((kp m w T).filter fun p => decide (p.1 = i)).map fun p => (T p.1 p.2).getD 0
def colE (m w : Nat) (T : Nat → Nat → Option Nat) (j : Nat) : List Nat := ((kp m w T).filter fun p => decide (p.2 = j)).map fun p => (T p.1 p.2).getD 0
theorem mem_rowE {m w : Nat} {T : Nat → Nat → Option Nat} {i e : Nat} (hi : i < m) : e ∈ rowE m w T i ↔ ∃ j, j < w ∧ T i j = some e := by
  unfold rowE
  simp only [List.mem_map, List.mem_filter, decide_eq_true_eq]
  constructor
  · rintro ⟨p, ⟨hp, h1⟩, h2⟩
    obtain ⟨v, hv, p1, p2⟩ := kp_some hp
    rw [hv] at h2
    have h2 : v = e := h2
    exact ⟨p.2, p2, by rw [← h1, hv, h2]⟩
  · rintro ⟨j, hj, he⟩
    exact ⟨(i, j), ⟨mem_kp.mpr ⟨hi, hj, by simp [he]⟩, rfl⟩, by simp [he]⟩
theorem mem_colE {m w : Nat} {T : Nat → Nat → Option Nat} {j e : Nat} (hj : j < w) : e ∈ colE m w T j ↔ ∃ i, i < m ∧ T i j = some e := by
  unfold colE
  simp only [List.mem_map, List.mem_filter, decide_eq_true_eq]
  constructor
  · rintro ⟨p, ⟨hp, h1⟩, h2⟩
    obtain ⟨v, hv, p1, p2⟩ := kp_some hp
    rw [hv] at h2
    have h2 : v = e := h2
    exact ⟨p.1, p1, by rw [← h1, hv, h2]⟩
  · rintro ⟨i, hi, he⟩
    exact ⟨(i, j), ⟨mem_kp.mpr ⟨hi, hj, by simp [he]⟩, rfl⟩, by simp [he]⟩
theorem comL_row {m w : Nat} {T : Nat → Nat → Option Nat} {i : Nat} (hi : i < m) : comL (rowE m w T i) = gRow w (T i) := eq_of_dvd_iff fun d => by
  rw [dvd_comL, dvd_gRow]
  constructor
  · intro h j hj e he; exact h e ((mem_rowE hi).mpr ⟨j, hj, he⟩)
  · intro h e he
    obtain ⟨j, hj, q⟩ := (mem_rowE hi).mp he
    exact h j hj e q
theorem comL_col {m w : Nat} {T : Nat → Nat → Option Nat} {j : Nat} (hj : j < w) : comL (colE m w T j) = gRow m (fun i => T i j) := eq_of_dvd_iff fun d => by
  rw [dvd_comL, dvd_gRow]
  constructor
  · intro h i hi e he; exact h e ((mem_colE hj).mpr ⟨i, hi, he⟩)
  · intro h e he
    obtain ⟨i, hi, q⟩ := (mem_colE hj).mp he
    exact h i hi e q
theorem common_m {es : List Nat} (h : ∀ e ∈ es, 0 < e ∧ e ≤ 1000000000000000000) : m_law_common [eL es] = some (.int (comL es)) := by
  obtain ⟨ρ', h1, ⟨h0, x, h3⟩⟩ := for_pre (g := gN 2) (b := m_law_common_b1) (fun n : Nat => D.int n)
    (fun pre ρ => comL pre ≤ 1000000000000000000 ∧ ∃ x, ρ = [some (eL es), some (.int (comL pre)), x]) es (ρ := [some (eL es), some (.int 0), none]) (by
      rintro pre e r q ρ ⟨h0, x, rfl⟩
      have he := h e (by rw [q]; simp)
      refine ⟨_, rfl, [some (eL es), some (.int (comL (pre ++ [e]) : Nat)), some (.int e)], ?_, ?_, _, rfl⟩
      · rw [comL_snoc]
        have z : ((0 : Int) < (comL pre : Int)) ↔ 0 < comL pre := by omega
        by_cases c : 0 < comL pre
        · have l := lgcd_m (a := e) (b := comL pre) (by omega)
          simp only [m_law_common_b1, bnd_some, bnd_none, p_dc, p_dv, lk_z, lk_s, st_z, st_s, un_z, un_s, wipe_n, wipe_c, p_d2, p_d1, p_dnil, p_dcons, p_dL, p_asB, p_asI, p_asL, p_asSeqL, p_asSeqT, p_bV, p_dB, p_bAnd, p_bOr, p_bNot, p_dIf, p_dAnd, p_dOr, p_dNot, p_dCh, p_bYes, p_gN, p_gT, p_gsNil, p_gsCons, p_dNx, p_dRet, p_dSet, p_dIfS, p_dAsg, p_dPar, p_dAug, p_dApp, p_dSetIx, p_nLst, p_nRep, p_nOf, p_dSetN, p_dParN1, p_dParNN, p_iSeq, p_iRng1, p_iRng2, p_oNo, p_oIx, p_dSl, p_asIx, p_opTup, p_opLst, p_lenT, p_lenL, p_lenS, p_tupT, p_tupL, p_add, p_sub, p_mul, p_lt, p_le, p_gt, p_ge, p_eqI, p_neI, p_isN, p_isnN, p_isB, p_isnB, p_isNone_n, p_isNone_i, p_isNone_t, p_isNone_l, p_appL, p_appT, b_mc, b_mn, b_ac, b_an, b_rs, b_rz, b_lc, b_ln, b_it, b_if, b_itt, b_iff, p_dSeq, p_eqB, p_neB, len_eT, len_eR, len_eV, isNone_eO, seq_eT, seq_eR, seq_eV, seq_eL, eO_some, eO_none, len_eL, ↓p_eqN, ↓p_neN, ↓p_ltN, ↓p_leN, ↓p_gtN, ↓p_geN, z, decide_eq_true c, l]
        · have c0 : comL pre = 0 := by omega
          simp only [m_law_common_b1, bnd_some, bnd_none, p_dc, p_dv, lk_z, lk_s, st_z, st_s, un_z, un_s, wipe_n, wipe_c, p_d2, p_d1, p_dnil, p_dcons, p_dL, p_asB, p_asI, p_asL, p_asSeqL, p_asSeqT, p_bV, p_dB, p_bAnd, p_bOr, p_bNot, p_dIf, p_dAnd, p_dOr, p_dNot, p_dCh, p_bYes, p_gN, p_gT, p_gsNil, p_gsCons, p_dNx, p_dRet, p_dSet, p_dIfS, p_dAsg, p_dPar, p_dAug, p_dApp, p_dSetIx, p_nLst, p_nRep, p_nOf, p_dSetN, p_dParN1, p_dParNN, p_iSeq, p_iRng1, p_iRng2, p_oNo, p_oIx, p_dSl, p_asIx, p_opTup, p_opLst, p_lenT, p_lenL, p_lenS, p_tupT, p_tupL, p_add, p_sub, p_mul, p_lt, p_le, p_gt, p_ge, p_eqI, p_neI, p_isN, p_isnN, p_isB, p_isnB, p_isNone_n, p_isNone_i, p_isNone_t, p_isNone_l, p_appL, p_appT, b_mc, b_mn, b_ac, b_an, b_rs, b_rz, b_lc, b_ln, b_it, b_if, b_itt, b_iff, p_dSeq, p_eqB, p_neB, len_eT, len_eR, len_eV, isNone_eO, seq_eT, seq_eR, seq_eV, seq_eL, eO_some, eO_none, len_eL, ↓p_eqN, ↓p_neN, ↓p_ltN, ↓p_leN, ↓p_gtN, ↓p_geN, z, decide_eq_false c]
          rw [c0, Nat.gcd_zero_right]
      · rw [comL_snoc]
        exact Nat.le_trans (Nat.gcd_le_left _ he.1) he.2) ⟨by simp [comL], none, rfl⟩
  subst h3
  have f := (for_eq (it := iSeq (dv 0)) (ρ := [some (eL es), some (.int 0), none]) (by simp only [bnd_some, bnd_none, p_dc, p_dv, lk_z, lk_s, st_z, st_s, un_z, un_s, wipe_n, wipe_c, p_d2, p_d1, p_dnil, p_dcons, p_dL, p_asB, p_asI, p_asL, p_asSeqL, p_asSeqT, p_bV, p_dB, p_bAnd, p_bOr, p_bNot, p_dIf, p_dAnd, p_dOr, p_dNot, p_dCh, p_bYes, p_gN, p_gT, p_gsNil, p_gsCons, p_dNx, p_dRet, p_dSet, p_dIfS, p_dAsg, p_dPar, p_dAug, p_dApp, p_dSetIx, p_nLst, p_nRep, p_nOf, p_dSetN, p_dParN1, p_dParNN, p_iSeq, p_iRng1, p_iRng2, p_oNo, p_oIx, p_dSl, p_asIx, p_opTup, p_opLst, p_lenT, p_lenL, p_lenS, p_tupT, p_tupL, p_add, p_sub, p_mul, p_lt, p_le, p_gt, p_ge, p_eqI, p_neI, p_isN, p_isnN, p_isB, p_isnB, p_isNone_n, p_isNone_i, p_isNone_t, p_isNone_l, p_appL, p_appT, b_mc, b_mn, b_ac, b_an, b_rs, b_rz, b_lc, b_ln, b_it, b_if, b_itt, b_iff, p_dSeq, p_eqB, p_neB, len_eT, len_eR, len_eV, isNone_eO, seq_eT, seq_eR, seq_eV, seq_eL, eO_some, eO_none, len_eL, ↓p_eqN, ↓p_neN, ↓p_ltN, ↓p_leN, ↓p_gtN, ↓p_geN])).trans h1
  exact run_rt rfl (by simp only [bnd_some, bnd_none, p_dc, p_dv, lk_z, lk_s, st_z, st_s, un_z, un_s, wipe_n, wipe_c, p_d2, p_d1, p_dnil, p_dcons, p_dL, p_asB, p_asI, p_asL, p_asSeqL, p_asSeqT, p_bV, p_dB, p_bAnd, p_bOr, p_bNot, p_dIf, p_dAnd, p_dOr, p_dNot, p_dCh, p_bYes, p_gN, p_gT, p_gsNil, p_gsCons, p_dNx, p_dRet, p_dSet, p_dIfS, p_dAsg, p_dPar, p_dAug, p_dApp, p_dSetIx, p_nLst, p_nRep, p_nOf, p_dSetN, p_dParN1, p_dParNN, p_iSeq, p_iRng1, p_iRng2, p_oNo, p_oIx, p_dSl, p_asIx, p_opTup, p_opLst, p_lenT, p_lenL, p_lenS, p_tupT, p_tupL, p_add, p_sub, p_mul, p_lt, p_le, p_gt, p_ge, p_eqI, p_neI, p_isN, p_isnN, p_isB, p_isnB, p_isNone_n, p_isNone_i, p_isNone_t, p_isNone_l, p_appL, p_appT, b_mc, b_mn, b_ac, b_an, b_rs, b_rz, b_lc, b_ln, b_it, b_if, b_itt, b_iff, p_dSeq, p_eqB, p_neB, len_eT, len_eR, len_eV, isNone_eO, seq_eT, seq_eR, seq_eV, seq_eL, eO_some, eO_none, len_eL, ↓p_eqN, ↓p_neN, ↓p_ltN, ↓p_leN, ↓p_gtN, ↓p_geN, Nat.reduceSub, f])
def fitsB (m w : Nat) (T : Nat → Nat → Option Nat) (R C : Nat → Nat) : Bool := (kp m w T).all fun p => decide (Nat.lcm (R p.1) (C p.2) = (T p.1 p.2).getD 0)
theorem eq_empty {α : Type} (l : List α) : opEq (.lst (l.map fun _ => D.int 1)) (.lst []) = some (.bl l.isEmpty) := by
  have h1 : okD 60 (.lst (l.map fun _ => D.int 1)) = true := okDs_map (n := 59) (fun _ => D.int 1) l fun _ _ => rfl
  rw [opEq_ok h1 rfl]
  cases l <;> rfl
theorem fits_m {m w : Nat} {T : Nat → Nat → Option Nat} {R C : Nat → Nat} {dr dc : D} (h : Tab m w T) (ir : ∀ i, i < m → opIx dr (.int i) = some (.int (R i))) (ic : ∀ j, j < w → opIx dc (.int j) = some (.int (C j)))
    (hR : ∀ p ∈ kp m w T, 0 < R p.1 ∧ R p.1 ≤ 1000000000000000000) (hC : ∀ p ∈ kp m w T, C p.2 ≤ 1000000000000000000) : m_law_fits [eT m w T, dr, dc] = some (.bl (fitsB m w T R C)) := by
  have c : m_law_fits_c1 [some (eT m w T), some dr, some dc, none, none, none] = some (.lst (((kp m w T).filter fun p => !decide (Nat.lcm (R p.1) (C p.2) = (T p.1 p.2).getD 0)).map fun _ => D.int 1)) := by
    unfold m_law_fits_c1
    refine comp_if (eK T) _ _ (kp m w T) (by simp only [bnd_some, bnd_none, p_dc, p_dv, lk_z, lk_s, st_z, st_s, un_z, un_s, wipe_n, wipe_c, p_d2, p_d1, p_dnil, p_dcons, p_dL, p_asB, p_asI, p_asL, p_asSeqL, p_asSeqT, p_bV, p_dB, p_bAnd, p_bOr, p_bNot, p_dIf, p_dAnd, p_dOr, p_dNot, p_dCh, p_bYes, p_gN, p_gT, p_gsNil, p_gsCons, p_dNx, p_dRet, p_dSet, p_dIfS, p_dAsg, p_dPar, p_dAug, p_dApp, p_dSetIx, p_nLst, p_nRep, p_nOf, p_dSetN, p_dParN1, p_dParNN, p_iSeq, p_iRng1, p_iRng2, p_oNo, p_oIx, p_dSl, p_asIx, p_opTup, p_opLst, p_lenT, p_lenL, p_lenS, p_tupT, p_tupL, p_add, p_sub, p_mul, p_lt, p_le, p_gt, p_ge, p_eqI, p_neI, p_isN, p_isnN, p_isB, p_isnB, p_isNone_n, p_isNone_i, p_isNone_t, p_isNone_l, p_appL, p_appT, b_mc, b_mn, b_ac, b_an, b_rs, b_rz, b_lc, b_ln, b_it, b_if, b_itt, b_iff, p_dSeq, p_eqB, p_neB, len_eT, len_eR, len_eV, isNone_eO, seq_eT, seq_eR, seq_eV, seq_eL, eO_some, eO_none, len_eL, ↓p_eqN, ↓p_neN, ↓p_ltN, ↓p_leN, ↓p_gtN, ↓p_geN, known_m h]) (by have := kp_len1 h; omega) ?_
    intro p hp
    obtain ⟨e, he, p1, p2⟩ := kp_some hp
    have r := hR p hp
    have cc := hC p hp
    have l := llcm_m r.1 (b := C p.2) (by omega) (Nat.lt_of_le_of_lt (Nat.gcd_le_left _ r.1) (by omega))
    refine ⟨_, rfl, ?_, fun _ => rfl⟩
    simp only [bnd_some, bnd_none, p_dc, p_dv, lk_z, lk_s, st_z, st_s, un_z, un_s, wipe_n, wipe_c, p_d2, p_d1, p_dnil, p_dcons, p_dL, p_asB, p_asI, p_asL, p_asSeqL, p_asSeqT, p_bV, p_dB, p_bAnd, p_bOr, p_bNot, p_dIf, p_dAnd, p_dOr, p_dNot, p_dCh, p_bYes, p_gN, p_gT, p_gsNil, p_gsCons, p_dNx, p_dRet, p_dSet, p_dIfS, p_dAsg, p_dPar, p_dAug, p_dApp, p_dSetIx, p_nLst, p_nRep, p_nOf, p_dSetN, p_dParN1, p_dParNN, p_iSeq, p_iRng1, p_iRng2, p_oNo, p_oIx, p_dSl, p_asIx, p_opTup, p_opLst, p_lenT, p_lenL, p_lenS, p_tupT, p_tupL, p_add, p_sub, p_mul, p_lt, p_le, p_gt, p_ge, p_eqI, p_neI, p_isN, p_isnN, p_isB, p_isnB, p_isNone_n, p_isNone_i, p_isNone_t, p_isNone_l, p_appL, p_appT, b_mc, b_mn, b_ac, b_an, b_rs, b_rz, b_lc, b_ln, b_it, b_if, b_itt, b_iff, p_dSeq, p_eqB, p_neB, len_eT, len_eR, len_eV, isNone_eO, seq_eT, seq_eR, seq_eV, seq_eL, eO_some, eO_none, len_eL, ↓p_eqN, ↓p_neN, ↓p_ltN, ↓p_leN, ↓p_gtN, ↓p_geN, he, eO_some, ir p.1 p1, ic p.2 p2, l, Option.getD_some]
  refine run_rt rfl ?_
  simp only [bnd_some, bnd_none, p_dc, p_dv, lk_z, lk_s, st_z, st_s, un_z, un_s, wipe_n, wipe_c, p_d2, p_d1, p_dnil, p_dcons, p_dL, p_asB, p_asI, p_asL, p_asSeqL, p_asSeqT, p_bV, p_dB, p_bAnd, p_bOr, p_bNot, p_dIf, p_dAnd, p_dOr, p_dNot, p_dCh, p_bYes, p_gN, p_gT, p_gsNil, p_gsCons, p_dNx, p_dRet, p_dSet, p_dIfS, p_dAsg, p_dPar, p_dAug, p_dApp, p_dSetIx, p_nLst, p_nRep, p_nOf, p_dSetN, p_dParN1, p_dParNN, p_iSeq, p_iRng1, p_iRng2, p_oNo, p_oIx, p_dSl, p_asIx, p_opTup, p_opLst, p_lenT, p_lenL, p_lenS, p_tupT, p_tupL, p_add, p_sub, p_mul, p_lt, p_le, p_gt, p_ge, p_eqI, p_neI, p_isN, p_isnN, p_isB, p_isnB, p_isNone_n, p_isNone_i, p_isNone_t, p_isNone_l, p_appL, p_appT, b_mc, b_mn, b_ac, b_an, b_rs, b_rz, b_lc, b_ln, b_it, b_if, b_itt, b_iff, p_dSeq, p_eqB, p_neB, len_eT, len_eR, len_eV, isNone_eO, seq_eT, seq_eR, seq_eV, seq_eL, eO_some, eO_none, len_eL, ↓p_eqN, ↓p_neN, ↓p_ltN, ↓p_leN, ↓p_gtN, ↓p_geN, Nat.reduceSub, c, Nat.reduceLeDiff, Nat.zero_le, eq_empty]
  congr 3
  unfold fitsB
  rw [Bool.eq_iff_iff, List.isEmpty_iff, List.filter_eq_nil_iff, List.all_eq_true]
  refine forall_congr' fun p => forall_congr' fun hp => ?_
  simp
theorem fits_real {m w : Nat} {T : Nat → Nat → Option Nat} {R C : Nat → Nat} (hR : ∀ i, i < m → R i = gRow w (T i)) (hC : ∀ j, j < w → C j = gRow m (fun i => T i j)) : fitsB m w T R C = isReal m w T := by
  unfold fitsB isReal
  rw [Bool.eq_iff_iff, List.all_eq_true, List.all_eq_true]
  refine forall_congr' fun p => forall_congr' fun hp => ?_
  obtain ⟨e, he, p1, p2⟩ := kp_some hp
  rw [hR _ p1, hC _ p2]
theorem law_real_m {m w : Nat} {T : Nat → Nat → Option Nat} (h : Tab m w T) : m_law_real [eT m w T] = some (.bl (isReal m w T)) := by
  have hm := h.m0
  have hm1 := h.m1
  have hw1 := h.w1
  let kn : D := .lst ((kp m w T).map (eK T))
  have hk : m_law_known [eT m w T] = some kn := known_m h
  have kk : asSeq kn = some ((kp m w T).map (eK T)) := rfl
  have kl := kp_len1 h
  have val : ∀ l : List (Nat × Nat), (∀ p ∈ l, p ∈ kp m w T) → D.lst (l.map fun p => eO (T p.1 p.2)) = eL (l.map fun p => (T p.1 p.2).getD 0) := by
    intro l hl
    unfold eL
    rw [List.map_map]
    refine congrArg D.lst (List.map_congr_left fun p hp => ?_)
    obtain ⟨e, he, _, _⟩ := kp_some (hl p hp)
    simp [he]
  have pe : ∀ l : List (Nat × Nat), (∀ p ∈ l, p ∈ kp m w T) → ∀ e ∈ l.map (fun p => (T p.1 p.2).getD 0), 0 < e ∧ e ≤ 1000000000000000000 := by
    intro l hl e he
    obtain ⟨p, hp, q⟩ := List.mem_map.mp he
    obtain ⟨v, hv, _, _⟩ := kp_some (hl p hp)
    rw [hv] at q
    have q : v = e := q
    rw [← q]
    exact h.bd _ _ _ hv
  have c1 : ∀ (i : Nat) (x y : Option D), m_law_real_c1 [some (eT m w T), some kn, x, y, some (.int i), none, none, none] = some (eL (rowE m w T i)) := by
    intro i x y
    unfold m_law_real_c1 rowE
    rw [← val _ fun p hp => (List.mem_filter.mp hp).1]
    refine comp_if (eK T) _ _ (kp m w T) (by simp only [bnd_some, bnd_none, p_dc, p_dv, lk_z, lk_s, st_z, st_s, un_z, un_s, wipe_n, wipe_c, p_d2, p_d1, p_dnil, p_dcons, p_dL, p_asB, p_asI, p_asL, p_asSeqL, p_asSeqT, p_bV, p_dB, p_bAnd, p_bOr, p_bNot, p_dIf, p_dAnd, p_dOr, p_dNot, p_dCh, p_bYes, p_gN, p_gT, p_gsNil, p_gsCons, p_dNx, p_dRet, p_dSet, p_dIfS, p_dAsg, p_dPar, p_dAug, p_dApp, p_dSetIx, p_nLst, p_nRep, p_nOf, p_dSetN, p_dParN1, p_dParNN, p_iSeq, p_iRng1, p_iRng2, p_oNo, p_oIx, p_dSl, p_asIx, p_opTup, p_opLst, p_lenT, p_lenL, p_lenS, p_tupT, p_tupL, p_add, p_sub, p_mul, p_lt, p_le, p_gt, p_ge, p_eqI, p_neI, p_isN, p_isnN, p_isB, p_isnB, p_isNone_n, p_isNone_i, p_isNone_t, p_isNone_l, p_appL, p_appT, b_mc, b_mn, b_ac, b_an, b_rs, b_rz, b_lc, b_ln, b_it, b_if, b_itt, b_iff, p_dSeq, p_eqB, p_neB, len_eT, len_eR, len_eV, isNone_eO, seq_eT, seq_eR, seq_eV, seq_eL, eO_some, eO_none, len_eL, ↓p_eqN, ↓p_neN, ↓p_ltN, ↓p_leN, ↓p_gtN, ↓p_geN, kk]) (by omega) ?_
    intro p hp
    refine ⟨_, rfl, ?_, fun _ => ?_⟩ <;> simp only [bnd_some, bnd_none, p_dc, p_dv, lk_z, lk_s, st_z, st_s, un_z, un_s, wipe_n, wipe_c, p_d2, p_d1, p_dnil, p_dcons, p_dL, p_asB, p_asI, p_asL, p_asSeqL, p_asSeqT, p_bV, p_dB, p_bAnd, p_bOr, p_bNot, p_dIf, p_dAnd, p_dOr, p_dNot, p_dCh, p_bYes, p_gN, p_gT, p_gsNil, p_gsCons, p_dNx, p_dRet, p_dSet, p_dIfS, p_dAsg, p_dPar, p_dAug, p_dApp, p_dSetIx, p_nLst, p_nRep, p_nOf, p_dSetN, p_dParN1, p_dParNN, p_iSeq, p_iRng1, p_iRng2, p_oNo, p_oIx, p_dSl, p_asIx, p_opTup, p_opLst, p_lenT, p_lenL, p_lenS, p_tupT, p_tupL, p_add, p_sub, p_mul, p_lt, p_le, p_gt, p_ge, p_eqI, p_neI, p_isN, p_isnN, p_isB, p_isnB, p_isNone_n, p_isNone_i, p_isNone_t, p_isNone_l, p_appL, p_appT, b_mc, b_mn, b_ac, b_an, b_rs, b_rz, b_lc, b_ln, b_it, b_if, b_itt, b_iff, p_dSeq, p_eqB, p_neB, len_eT, len_eR, len_eV, isNone_eO, seq_eT, seq_eR, seq_eV, seq_eL, eO_some, eO_none, len_eL, ↓p_eqN, ↓p_neN, ↓p_ltN, ↓p_leN, ↓p_gtN, ↓p_geN]
  have c3 : ∀ (j : Nat) (x y : Option D), m_law_real_c3 [some (eT m w T), some kn, x, y, none, some (.int j), none, none] = some (eL (colE m w T j)) := by
    intro i x y
    unfold m_law_real_c3 colE
    rw [← val _ fun p hp => (List.mem_filter.mp hp).1]
    refine comp_if (eK T) _ _ (kp m w T) (by simp only [bnd_some, bnd_none, p_dc, p_dv, lk_z, lk_s, st_z, st_s, un_z, un_s, wipe_n, wipe_c, p_d2, p_d1, p_dnil, p_dcons, p_dL, p_asB, p_asI, p_asL, p_asSeqL, p_asSeqT, p_bV, p_dB, p_bAnd, p_bOr, p_bNot, p_dIf, p_dAnd, p_dOr, p_dNot, p_dCh, p_bYes, p_gN, p_gT, p_gsNil, p_gsCons, p_dNx, p_dRet, p_dSet, p_dIfS, p_dAsg, p_dPar, p_dAug, p_dApp, p_dSetIx, p_nLst, p_nRep, p_nOf, p_dSetN, p_dParN1, p_dParNN, p_iSeq, p_iRng1, p_iRng2, p_oNo, p_oIx, p_dSl, p_asIx, p_opTup, p_opLst, p_lenT, p_lenL, p_lenS, p_tupT, p_tupL, p_add, p_sub, p_mul, p_lt, p_le, p_gt, p_ge, p_eqI, p_neI, p_isN, p_isnN, p_isB, p_isnB, p_isNone_n, p_isNone_i, p_isNone_t, p_isNone_l, p_appL, p_appT, b_mc, b_mn, b_ac, b_an, b_rs, b_rz, b_lc, b_ln, b_it, b_if, b_itt, b_iff, p_dSeq, p_eqB, p_neB, len_eT, len_eR, len_eV, isNone_eO, seq_eT, seq_eR, seq_eV, seq_eL, eO_some, eO_none, len_eL, ↓p_eqN, ↓p_neN, ↓p_ltN, ↓p_leN, ↓p_gtN, ↓p_geN, kk]) (by omega) ?_
    intro p hp
    refine ⟨_, rfl, ?_, fun _ => ?_⟩ <;> simp only [bnd_some, bnd_none, p_dc, p_dv, lk_z, lk_s, st_z, st_s, un_z, un_s, wipe_n, wipe_c, p_d2, p_d1, p_dnil, p_dcons, p_dL, p_asB, p_asI, p_asL, p_asSeqL, p_asSeqT, p_bV, p_dB, p_bAnd, p_bOr, p_bNot, p_dIf, p_dAnd, p_dOr, p_dNot, p_dCh, p_bYes, p_gN, p_gT, p_gsNil, p_gsCons, p_dNx, p_dRet, p_dSet, p_dIfS, p_dAsg, p_dPar, p_dAug, p_dApp, p_dSetIx, p_nLst, p_nRep, p_nOf, p_dSetN, p_dParN1, p_dParNN, p_iSeq, p_iRng1, p_iRng2, p_oNo, p_oIx, p_dSl, p_asIx, p_opTup, p_opLst, p_lenT, p_lenL, p_lenS, p_tupT, p_tupL, p_add, p_sub, p_mul, p_lt, p_le, p_gt, p_ge, p_eqI, p_neI, p_isN, p_isnN, p_isB, p_isnB, p_isNone_n, p_isNone_i, p_isNone_t, p_isNone_l, p_appL, p_appT, b_mc, b_mn, b_ac, b_an, b_rs, b_rz, b_lc, b_ln, b_it, b_if, b_itt, b_iff, p_dSeq, p_eqB, p_neB, len_eT, len_eR, len_eV, isNone_eO, seq_eT, seq_eR, seq_eV, seq_eL, eO_some, eO_none, len_eL, ↓p_eqN, ↓p_neN, ↓p_ltN, ↓p_leN, ↓p_gtN, ↓p_geN]
  have c2 : m_law_real_c2 [some (eT m w T), some kn, none, none, none, none, none, none] = some (.lst ((List.range m).map fun i => .int (gRow w (T i)))) := by
    unfold m_law_real_c2
    refine comp_all (fun i : Nat => D.int i) _ (List.range m) (by simp only [bnd_some, bnd_none, p_dc, p_dv, lk_z, lk_s, st_z, st_s, un_z, un_s, wipe_n, wipe_c, p_d2, p_d1, p_dnil, p_dcons, p_dL, p_asB, p_asI, p_asL, p_asSeqL, p_asSeqT, p_bV, p_dB, p_bAnd, p_bOr, p_bNot, p_dIf, p_dAnd, p_dOr, p_dNot, p_dCh, p_bYes, p_gN, p_gT, p_gsNil, p_gsCons, p_dNx, p_dRet, p_dSet, p_dIfS, p_dAsg, p_dPar, p_dAug, p_dApp, p_dSetIx, p_nLst, p_nRep, p_nOf, p_dSetN, p_dParN1, p_dParNN, p_iSeq, p_iRng1, p_iRng2, p_oNo, p_oIx, p_dSl, p_asIx, p_opTup, p_opLst, p_lenT, p_lenL, p_lenS, p_tupT, p_tupL, p_add, p_sub, p_mul, p_lt, p_le, p_gt, p_ge, p_eqI, p_neI, p_isN, p_isnN, p_isB, p_isnB, p_isNone_n, p_isNone_i, p_isNone_t, p_isNone_l, p_appL, p_appT, b_mc, b_mn, b_ac, b_an, b_rs, b_rz, b_lc, b_ln, b_it, b_if, b_itt, b_iff, p_dSeq, p_eqB, p_neB, len_eT, len_eR, len_eV, isNone_eO, seq_eT, seq_eR, seq_eV, seq_eL, eO_some, eO_none, len_eL, ↓p_eqN, ↓p_neN, ↓p_ltN, ↓p_leN, ↓p_gtN, ↓p_geN, rng1 (n := m) (by omega)]) (by simp; omega) ?_
    intro i hi
    have hi := List.mem_range.mp hi
    refine ⟨_, rfl, ?_⟩
    have := common_m (es := rowE m w T i) (pe _ fun p hp => (List.mem_filter.mp hp).1)
    rw [comL_row hi] at this
    simp only [bnd_some, bnd_none, p_dc, p_dv, lk_z, lk_s, st_z, st_s, un_z, un_s, wipe_n, wipe_c, p_d2, p_d1, p_dnil, p_dcons, p_dL, p_asB, p_asI, p_asL, p_asSeqL, p_asSeqT, p_bV, p_dB, p_bAnd, p_bOr, p_bNot, p_dIf, p_dAnd, p_dOr, p_dNot, p_dCh, p_bYes, p_gN, p_gT, p_gsNil, p_gsCons, p_dNx, p_dRet, p_dSet, p_dIfS, p_dAsg, p_dPar, p_dAug, p_dApp, p_dSetIx, p_nLst, p_nRep, p_nOf, p_dSetN, p_dParN1, p_dParNN, p_iSeq, p_iRng1, p_iRng2, p_oNo, p_oIx, p_dSl, p_asIx, p_opTup, p_opLst, p_lenT, p_lenL, p_lenS, p_tupT, p_tupL, p_add, p_sub, p_mul, p_lt, p_le, p_gt, p_ge, p_eqI, p_neI, p_isN, p_isnN, p_isB, p_isnB, p_isNone_n, p_isNone_i, p_isNone_t, p_isNone_l, p_appL, p_appT, b_mc, b_mn, b_ac, b_an, b_rs, b_rz, b_lc, b_ln, b_it, b_if, b_itt, b_iff, p_dSeq, p_eqB, p_neB, len_eT, len_eR, len_eV, isNone_eO, seq_eT, seq_eR, seq_eV, seq_eL, eO_some, eO_none, len_eL, ↓p_eqN, ↓p_neN, ↓p_ltN, ↓p_leN, ↓p_gtN, ↓p_geN, c1, this]
  have c4 : ∀ x, m_law_real_c4 [some (eT m w T), some kn, x, none, none, none, none, none] = some (.lst ((List.range w).map fun j => .int (gRow m (fun i => T i j)))) := by
    intro x
    unfold m_law_real_c4
    refine comp_all (fun i : Nat => D.int i) _ (List.range w) (by simp only [bnd_some, bnd_none, p_dc, p_dv, lk_z, lk_s, st_z, st_s, un_z, un_s, wipe_n, wipe_c, p_d2, p_d1, p_dnil, p_dcons, p_dL, p_asB, p_asI, p_asL, p_asSeqL, p_asSeqT, p_bV, p_dB, p_bAnd, p_bOr, p_bNot, p_dIf, p_dAnd, p_dOr, p_dNot, p_dCh, p_bYes, p_gN, p_gT, p_gsNil, p_gsCons, p_dNx, p_dRet, p_dSet, p_dIfS, p_dAsg, p_dPar, p_dAug, p_dApp, p_dSetIx, p_nLst, p_nRep, p_nOf, p_dSetN, p_dParN1, p_dParNN, p_iSeq, p_iRng1, p_iRng2, p_oNo, p_oIx, p_dSl, p_asIx, p_opTup, p_opLst, p_lenT, p_lenL, p_lenS, p_tupT, p_tupL, p_add, p_sub, p_mul, p_lt, p_le, p_gt, p_ge, p_eqI, p_neI, p_isN, p_isnN, p_isB, p_isnB, p_isNone_n, p_isNone_i, p_isNone_t, p_isNone_l, p_appL, p_appT, b_mc, b_mn, b_ac, b_an, b_rs, b_rz, b_lc, b_ln, b_it, b_if, b_itt, b_iff, p_dSeq, p_eqB, p_neB, len_eT, len_eR, len_eV, isNone_eO, seq_eT, seq_eR, seq_eV, seq_eL, eO_some, eO_none, len_eL, ↓p_eqN, ↓p_neN, ↓p_ltN, ↓p_leN, ↓p_gtN, ↓p_geN, ix_eT0 hm, rng1 (n := w) (by omega)]) (by simp; omega) ?_
    intro j hj
    have hj := List.mem_range.mp hj
    refine ⟨_, rfl, ?_⟩
    have := common_m (es := colE m w T j) (pe _ fun p hp => (List.mem_filter.mp hp).1)
    rw [comL_col hj] at this
    simp only [bnd_some, bnd_none, p_dc, p_dv, lk_z, lk_s, st_z, st_s, un_z, un_s, wipe_n, wipe_c, p_d2, p_d1, p_dnil, p_dcons, p_dL, p_asB, p_asI, p_asL, p_asSeqL, p_asSeqT, p_bV, p_dB, p_bAnd, p_bOr, p_bNot, p_dIf, p_dAnd, p_dOr, p_dNot, p_dCh, p_bYes, p_gN, p_gT, p_gsNil, p_gsCons, p_dNx, p_dRet, p_dSet, p_dIfS, p_dAsg, p_dPar, p_dAug, p_dApp, p_dSetIx, p_nLst, p_nRep, p_nOf, p_dSetN, p_dParN1, p_dParNN, p_iSeq, p_iRng1, p_iRng2, p_oNo, p_oIx, p_dSl, p_asIx, p_opTup, p_opLst, p_lenT, p_lenL, p_lenS, p_tupT, p_tupL, p_add, p_sub, p_mul, p_lt, p_le, p_gt, p_ge, p_eqI, p_neI, p_isN, p_isnN, p_isB, p_isnB, p_isNone_n, p_isNone_i, p_isNone_t, p_isNone_l, p_appL, p_appT, b_mc, b_mn, b_ac, b_an, b_rs, b_rz, b_lc, b_ln, b_it, b_if, b_itt, b_iff, p_dSeq, p_eqB, p_neB, len_eT, len_eR, len_eV, isNone_eO, seq_eT, seq_eR, seq_eV, seq_eL, eO_some, eO_none, len_eL, ↓p_eqN, ↓p_neN, ↓p_ltN, ↓p_leN, ↓p_gtN, ↓p_geN, c3, this]
  have ft := fits_m (R := fun i => gRow w (T i)) (C := fun j => gRow m (fun i => T i j)) (dr := .lst ((List.range m).map fun i => .int (gRow w (T i)))) (dc := .lst ((List.range w).map fun j => .int (gRow m (fun i => T i j)))) h
    (fun i hi => ixRL hi) (fun j hj => ixRL hj) (fun p hp => by
      obtain ⟨e, he, p1, p2⟩ := kp_some hp
      exact ⟨gRow_pos p2 he (h.bd _ _ _ he).1, gRow_le (fun j e q => h.bd _ j e q) w⟩) (fun p hp => gRow_le (fun i e q => h.bd i _ e q) m)
  rw [fits_real (fun _ _ => rfl) (fun _ _ => rfl)] at ft
  exact run_rt rfl (by simp only [bnd_some, bnd_none, p_dc, p_dv, lk_z, lk_s, st_z, st_s, un_z, un_s, wipe_n, wipe_c, p_d2, p_d1, p_dnil, p_dcons, p_dL, p_asB, p_asI, p_asL, p_asSeqL, p_asSeqT, p_bV, p_dB, p_bAnd, p_bOr, p_bNot, p_dIf, p_dAnd, p_dOr, p_dNot, p_dCh, p_bYes, p_gN, p_gT, p_gsNil, p_gsCons, p_dNx, p_dRet, p_dSet, p_dIfS, p_dAsg, p_dPar, p_dAug, p_dApp, p_dSetIx, p_nLst, p_nRep, p_nOf, p_dSetN, p_dParN1, p_dParNN, p_iSeq, p_iRng1, p_iRng2, p_oNo, p_oIx, p_dSl, p_asIx, p_opTup, p_opLst, p_lenT, p_lenL, p_lenS, p_tupT, p_tupL, p_add, p_sub, p_mul, p_lt, p_le, p_gt, p_ge, p_eqI, p_neI, p_isN, p_isnN, p_isB, p_isnB, p_isNone_n, p_isNone_i, p_isNone_t, p_isNone_l, p_appL, p_appT, b_mc, b_mn, b_ac, b_an, b_rs, b_rz, b_lc, b_ln, b_it, b_if, b_itt, b_iff, p_dSeq, p_eqB, p_neB, len_eT, len_eR, len_eV, isNone_eO, seq_eT, seq_eR, seq_eV, seq_eL, eO_some, eO_none, len_eL, ↓p_eqN, ↓p_neN, ↓p_ltN, ↓p_leN, ↓p_gtN, ↓p_geN, Nat.reduceSub, hk, c2, c4, ft])
end Mi
namespace Mi
open DL
def divs (n : Nat) : List Nat := ((List.range n).filter fun i => decide (n % (i + 1) = 0)).map (· + 1)
theorem mem_divs {n d : Nat} (hn : 0 < n) : d ∈ divs n ↔ d ∣ n := by
  unfold divs
  simp only [List.mem_map, List.mem_filter, List.mem_range, decide_eq_true_eq]
  constructor
  · rintro ⟨i, ⟨_, h⟩, rfl⟩
    exact Nat.dvd_of_mod_eq_zero h
  · intro h
    have h1 := Nat.le_of_dvd hn h
    have h2 := Nat.pos_of_dvd_of_pos h hn
    exact ⟨d - 1, ⟨by omega, by rw [Nat.sub_add_cancel h2]; exact Nat.mod_eq_zero_of_dvd h⟩, by omega⟩
theorem divs_len_le (n : Nat) : (divs n).length ≤ n := by
  unfold divs
  rw [List.length_map]
  exact Nat.le_trans (List.length_filter_le _ _) (by simp)
theorem divisors_m {n : Nat} (hn : n ≤ 1000000000) (hl : (divs n).length ≤ 16777216) : m_law_divisors [.int n] = some (eL (divs n)) := by
  refine run_rt rfl ?_
  have r : opRng2 [.int 1, .int ((n : Int) + 1)] = some ((List.range n).map fun i : Nat => D.int (1 + (i : Int))) := by
    have h : (-4611686018427387904 : Int) ≤ 1 ∧ (1 : Int) < 4611686018427387904 ∧ (-4611686018427387904 : Int) ≤ (n : Int) + 1 ∧ (n : Int) + 1 < 4611686018427387904 := by omega
    have e : ((n : Int) + 1 - 1).toNat = n := by omega
    simp only [opRng2, if_pos h, rngD, e]
  have c : m_law_divisors_c1 [some (.int n), none] = some (eL (divs n)) := by
    unfold m_law_divisors_c1 dComp
    have i1 : (iRng2 (dcons (dc (.int 1)) (dcons (d2 opAdd (dv 0) (dc (.int 1))) dnil))) [some (.int n), none] = some ((List.range n).map fun i : Nat => D.int (1 + (i : Int))) := by
      simp only [bnd_some, bnd_none, p_dc, p_dv, lk_z, lk_s, st_z, st_s, un_z, un_s, wipe_n, wipe_c, p_d2, p_d1, p_dnil, p_dcons, p_dL, p_asB, p_asI, p_asL, p_asSeqL, p_asSeqT, p_bV, p_dB, p_bAnd, p_bOr, p_bNot, p_dIf, p_dAnd, p_dOr, p_dNot, p_dCh, p_bYes, p_gN, p_gT, p_gsNil, p_gsCons, p_dNx, p_dRet, p_dSet, p_dIfS, p_dAsg, p_dPar, p_dAug, p_dApp, p_dSetIx, p_nLst, p_nRep, p_nOf, p_dSetN, p_dParN1, p_dParNN, p_iSeq, p_iRng1, p_iRng2, p_oNo, p_oIx, p_dSl, p_asIx, p_opTup, p_opLst, p_lenT, p_lenL, p_lenS, p_tupT, p_tupL, p_add, p_sub, p_mul, p_lt, p_le, p_gt, p_ge, p_eqI, p_neI, p_isN, p_isnN, p_isB, p_isnB, p_isNone_n, p_isNone_i, p_isNone_t, p_isNone_l, p_appL, p_appT, b_mc, b_mn, b_ac, b_an, b_rs, b_rz, b_lc, b_ln, b_it, b_if, b_itt, b_iff, p_dSeq, p_eqB, p_neB, len_eT, len_eR, len_eV, isNone_eO, seq_eT, seq_eR, seq_eV, seq_eL, eO_some, eO_none, len_eL, ↓p_eqN, ↓p_neN, ↓p_ltN, ↓p_leN, ↓p_gtN, ↓p_geN, r]
    rw [i1]
    simp only [Option.bind_some]
    rw [compL_map (fun i : Nat => D.int (1 + (i : Int))) (fun i => decide (n % (i + 1) = 0)) (fun i => D.int ((i + 1 : Nat) : Int)) (List.range n) (by
      intro i _
      have e1 : (1 : Int) + i = ((i + 1 : Nat) : Int) := by omega
      have m1 := mod_n (a := n) (b := i + 1) (by omega)
      have z : (((n % (i + 1) : Nat) : Int) = 0) ↔ n % (i + 1) = 0 := by omega
      refine ⟨_, rfl, ?_, fun _ => ?_⟩
      · simp only [bnd_some, bnd_none, p_dc, p_dv, lk_z, lk_s, st_z, st_s, un_z, un_s, wipe_n, wipe_c, p_d2, p_d1, p_dnil, p_dcons, p_dL, p_asB, p_asI, p_asL, p_asSeqL, p_asSeqT, p_bV, p_dB, p_bAnd, p_bOr, p_bNot, p_dIf, p_dAnd, p_dOr, p_dNot, p_dCh, p_bYes, p_gN, p_gT, p_gsNil, p_gsCons, p_dNx, p_dRet, p_dSet, p_dIfS, p_dAsg, p_dPar, p_dAug, p_dApp, p_dSetIx, p_nLst, p_nRep, p_nOf, p_dSetN, p_dParN1, p_dParNN, p_iSeq, p_iRng1, p_iRng2, p_oNo, p_oIx, p_dSl, p_asIx, p_opTup, p_opLst, p_lenT, p_lenL, p_lenS, p_tupT, p_tupL, p_add, p_sub, p_mul, p_lt, p_le, p_gt, p_ge, p_eqI, p_neI, p_isN, p_isnN, p_isB, p_isnB, p_isNone_n, p_isNone_i, p_isNone_t, p_isNone_l, p_appL, p_appT, b_mc, b_mn, b_ac, b_an, b_rs, b_rz, b_lc, b_ln, b_it, b_if, b_itt, b_iff, p_dSeq, p_eqB, p_neB, len_eT, len_eR, len_eV, isNone_eO, seq_eT, seq_eR, seq_eV, seq_eL, eO_some, eO_none, len_eL, ↓p_eqN, ↓p_neN, ↓p_ltN, ↓p_leN, ↓p_gtN, ↓p_geN, e1, m1, z]
      · simp only [bnd_some, bnd_none, p_dc, p_dv, lk_z, lk_s, st_z, st_s, un_z, un_s, wipe_n, wipe_c, p_d2, p_d1, p_dnil, p_dcons, p_dL, p_asB, p_asI, p_asL, p_asSeqL, p_asSeqT, p_bV, p_dB, p_bAnd, p_bOr, p_bNot, p_dIf, p_dAnd, p_dOr, p_dNot, p_dCh, p_bYes, p_gN, p_gT, p_gsNil, p_gsCons, p_dNx, p_dRet, p_dSet, p_dIfS, p_dAsg, p_dPar, p_dAug, p_dApp, p_dSetIx, p_nLst, p_nRep, p_nOf, p_dSetN, p_dParN1, p_dParNN, p_iSeq, p_iRng1, p_iRng2, p_oNo, p_oIx, p_dSl, p_asIx, p_opTup, p_opLst, p_lenT, p_lenL, p_lenS, p_tupT, p_tupL, p_add, p_sub, p_mul, p_lt, p_le, p_gt, p_ge, p_eqI, p_neI, p_isN, p_isnN, p_isB, p_isnB, p_isNone_n, p_isNone_i, p_isNone_t, p_isNone_l, p_appL, p_appT, b_mc, b_mn, b_ac, b_an, b_rs, b_rz, b_lc, b_ln, b_it, b_if, b_itt, b_iff, p_dSeq, p_eqB, p_neB, len_eT, len_eR, len_eV, isNone_eO, seq_eT, seq_eR, seq_eV, seq_eL, eO_some, eO_none, len_eL, ↓p_eqN, ↓p_neN, ↓p_ltN, ↓p_leN, ↓p_gtN, ↓p_geN, e1])]
    simp only [Option.bind_some]
    have e2 : ((List.range n).filter fun i => decide (n % (i + 1) = 0)).map (fun i => D.int ((i + 1 : Nat) : Int)) = (divs n).map fun k : Nat => D.int k := by
      unfold divs
      rw [List.map_map]
      rfl
    rw [e2, lstOk_le (by rw [List.length_map]; exact hl)]
    rfl
  simp only [bnd_some, bnd_none, p_dc, p_dv, lk_z, lk_s, st_z, st_s, un_z, un_s, wipe_n, wipe_c, p_d2, p_d1, p_dnil, p_dcons, p_dL, p_asB, p_asI, p_asL, p_asSeqL, p_asSeqT, p_bV, p_dB, p_bAnd, p_bOr, p_bNot, p_dIf, p_dAnd, p_dOr, p_dNot, p_dCh, p_bYes, p_gN, p_gT, p_gsNil, p_gsCons, p_dNx, p_dRet, p_dSet, p_dIfS, p_dAsg, p_dPar, p_dAug, p_dApp, p_dSetIx, p_nLst, p_nRep, p_nOf, p_dSetN, p_dParN1, p_dParNN, p_iSeq, p_iRng1, p_iRng2, p_oNo, p_oIx, p_dSl, p_asIx, p_opTup, p_opLst, p_lenT, p_lenL, p_lenS, p_tupT, p_tupL, p_add, p_sub, p_mul, p_lt, p_le, p_gt, p_ge, p_eqI, p_neI, p_isN, p_isnN, p_isB, p_isnB, p_isNone_n, p_isNone_i, p_isNone_t, p_isNone_l, p_appL, p_appT, b_mc, b_mn, b_ac, b_an, b_rs, b_rz, b_lc, b_ln, b_it, b_if, b_itt, b_iff, p_dSeq, p_eqB, p_neB, len_eT, len_eR, len_eV, isNone_eO, seq_eT, seq_eR, seq_eV, seq_eL, eO_some, eO_none, len_eL, ↓p_eqN, ↓p_neN, ↓p_ltN, ↓p_leN, ↓p_gtN, ↓p_geN, Nat.reduceSub, c]
end Mi
namespace Mi
open DL
structure Cov (m w : Nat) (T : Nat → Nat → Option Nat) : Prop where
  row : ∀ i, i < m → ∃ j, j < w ∧ ∃ e, T i j = some e
  col : ∀ j, j < w → ∃ i, i < m ∧ ∃ e, T i j = some e
end Mi
namespace Mi
open DL
end Mi
namespace Mi
def IsP (p : Nat) : Prop := 2 ≤ p ∧ ∀ d, d ∣ p → d = 1 ∨ d = p
theorem IsP.two {p : Nat} (h : IsP p) : 2 ≤ p := h.1
theorem exP (n : Nat) (hn : 2 ≤ n) : ∃ p, IsP p ∧ p ∣ n := by
  have gen : ∀ k n, n ≤ k → 2 ≤ n → ∃ p, IsP p ∧ p ∣ n := by
    intro k
    induction k with
    | zero => intro n h1 h2; omega
    | succ k ih =>
      intro n h1 h2
      by_cases q : ∀ d, d ∣ n → d = 1 ∨ d = n
      · exact ⟨n, ⟨h2, q⟩, Nat.dvd_refl n⟩
      · have : ∃ d, d ∣ n ∧ d ≠ 1 ∧ d ≠ n := by
          apply Classical.byContradiction
          intro z
          apply q
          intro d hd
          apply Classical.byContradiction
          intro y
          exact z ⟨d, hd, fun e => y (Or.inl e), fun e => y (Or.inr e)⟩
        obtain ⟨d, hd, d1, d2⟩ := this
        have hl := Nat.le_of_dvd (by omega) hd
        have hp := Nat.pos_of_dvd_of_pos hd (by omega)
        obtain ⟨p, h3, h4⟩ := ih d (by omega) (by omega)
        exact ⟨p, h3, Nat.dvd_trans h4 hd⟩
  exact gen n n (Nat.le_refl n) hn
theorem IsP.cop {p a : Nat} (h : IsP p) (ha : ¬ p ∣ a) : Nat.Coprime p a := by
  have h1 := h.2 _ (Nat.gcd_dvd_left p a)
  rcases h1 with e | e
  · exact e
  · exact absurd (by rw [← e]; exact Nat.gcd_dvd_right p a) ha
theorem IsP.dvd_mul {p a b : Nat} (h : IsP p) (hd : p ∣ a * b) : p ∣ a ∨ p ∣ b := by
  by_cases q : p ∣ a
  · exact Or.inl q
  · exact Or.inr (Nat.Coprime.dvd_of_dvd_mul_left (h.cop q) hd)
/-- how often p divides n -/
def ex (p n : Nat) : Nat := if h : 2 ≤ p ∧ 0 < n ∧ n % p = 0 then ex p (n / p) + 1 else 0
termination_by n
decreasing_by exact Nat.div_lt_self h.2.1 h.1
theorem ex_step {p n : Nat} (hp : 2 ≤ p) (hn : 0 < n) (h : p ∣ n) : ex p n = ex p (n / p) + 1 := by
  rw [ex]
  simp [hp, hn, Nat.mod_eq_zero_of_dvd h]
theorem ex_stop {p n : Nat} (h : ¬ p ∣ n) : ex p n = 0 := by
  rw [ex]
  have : ¬ (2 ≤ p ∧ 0 < n ∧ n % p = 0) := fun z => h (Nat.dvd_of_mod_eq_zero z.2.2)
  simp [this]
theorem pow_dvd_ex {p : Nat} (hp : 2 ≤ p) : ∀ (n : Nat), 0 < n → ∀ k, p ^ k ∣ n ↔ k ≤ ex p n := by
  intro n
  induction n using Nat.strongRecOn with
  | _ n ih =>
    intro hn k
    by_cases h : p ∣ n
    · rw [ex_step hp hn h]
      obtain ⟨m, rfl⟩ := h
      have m0 : 0 < m := Nat.pos_of_ne_zero fun z => by subst z; simp at hn
      have e : p * m / p = m := Nat.mul_div_cancel_left m (by omega)
      rw [e]
      cases k with
      | zero => simp
      | succ k =>
        have hl : m < p * m := by
          calc m = 1 * m := (Nat.one_mul m).symm
            _ < p * m := Nat.mul_lt_mul_of_pos_right (by omega) m0
        rw [Nat.pow_succ, Nat.mul_comm, Nat.mul_dvd_mul_iff_left (by omega), ih m hl m0 k]
        omega
    · rw [ex_stop h]
      cases k with
      | zero => simp
      | succ k =>
        constructor
        · intro z
          exact absurd (Nat.dvd_trans ⟨p ^ k, by rw [Nat.pow_succ, Nat.mul_comm]⟩ z) h
        · intro z; omega
theorem ex_le_of_dvd {p a b : Nat} (hp : 2 ≤ p) (hb : 0 < b) (h : a ∣ b) : ex p a ≤ ex p b := by
  have ha := Nat.pos_of_dvd_of_pos h hb
  rw [← pow_dvd_ex hp b hb]
  exact Nat.dvd_trans ((pow_dvd_ex hp a ha _).mpr (Nat.le_refl _)) h
theorem pow_ex_dvd {p n : Nat} (hp : 2 ≤ p) (hn : 0 < n) : p ^ ex p n ∣ n := (pow_dvd_ex hp n hn _).mpr (Nat.le_refl _)
theorem ex_pos {p n : Nat} (hp : 2 ≤ p) (hn : 0 < n) : 0 < ex p n ↔ p ∣ n := by
  rw [← Nat.succ_le_iff, ← pow_dvd_ex hp n hn]
  simp
theorem ex_mul {p : Nat} (h : IsP p) : ∀ (a : Nat), 0 < a → ∀ b, 0 < b → ex p (a * b) = ex p a + ex p b := by
  intro a
  induction a using Nat.strongRecOn with
  | _ a ih =>
    intro ha b hb
    by_cases q : p ∣ a
    · obtain ⟨m, rfl⟩ := q
      have hp := h.two
      have m0 : 0 < m := Nat.pos_of_ne_zero fun z => by subst z; simp at ha
      have hl : m < p * m := by
        calc m = 1 * m := (Nat.one_mul m).symm
          _ < p * m := Nat.mul_lt_mul_of_pos_right (by omega) m0
      rw [ex_step hp ha ⟨m, rfl⟩, ex_step hp (Nat.mul_pos ha hb) ⟨m * b, by rw [Nat.mul_assoc]⟩, Nat.mul_assoc, Nat.mul_div_cancel_left _ (show 0 < p by omega), Nat.mul_div_cancel_left _ (show 0 < p by omega), ih m hl m0 b hb]
      omega
    · rw [ex_stop q, Nat.zero_add]
      -- p does not divide a
      have gen : ∀ b, 0 < b → ex p (a * b) = ex p b := by
        intro b
        induction b using Nat.strongRecOn with
        | _ b ihb =>
          intro hb
          have hp := h.two
          by_cases qb : p ∣ b
          · obtain ⟨m, rfl⟩ := qb
            have m0 : 0 < m := Nat.pos_of_ne_zero fun z => by subst z; simp at hb
            have hl : m < p * m := by
              calc m = 1 * m := (Nat.one_mul m).symm
                _ < p * m := Nat.mul_lt_mul_of_pos_right (by omega) m0
            rw [ex_step hp hb ⟨m, rfl⟩, ex_step hp (Nat.mul_pos ha hb) ⟨a * m, by ac_rfl⟩, show a * (p * m) = p * (a * m) by ac_rfl, Nat.mul_div_cancel_left _ (show 0 < p by omega), Nat.mul_div_cancel_left _ (show 0 < p by omega), ihb m hl m0]
          · rw [ex_stop qb, ex_stop fun z => (h.dvd_mul z).elim q qb]
      exact gen b hb
theorem ex_gcd {p a b : Nat} (hp : 2 ≤ p) (ha : 0 < a) (hb : 0 < b) : ex p (Nat.gcd a b) = min (ex p a) (ex p b) := by
  have hg : 0 < Nat.gcd a b := Nat.gcd_pos_of_pos_left b ha
  apply Nat.le_antisymm
  · exact Nat.le_min.mpr ⟨ex_le_of_dvd hp ha (Nat.gcd_dvd_left _ _), ex_le_of_dvd hp hb (Nat.gcd_dvd_right _ _)⟩
  · rw [← pow_dvd_ex hp _ hg]
    exact Nat.dvd_gcd ((pow_dvd_ex hp a ha _).mpr (Nat.min_le_left _ _)) ((pow_dvd_ex hp b hb _).mpr (Nat.min_le_right _ _))
theorem ex_lcm {p a b : Nat} (h : IsP p) (ha : 0 < a) (hb : 0 < b) : ex p (Nat.lcm a b) = max (ex p a) (ex p b) := by
  have hg : 0 < Nat.gcd a b := Nat.gcd_pos_of_pos_left b ha
  have hl : 0 < Nat.lcm a b := Nat.lcm_pos ha hb
  have e1 := ex_mul h _ hg _ hl
  rw [Nat.gcd_mul_lcm, ex_mul h a ha b hb, ex_gcd h.two ha hb] at e1
  omega
/-- divisibility by exponents -/
theorem dvd_of_ex {a b : Nat} (ha : 0 < a) (hb : 0 < b) (h : ∀ p, IsP p → ex p a ≤ ex p b) : a ∣ b := by
  have hg : 0 < Nat.gcd a b := Nat.gcd_pos_of_pos_left b ha
  obtain ⟨c, hc⟩ := Nat.gcd_dvd_left a b
  have c0 : 0 < c := Nat.pos_of_ne_zero fun z => by rw [z, Nat.mul_zero] at hc; omega
  by_cases c1 : c = 1
  · rw [c1, Nat.mul_one] at hc
    rw [hc]
    exact Nat.gcd_dvd_right a b
  · exfalso
    obtain ⟨p, hp, hd⟩ := exP c (by omega)
    have e1 : ex p a = ex p (Nat.gcd a b) + ex p c := by
      have := ex_mul hp _ hg _ c0
      rw [← hc] at this
      exact this
    have e2 := ex_gcd hp.two ha hb
    have e3 := h p hp
    have e4 := (ex_pos hp.two c0).mpr hd
    omega
theorem eq_of_ex {a b : Nat} (ha : 0 < a) (hb : 0 < b) (h : ∀ p, IsP p → ex p a = ex p b) : a = b :=
  Nat.dvd_antisymm (dvd_of_ex ha hb fun p hp => Nat.le_of_eq (h p hp)) (dvd_of_ex hb ha fun p hp => Nat.le_of_eq (h p hp).symm)
theorem ex_pow_self {p : Nat} (hp : 2 ≤ p) (k : Nat) : ex p (p ^ k) = k := by
  have h0 : 0 < p ^ k := Nat.pow_pos (by omega)
  apply Nat.le_antisymm
  · have h1 := pow_ex_dvd hp h0
    exact (Nat.pow_le_pow_iff_right (by omega)).mp (Nat.le_of_dvd h0 h1)
  · rw [← pow_dvd_ex hp _ h0]
    exact Nat.dvd_refl _
theorem IsP.eq_of_dvd_pow {p q k : Nat} (hp : IsP p) (hq : IsP q) (h : p ∣ q ^ k) : p = q := by
  induction k with
  | zero =>
    have := Nat.le_of_dvd (by simp) h
    have := hp.two
    simp at *
    omega
  | succ k ih =>
    rw [Nat.pow_succ] at h
    rcases hp.dvd_mul h with z | z
    · exact ih z
    · rcases hq.2 p z with e | e
      · have := hp.two; omega
      · exact e
theorem ex_pow_other {p q k : Nat} (hp : IsP p) (hq : IsP q) (h : p ≠ q) : ex p (q ^ k) = 0 := ex_stop fun z => h (hp.eq_of_dvd_pow hq z)
theorem pow_dvd_lcm {p k a b : Nat} (h : IsP p) (ha : 0 < a) (hb : 0 < b) : p ^ k ∣ Nat.lcm a b ↔ p ^ k ∣ a ∨ p ^ k ∣ b := by
  rw [pow_dvd_ex h.two _ (Nat.lcm_pos ha hb), pow_dvd_ex h.two a ha, pow_dvd_ex h.two b hb, ex_lcm h ha hb]
  omega
/-- a divides b if all its prime powers do -/
theorem dvd_iff_pow {a b : Nat} (ha : 0 < a) (hb : 0 < b) : a ∣ b ↔ ∀ p, IsP p → p ^ ex p a ∣ b := by
  constructor
  · intro h p hp
    exact Nat.dvd_trans (pow_ex_dvd hp.two ha) h
  · intro h
    exact dvd_of_ex ha hb fun p hp => (pow_dvd_ex hp.two b hb _).mp (h p hp)
/-- divisors of a prime power -/
theorem dvd_pow_iff {p : Nat} (hp : IsP p) {d k : Nat} : d ∣ p ^ k ↔ ∃ s, s ≤ k ∧ d = p ^ s := by
  constructor
  · intro h
    have h0 : 0 < p ^ k := Nat.pow_pos (by have := hp.two; omega)
    have d0 := Nat.pos_of_dvd_of_pos h h0
    refine ⟨ex p d, ?_, ?_⟩
    · have := ex_le_of_dvd hp.two h0 h
      rwa [ex_pow_self hp.two] at this
    · refine eq_of_ex d0 (Nat.pow_pos (by have := hp.two; omega)) fun q hq => ?_
      by_cases e : q = p
      · subst e; rw [ex_pow_self hq.two]
      · rw [ex_pow_other hq hp e]
        have := ex_le_of_dvd hq.two h0 h
        rw [ex_pow_other hq hp e] at this
        omega
  · rintro ⟨s, h, rfl⟩
    exact Nat.pow_dvd_pow p h
end Mi
namespace Mi
open DL
theorem z_nat (n : Nat) : opEq (.int (n : Int)) (.int 0) = some (.bl (decide (n = 0))) := p_eqN n 0
theorem exponent_m {p n : Nat} (hp : 2 ≤ p) (hp2 : p < 18446744073709551616) (hn : 0 < n) (hn2 : n ≤ 1000000000000000000) : m_exponent [.int p, .int n] = some (.int (ex p n)) := by
  obtain ⟨ρ', h1, h2⟩ := dWhile_m (t := (bV (d2 opEq (d2 opMod (dv 1) (dv 0)) (dc (.int 0))))) (b := m_exponent_b1)
    (fun k ρ => ∃ x f : Nat, ρ = [some (.int p), some (.int x), some (.int f)] ∧ 0 < x ∧ x = k ∧ ex p x + f = ex p n) (fun ρ => ∃ x, ρ = [some (.int p), x, some (.int (ex p n))]) (k := n) (ρ := [some (.int p), some (.int n), some (.int 0)]) ⟨n, 0, rfl, hn, rfl, rfl⟩ (by omega) (by
      rintro k ρ ⟨x, f, rfl, hx, rfl, he⟩
      have md := mod_n (a := x) (b := p) (by omega)
      refine ⟨decide (x % p = 0), by simp only [bnd_some, bnd_none, p_dc, p_dv, lk_z, lk_s, st_z, st_s, un_z, un_s, wipe_n, wipe_c, p_d2, p_d1, p_dnil, p_dcons, p_dL, p_asB, p_asI, p_asL, p_asSeqL, p_asSeqT, p_bV, p_dB, p_bAnd, p_bOr, p_bNot, p_dIf, p_dAnd, p_dOr, p_dNot, p_dCh, p_bYes, p_gN, p_gT, p_gsNil, p_gsCons, p_dNx, p_dRet, p_dSet, p_dIfS, p_dAsg, p_dPar, p_dAug, p_dApp, p_dSetIx, p_nLst, p_nRep, p_nOf, p_dSetN, p_dParN1, p_dParNN, p_iSeq, p_iRng1, p_iRng2, p_oNo, p_oIx, p_dSl, p_asIx, p_opTup, p_opLst, p_lenT, p_lenL, p_lenS, p_tupT, p_tupL, p_add, p_sub, p_mul, p_lt, p_le, p_gt, p_ge, p_eqI, p_neI, p_isN, p_isnN, p_isB, p_isnB, p_isNone_n, p_isNone_i, p_isNone_t, p_isNone_l, p_appL, p_appT, b_mc, b_mn, b_ac, b_an, b_rs, b_rz, b_lc, b_ln, b_it, b_if, b_itt, b_iff, p_dSeq, p_eqB, p_neB, len_eT, len_eR, len_eV, isNone_eO, seq_eT, seq_eR, seq_eV, seq_eL, eO_some, eO_none, len_eL, ↓p_eqN, ↓p_neN, ↓p_ltN, ↓p_leN, ↓p_gtN, ↓p_geN, md, ↓z_nat], ?_, ?_⟩
      · intro h
        have h := of_decide_eq_true h
        have hd := Nat.dvd_of_mod_eq_zero h
        have dv := div_n (a := x) (b := p) (by omega) hp2
        have l := Nat.div_lt_self hx hp
        have p0 : 0 < x / p := Nat.div_pos (Nat.le_of_dvd hx hd) (by omega)
        refine ⟨x / p, [some (.int p), some (.int (x / p : Nat)), some (.int (f + 1 : Nat))], l, ?_, x / p, f + 1, rfl, p0, rfl, ?_⟩
        · simp only [m_exponent_b1, bnd_some, bnd_none, p_dc, p_dv, lk_z, lk_s, st_z, st_s, un_z, un_s, wipe_n, wipe_c, p_d2, p_d1, p_dnil, p_dcons, p_dL, p_asB, p_asI, p_asL, p_asSeqL, p_asSeqT, p_bV, p_dB, p_bAnd, p_bOr, p_bNot, p_dIf, p_dAnd, p_dOr, p_dNot, p_dCh, p_bYes, p_gN, p_gT, p_gsNil, p_gsCons, p_dNx, p_dRet, p_dSet, p_dIfS, p_dAsg, p_dPar, p_dAug, p_dApp, p_dSetIx, p_nLst, p_nRep, p_nOf, p_dSetN, p_dParN1, p_dParNN, p_iSeq, p_iRng1, p_iRng2, p_oNo, p_oIx, p_dSl, p_asIx, p_opTup, p_opLst, p_lenT, p_lenL, p_lenS, p_tupT, p_tupL, p_add, p_sub, p_mul, p_lt, p_le, p_gt, p_ge, p_eqI, p_neI, p_isN, p_isnN, p_isB, p_isnB, p_isNone_n, p_isNone_i, p_isNone_t, p_isNone_l, p_appL, p_appT, b_mc, b_mn, b_ac, b_an, b_rs, b_rz, b_lc, b_ln, b_it, b_if, b_itt, b_iff, p_dSeq, p_eqB, p_neB, len_eT, len_eR, len_eV, isNone_eO, seq_eT, seq_eR, seq_eV, seq_eL, eO_some, eO_none, len_eL, ↓p_eqN, ↓p_neN, ↓p_ltN, ↓p_leN, ↓p_gtN, ↓p_geN, dv]
          rfl
        · rw [ex_step hp hx hd] at he
          omega
      · intro h
        have h := of_decide_eq_false h
        rw [ex_stop fun z => h (Nat.mod_eq_zero_of_dvd z), Nat.zero_add] at he
        rw [he]
        exact ⟨_, rfl⟩)
  obtain ⟨x, rfl⟩ := h2
  exact run_rt rfl (by simp only [bnd_some, bnd_none, p_dc, p_dv, lk_z, lk_s, st_z, st_s, un_z, un_s, wipe_n, wipe_c, p_d2, p_d1, p_dnil, p_dcons, p_dL, p_asB, p_asI, p_asL, p_asSeqL, p_asSeqT, p_bV, p_dB, p_bAnd, p_bOr, p_bNot, p_dIf, p_dAnd, p_dOr, p_dNot, p_dCh, p_bYes, p_gN, p_gT, p_gsNil, p_gsCons, p_dNx, p_dRet, p_dSet, p_dIfS, p_dAsg, p_dPar, p_dAug, p_dApp, p_dSetIx, p_nLst, p_nRep, p_nOf, p_dSetN, p_dParN1, p_dParNN, p_iSeq, p_iRng1, p_iRng2, p_oNo, p_oIx, p_dSl, p_asIx, p_opTup, p_opLst, p_lenT, p_lenL, p_lenS, p_tupT, p_tupL, p_add, p_sub, p_mul, p_lt, p_le, p_gt, p_ge, p_eqI, p_neI, p_isN, p_isnN, p_isB, p_isnB, p_isNone_n, p_isNone_i, p_isNone_t, p_isNone_l, p_appL, p_appT, b_mc, b_mn, b_ac, b_an, b_rs, b_rz, b_lc, b_ln, b_it, b_if, b_itt, b_iff, p_dSeq, p_eqB, p_neB, len_eT, len_eR, len_eV, isNone_eO, seq_eT, seq_eR, seq_eV, seq_eL, eO_some, eO_none, len_eL, ↓p_eqN, ↓p_neN, ↓p_ltN, ↓p_leN, ↓p_gtN, ↓p_geN, Nat.reduceSub, h1])
theorem power_m {p t : Nat} (hp2 : p < 18446744073709551616) (ht : t ≤ 1000000000000000) : m_power [.int p, .int t] = some (.int ((p ^ t : Nat) : Int)) := by
  obtain ⟨ρ', h1, x, h2⟩ := for_range (g := gN 3) (b := m_power_b1) (fun i : Nat => D.int i) (fun i ρ => ∃ x, ρ = [some (.int p), some (.int t), some (.int ((p ^ i : Nat) : Int)), x]) t (ρ := [some (.int p), some (.int t), some (.int 1), none]) (by
    rintro i hi ρ ⟨x, rfl⟩
    have m := mul_n (a := p ^ i) hp2
    refine ⟨_, rfl, [some (.int p), some (.int t), some (.int ((p ^ (i + 1) : Nat) : Int)), some (.int i)], ?_, _, rfl⟩
    simp only [m_power_b1, bnd_some, bnd_none, p_dc, p_dv, lk_z, lk_s, st_z, st_s, un_z, un_s, wipe_n, wipe_c, p_d2, p_d1, p_dnil, p_dcons, p_dL, p_asB, p_asI, p_asL, p_asSeqL, p_asSeqT, p_bV, p_dB, p_bAnd, p_bOr, p_bNot, p_dIf, p_dAnd, p_dOr, p_dNot, p_dCh, p_bYes, p_gN, p_gT, p_gsNil, p_gsCons, p_dNx, p_dRet, p_dSet, p_dIfS, p_dAsg, p_dPar, p_dAug, p_dApp, p_dSetIx, p_nLst, p_nRep, p_nOf, p_dSetN, p_dParN1, p_dParNN, p_iSeq, p_iRng1, p_iRng2, p_oNo, p_oIx, p_dSl, p_asIx, p_opTup, p_opLst, p_lenT, p_lenL, p_lenS, p_tupT, p_tupL, p_add, p_sub, p_mul, p_lt, p_le, p_gt, p_ge, p_eqI, p_neI, p_isN, p_isnN, p_isB, p_isnB, p_isNone_n, p_isNone_i, p_isNone_t, p_isNone_l, p_appL, p_appT, b_mc, b_mn, b_ac, b_an, b_rs, b_rz, b_lc, b_ln, b_it, b_if, b_itt, b_iff, p_dSeq, p_eqB, p_neB, len_eT, len_eR, len_eV, isNone_eO, seq_eT, seq_eR, seq_eV, seq_eL, eO_some, eO_none, len_eL, ↓p_eqN, ↓p_neN, ↓p_ltN, ↓p_leN, ↓p_gtN, ↓p_geN, m]
    rfl) ⟨none, rfl⟩
  subst h2
  have f := (for_eq (it := iRng1 (dcons (dv 1) dnil)) (ρ := [some (.int p), some (.int t), some (.int 1), none]) (by simp only [bnd_some, bnd_none, p_dc, p_dv, lk_z, lk_s, st_z, st_s, un_z, un_s, wipe_n, wipe_c, p_d2, p_d1, p_dnil, p_dcons, p_dL, p_asB, p_asI, p_asL, p_asSeqL, p_asSeqT, p_bV, p_dB, p_bAnd, p_bOr, p_bNot, p_dIf, p_dAnd, p_dOr, p_dNot, p_dCh, p_bYes, p_gN, p_gT, p_gsNil, p_gsCons, p_dNx, p_dRet, p_dSet, p_dIfS, p_dAsg, p_dPar, p_dAug, p_dApp, p_dSetIx, p_nLst, p_nRep, p_nOf, p_dSetN, p_dParN1, p_dParNN, p_iSeq, p_iRng1, p_iRng2, p_oNo, p_oIx, p_dSl, p_asIx, p_opTup, p_opLst, p_lenT, p_lenL, p_lenS, p_tupT, p_tupL, p_add, p_sub, p_mul, p_lt, p_le, p_gt, p_ge, p_eqI, p_neI, p_isN, p_isnN, p_isB, p_isnB, p_isNone_n, p_isNone_i, p_isNone_t, p_isNone_l, p_appL, p_appT, b_mc, b_mn, b_ac, b_an, b_rs, b_rz, b_lc, b_ln, b_it, b_if, b_itt, b_iff, p_dSeq, p_eqB, p_neB, len_eT, len_eR, len_eV, isNone_eO, seq_eT, seq_eR, seq_eV, seq_eL, eO_some, eO_none, len_eL, ↓p_eqN, ↓p_neN, ↓p_ltN, ↓p_leN, ↓p_gtN, ↓p_geN, rng1 (n := t) (by omega)])).trans h1
  exact run_rt rfl (by simp only [bnd_some, bnd_none, p_dc, p_dv, lk_z, lk_s, st_z, st_s, un_z, un_s, wipe_n, wipe_c, p_d2, p_d1, p_dnil, p_dcons, p_dL, p_asB, p_asI, p_asL, p_asSeqL, p_asSeqT, p_bV, p_dB, p_bAnd, p_bOr, p_bNot, p_dIf, p_dAnd, p_dOr, p_dNot, p_dCh, p_bYes, p_gN, p_gT, p_gsNil, p_gsCons, p_dNx, p_dRet, p_dSet, p_dIfS, p_dAsg, p_dPar, p_dAug, p_dApp, p_dSetIx, p_nLst, p_nRep, p_nOf, p_dSetN, p_dParN1, p_dParNN, p_iSeq, p_iRng1, p_iRng2, p_oNo, p_oIx, p_dSl, p_asIx, p_opTup, p_opLst, p_lenT, p_lenL, p_lenS, p_tupT, p_tupL, p_add, p_sub, p_mul, p_lt, p_le, p_gt, p_ge, p_eqI, p_neI, p_isN, p_isnN, p_isB, p_isnB, p_isNone_n, p_isNone_i, p_isNone_t, p_isNone_l, p_appL, p_appT, b_mc, b_mn, b_ac, b_an, b_rs, b_rz, b_lc, b_ln, b_it, b_if, b_itt, b_iff, p_dSeq, p_eqB, p_neB, len_eT, len_eR, len_eV, isNone_eO, seq_eT, seq_eR, seq_eV, seq_eL, eO_some, eO_none, len_eL, ↓p_eqN, ↓p_neN, ↓p_ltN, ↓p_leN, ↓p_gtN, ↓p_geN, Nat.reduceSub, f])
/-- the primes of a number, ascending -/
def PrL (n : Nat) (l : List Nat) : Prop := l.Pairwise (· < ·) ∧ ∀ p, p ∈ l ↔ IsP p ∧ p ∣ n
theorem le_sq {a b : Nat} (h : a ≤ b) : a * a ≤ b * b := Nat.mul_le_mul h h
theorem prime_factors_m {n : Nat} (hn : 0 < n) (hn2 : n ≤ 1000000000000) : ∃ l, PrL n l ∧ (∀ p ∈ l, p ≤ n) ∧ m_prime_factors [.int n] = some (eL l) := by
  -- the inner loop
  have inner : ∀ (found : List Nat) (t x : Nat), 2 ≤ t → t ≤ x → t ≤ 1000000000000000 → 0 < x → x ≤ 1000000000000000 →
      ∃ ρ', dWhile (bV (d2 opEq (d2 opMod (dv 0) (dv 2)) (dc (.int 0)))) m_prime_factors_b1 [some (.int x), some (eL found), some (.int t)] = some (.nx ρ') ∧
        ∃ y : Nat, ρ' = [some (.int y), some (eL found), some (.int t)] ∧ 0 < y ∧ y ∣ x ∧ ¬ t ∣ y ∧ ∀ p, IsP p → p ∣ x → p ∣ t ∨ p ∣ y := by
    intro found t x ht htx ht2 hx hx2
    refine dWhile_m (fun k ρ => ∃ y : Nat, ρ = [some (.int y), some (eL found), some (.int t)] ∧ 0 < y ∧ y ∣ x ∧ y = k ∧ ∀ p, IsP p → p ∣ x → p ∣ t ∨ p ∣ y) _ (k := x) ⟨x, rfl, hx, Nat.dvd_refl x, rfl, fun p _ h => Or.inr h⟩ (by omega) ?_
    rintro k ρ ⟨y, rfl, hy, hyx, rfl, hp⟩
    have md := mod_n (a := y) (b := t) (by omega)
    refine ⟨decide (y % t = 0), by simp only [bnd_some, bnd_none, p_dc, p_dv, lk_z, lk_s, st_z, st_s, un_z, un_s, wipe_n, wipe_c, p_d2, p_d1, p_dnil, p_dcons, p_dL, p_asB, p_asI, p_asL, p_asSeqL, p_asSeqT, p_bV, p_dB, p_bAnd, p_bOr, p_bNot, p_dIf, p_dAnd, p_dOr, p_dNot, p_dCh, p_bYes, p_gN, p_gT, p_gsNil, p_gsCons, p_dNx, p_dRet, p_dSet, p_dIfS, p_dAsg, p_dPar, p_dAug, p_dApp, p_dSetIx, p_nLst, p_nRep, p_nOf, p_dSetN, p_dParN1, p_dParNN, p_iSeq, p_iRng1, p_iRng2, p_oNo, p_oIx, p_dSl, p_asIx, p_opTup, p_opLst, p_lenT, p_lenL, p_lenS, p_tupT, p_tupL, p_add, p_sub, p_mul, p_lt, p_le, p_gt, p_ge, p_eqI, p_neI, p_isN, p_isnN, p_isB, p_isnB, p_isNone_n, p_isNone_i, p_isNone_t, p_isNone_l, p_appL, p_appT, b_mc, b_mn, b_ac, b_an, b_rs, b_rz, b_lc, b_ln, b_it, b_if, b_itt, b_iff, p_dSeq, p_eqB, p_neB, len_eT, len_eR, len_eV, isNone_eO, seq_eT, seq_eR, seq_eV, seq_eL, eO_some, eO_none, len_eL, ↓p_eqN, ↓p_neN, ↓p_ltN, ↓p_leN, ↓p_gtN, ↓p_geN, md, ↓z_nat], ?_, ?_⟩
    · intro h
      have h := of_decide_eq_true h
      have hd := Nat.dvd_of_mod_eq_zero h
      have dv := div_n (a := y) (b := t) (by omega) (by omega)
      have l := Nat.div_lt_self hy ht
      have p0 : 0 < y / t := Nat.div_pos (Nat.le_of_dvd hy hd) (by omega)
      refine ⟨y / t, [some (.int (y / t : Nat)), some (eL found), some (.int t)], l, by simp only [m_prime_factors_b1, bnd_some, bnd_none, p_dc, p_dv, lk_z, lk_s, st_z, st_s, un_z, un_s, wipe_n, wipe_c, p_d2, p_d1, p_dnil, p_dcons, p_dL, p_asB, p_asI, p_asL, p_asSeqL, p_asSeqT, p_bV, p_dB, p_bAnd, p_bOr, p_bNot, p_dIf, p_dAnd, p_dOr, p_dNot, p_dCh, p_bYes, p_gN, p_gT, p_gsNil, p_gsCons, p_dNx, p_dRet, p_dSet, p_dIfS, p_dAsg, p_dPar, p_dAug, p_dApp, p_dSetIx, p_nLst, p_nRep, p_nOf, p_dSetN, p_dParN1, p_dParNN, p_iSeq, p_iRng1, p_iRng2, p_oNo, p_oIx, p_dSl, p_asIx, p_opTup, p_opLst, p_lenT, p_lenL, p_lenS, p_tupT, p_tupL, p_add, p_sub, p_mul, p_lt, p_le, p_gt, p_ge, p_eqI, p_neI, p_isN, p_isnN, p_isB, p_isnB, p_isNone_n, p_isNone_i, p_isNone_t, p_isNone_l, p_appL, p_appT, b_mc, b_mn, b_ac, b_an, b_rs, b_rz, b_lc, b_ln, b_it, b_if, b_itt, b_iff, p_dSeq, p_eqB, p_neB, len_eT, len_eR, len_eV, isNone_eO, seq_eT, seq_eR, seq_eV, seq_eL, eO_some, eO_none, len_eL, ↓p_eqN, ↓p_neN, ↓p_ltN, ↓p_leN, ↓p_gtN, ↓p_geN, dv], y / t, rfl, p0, Nat.dvd_trans (Nat.div_dvd_of_dvd hd) hyx, rfl, ?_⟩
      intro p hpp hpx
      rcases hp p hpp hpx with z | z
      · exact Or.inl z
      · rw [← Nat.mul_div_cancel' hd] at z
        exact hpp.dvd_mul z
    · intro h
      have h := of_decide_eq_false h
      exact ⟨y, rfl, hy, hyx, fun z => h (Nat.mod_eq_zero_of_dvd z), hp⟩
  obtain ⟨ρ', h1, found, x, t, h2, ht, hx, hxn, hsm, hall, hf, hpw, hsq⟩ := dWhile_m (t := (bV (d2 opLe (d2 opMul (dv 2) (dv 2)) (dv 0)))) (b := m_prime_factors_b2)
    (fun k ρ => ∃ (found : List Nat) (x t : Nat), ρ = [some (.int x), some (eL found), some (.int t)] ∧ 2 ≤ t ∧ 0 < x ∧ x ∣ n ∧ (∀ d, 2 ≤ d → d ∣ x → t ≤ d) ∧ (∀ p, IsP p → (p ∣ n ↔ p ∈ found ∨ p ∣ x)) ∧ (∀ p ∈ found, IsP p ∧ p < t ∧ p ∣ n) ∧ found.Pairwise (· < ·) ∧ t ≤ n + 2 ∧ (found.length < t ∧ t ≤ 1000001) ∧ k = n + 2 - t)
    (fun ρ => ∃ (found : List Nat) (x t : Nat), ρ = [some (.int x), some (eL found), some (.int t)] ∧ 2 ≤ t ∧ 0 < x ∧ x ∣ n ∧ (∀ d, 2 ≤ d → d ∣ x → t ≤ d) ∧ (∀ p, IsP p → (p ∣ n ↔ p ∈ found ∨ p ∣ x)) ∧ (∀ p ∈ found, IsP p ∧ p < t ∧ p ∣ n) ∧ found.Pairwise (· < ·) ∧ x < t * t ∧ found.length ≤ 1000000)
    (k := n) (ρ := [some (.int n), some (.lst []), some (.int 2)]) ⟨[], n, 2, rfl, by omega, hn, Nat.dvd_refl n, fun d h _ => h, fun p hp => by simp, by simp, List.Pairwise.nil, by omega, ⟨by simp, by omega⟩, by omega⟩ (by omega) (by
      rintro k ρ ⟨found, x, t, rfl, ht, hx, hxn, hsm, hall, hf, hpw, htn, ⟨hfl, hti⟩, rfl⟩
      have xl := Nat.le_of_dvd hn hxn
      have mt := mul_n (a := t) (b := t) (by omega)
      -- the found primes: few
      have fewer : found.length ≤ 1000000 := by omega
      refine ⟨decide (t * t ≤ x), by simp only [bnd_some, bnd_none, p_dc, p_dv, lk_z, lk_s, st_z, st_s, un_z, un_s, wipe_n, wipe_c, p_d2, p_d1, p_dnil, p_dcons, p_dL, p_asB, p_asI, p_asL, p_asSeqL, p_asSeqT, p_bV, p_dB, p_bAnd, p_bOr, p_bNot, p_dIf, p_dAnd, p_dOr, p_dNot, p_dCh, p_bYes, p_gN, p_gT, p_gsNil, p_gsCons, p_dNx, p_dRet, p_dSet, p_dIfS, p_dAsg, p_dPar, p_dAug, p_dApp, p_dSetIx, p_nLst, p_nRep, p_nOf, p_dSetN, p_dParN1, p_dParNN, p_iSeq, p_iRng1, p_iRng2, p_oNo, p_oIx, p_dSl, p_asIx, p_opTup, p_opLst, p_lenT, p_lenL, p_lenS, p_tupT, p_tupL, p_add, p_sub, p_mul, p_lt, p_le, p_gt, p_ge, p_eqI, p_neI, p_isN, p_isnN, p_isB, p_isnB, p_isNone_n, p_isNone_i, p_isNone_t, p_isNone_l, p_appL, p_appT, b_mc, b_mn, b_ac, b_an, b_rs, b_rz, b_lc, b_ln, b_it, b_if, b_itt, b_iff, p_dSeq, p_eqB, p_neB, len_eT, len_eR, len_eV, isNone_eO, seq_eT, seq_eR, seq_eV, seq_eL, eO_some, eO_none, len_eL, ↓p_eqN, ↓p_neN, ↓p_ltN, ↓p_leN, ↓p_gtN, ↓p_geN, mt], ?_, ?_⟩
      · intro h
        have h := of_decide_eq_true h
        have tx : t ≤ x := Nat.le_trans (Nat.le_mul_self t) h
        have tb : t ≤ 1000000 := by
          apply Classical.byContradiction
          intro z
          have := le_sq (show 1000001 ≤ t by omega)
          omega
        have md := mod_n (a := x) (b := t) (by omega)
        by_cases q : x % t = 0
        · have hd := Nat.dvd_of_mod_eq_zero q
          have hpt : IsP t := ⟨ht, fun d hdt => by
            by_cases d1 : d = 1
            · exact Or.inl d1
            · right
              have dp := Nat.pos_of_dvd_of_pos hdt (by omega)
              have := hsm d (by omega) (Nat.dvd_trans hdt hd)
              have := Nat.le_of_dvd (by omega) hdt
              omega⟩
          obtain ⟨ρ2, w1, y, w2, hy, hyx, hty, hpy⟩ := inner (found ++ [t]) t x ht tx (by omega) hx (by omega)
          subst w2
          have hl : (found.map fun n : Nat => D.int n).length < 16777216 := by rw [List.length_map]; omega
          have al : asL (eL found) = some (found.map fun n : Nat => D.int n) := rfl
          have el : D.lst ((found.map fun n : Nat => D.int n) ++ [.int t]) = eL (found ++ [t]) := by
            unfold eL
            rw [List.map_append]
            rfl
          refine ⟨n + 2 - (t + 1), [some (.int y), some (eL (found ++ [t])), some (.int (t + 1 : Nat))], by omega, ?_, found ++ [t], y, t + 1, rfl, by omega, hy, Nat.dvd_trans hyx hxn, ?_, ?_, ?_, ?_, by omega, ⟨by rw [List.length_append, List.length_singleton]; omega, by omega⟩, rfl⟩
          · simp only [m_prime_factors_b2, bnd_some, bnd_none, p_dc, p_dv, lk_z, lk_s, st_z, st_s, un_z, un_s, wipe_n, wipe_c, p_d2, p_d1, p_dnil, p_dcons, p_dL, p_asB, p_asI, p_asL, p_asSeqL, p_asSeqT, p_bV, p_dB, p_bAnd, p_bOr, p_bNot, p_dIf, p_dAnd, p_dOr, p_dNot, p_dCh, p_bYes, p_gN, p_gT, p_gsNil, p_gsCons, p_dNx, p_dRet, p_dSet, p_dIfS, p_dAsg, p_dPar, p_dAug, p_dApp, p_dSetIx, p_nLst, p_nRep, p_nOf, p_dSetN, p_dParN1, p_dParNN, p_iSeq, p_iRng1, p_iRng2, p_oNo, p_oIx, p_dSl, p_asIx, p_opTup, p_opLst, p_lenT, p_lenL, p_lenS, p_tupT, p_tupL, p_add, p_sub, p_mul, p_lt, p_le, p_gt, p_ge, p_eqI, p_neI, p_isN, p_isnN, p_isB, p_isnB, p_isNone_n, p_isNone_i, p_isNone_t, p_isNone_l, p_appL, p_appT, b_mc, b_mn, b_ac, b_an, b_rs, b_rz, b_lc, b_ln, b_it, b_if, b_itt, b_iff, p_dSeq, p_eqB, p_neB, len_eT, len_eR, len_eV, isNone_eO, seq_eT, seq_eR, seq_eV, seq_eL, eO_some, eO_none, len_eL, ↓p_eqN, ↓p_neN, ↓p_ltN, ↓p_leN, ↓p_gtN, ↓p_geN, md, ↓z_nat, decide_eq_true q, al, if_pos hl, el, w1]
            rfl
          · intro d d2 hdy
            have h1 := hsm d d2 (Nat.dvd_trans hdy hyx)
            by_cases e : d = t
            · exact absurd (e ▸ hdy) hty
            · omega
          · intro p hp
            rw [hall p hp]
            simp only [List.mem_append, List.mem_singleton]
            constructor
            · rintro (z | z)
              · exact Or.inl (Or.inl z)
              · rcases hpy p hp z with y1 | y1
                · rcases hpt.2 p y1 with e | e
                  · have := hp.two; omega
                  · exact Or.inl (Or.inr e)
                · exact Or.inr y1
            · rintro ((z | z) | z)
              · exact Or.inl z
              · rw [z]; exact Or.inr hd
              · exact Or.inr (Nat.dvd_trans z hyx)
          · intro p hp
            rcases List.mem_append.mp hp with z | z
            · have := hf p z
              exact ⟨this.1, by omega, this.2.2⟩
            · rw [List.mem_singleton.mp z]
              exact ⟨hpt, by omega, Nat.dvd_trans hd hxn⟩
          · rw [List.pairwise_append]
            refine ⟨hpw, List.pairwise_singleton _ _, fun a ha b hb => ?_⟩
            rw [List.mem_singleton.mp hb]
            exact (hf a ha).2.1
        · refine ⟨n + 2 - (t + 1), [some (.int x), some (eL found), some (.int (t + 1 : Nat))], by omega, ?_, found, x, t + 1, rfl, by omega, hx, hxn, ?_, hall, ?_, hpw, by omega, ⟨by omega, by omega⟩, rfl⟩
          · simp only [m_prime_factors_b2, bnd_some, bnd_none, p_dc, p_dv, lk_z, lk_s, st_z, st_s, un_z, un_s, wipe_n, wipe_c, p_d2, p_d1, p_dnil, p_dcons, p_dL, p_asB, p_asI, p_asL, p_asSeqL, p_asSeqT, p_bV, p_dB, p_bAnd, p_bOr, p_bNot, p_dIf, p_dAnd, p_dOr, p_dNot, p_dCh, p_bYes, p_gN, p_gT, p_gsNil, p_gsCons, p_dNx, p_dRet, p_dSet, p_dIfS, p_dAsg, p_dPar, p_dAug, p_dApp, p_dSetIx, p_nLst, p_nRep, p_nOf, p_dSetN, p_dParN1, p_dParNN, p_iSeq, p_iRng1, p_iRng2, p_oNo, p_oIx, p_dSl, p_asIx, p_opTup, p_opLst, p_lenT, p_lenL, p_lenS, p_tupT, p_tupL, p_add, p_sub, p_mul, p_lt, p_le, p_gt, p_ge, p_eqI, p_neI, p_isN, p_isnN, p_isB, p_isnB, p_isNone_n, p_isNone_i, p_isNone_t, p_isNone_l, p_appL, p_appT, b_mc, b_mn, b_ac, b_an, b_rs, b_rz, b_lc, b_ln, b_it, b_if, b_itt, b_iff, p_dSeq, p_eqB, p_neB, len_eT, len_eR, len_eV, isNone_eO, seq_eT, seq_eR, seq_eV, seq_eL, eO_some, eO_none, len_eL, ↓p_eqN, ↓p_neN, ↓p_ltN, ↓p_leN, ↓p_gtN, ↓p_geN, md, ↓z_nat, decide_eq_false q]
            rfl
          · intro d d2 hdx
            have h1 := hsm d d2 hdx
            by_cases e : d = t
            · exact absurd (Nat.mod_eq_zero_of_dvd (e ▸ hdx)) q
            · omega
          · intro p hp
            have := hf p hp
            exact ⟨this.1, by omega, this.2.2⟩
      · intro h
        have h := of_decide_eq_false h
        exact ⟨found, x, t, rfl, ht, hx, hxn, hsm, hall, hf, hpw, by omega, fewer⟩)
  subst h2
  have al : opAdd (eL found) (.lst [.int x]) = some (eL (found ++ [x])) := by
    have hl : (found.map fun n : Nat => D.int n).length + [D.int (x : Nat)].length ≤ 16777216 := by simp; omega
    show opAdd (.lst _) (.lst _) = _
    rw [p_appL, if_pos hl]
    unfold eL
    rw [List.map_append]
    rfl
  have g1 : opGt (.int x) (.int 1) = some (.bl (decide (1 < x))) := p_gtN x 1
  by_cases q : 1 < x
  · have hxp : IsP x := ⟨q, fun d hd => by
      by_cases d1 : d = 1
      · exact Or.inl d1
      · right
        have dp := Nat.pos_of_dvd_of_pos hd hx
        have dt := hsm d (by omega) hd
        obtain ⟨c, hc⟩ := hd
        by_cases c1 : c = 1
        · rw [hc, c1, Nat.mul_one]
        · have c0 : 0 < c := Nat.pos_of_ne_zero fun z => by rw [z, Nat.mul_zero] at hc; omega
          have ct := hsm c (by omega) ⟨d, by rw [hc, Nat.mul_comm]⟩
          have := Nat.mul_le_mul dt ct
          omega⟩
    have tx := hsm x q (Nat.dvd_refl x)
    have xn := Nat.le_of_dvd hn hxn
    refine ⟨found ++ [x], ⟨?_, ?_⟩, ?_, run_rt rfl (by simp only [bnd_some, bnd_none, p_dc, p_dv, lk_z, lk_s, st_z, st_s, un_z, un_s, wipe_n, wipe_c, p_d2, p_d1, p_dnil, p_dcons, p_dL, p_asB, p_asI, p_asL, p_asSeqL, p_asSeqT, p_bV, p_dB, p_bAnd, p_bOr, p_bNot, p_dIf, p_dAnd, p_dOr, p_dNot, p_dCh, p_bYes, p_gN, p_gT, p_gsNil, p_gsCons, p_dNx, p_dRet, p_dSet, p_dIfS, p_dAsg, p_dPar, p_dAug, p_dApp, p_dSetIx, p_nLst, p_nRep, p_nOf, p_dSetN, p_dParN1, p_dParNN, p_iSeq, p_iRng1, p_iRng2, p_oNo, p_oIx, p_dSl, p_asIx, p_opTup, p_opLst, p_lenT, p_lenL, p_lenS, p_tupT, p_tupL, p_add, p_sub, p_mul, p_lt, p_le, p_gt, p_ge, p_eqI, p_neI, p_isN, p_isnN, p_isB, p_isnB, p_isNone_n, p_isNone_i, p_isNone_t, p_isNone_l, p_appL, p_appT, b_mc, b_mn, b_ac, b_an, b_rs, b_rz, b_lc, b_ln, b_it, b_if, b_itt, b_iff, p_dSeq, p_eqB, p_neB, len_eT, len_eR, len_eV, isNone_eO, seq_eT, seq_eR, seq_eV, seq_eL, eO_some, eO_none, len_eL, ↓p_eqN, ↓p_neN, ↓p_ltN, ↓p_leN, ↓p_gtN, ↓p_geN, Nat.reduceSub, Nat.reduceAdd, Nat.reduceLeDiff, Nat.zero_le, h1, ↓g1, decide_eq_true q, al])⟩
    · rw [List.pairwise_append]
      refine ⟨hpw, List.pairwise_singleton _ _, fun a ha b hb => ?_⟩
      rw [List.mem_singleton.mp hb]
      have := (hf a ha).2.1
      omega
    · intro p
      simp only [List.mem_append, List.mem_singleton]
      constructor
      · rintro (z | z)
        · have := hf p z; exact ⟨this.1, this.2.2⟩
        · rw [z]; exact ⟨hxp, hxn⟩
      · rintro ⟨hp, hd⟩
        rcases (hall p hp).mp hd with z | z
        · exact Or.inl z
        · rcases hxp.2 p z with e | e
          · have := hp.two; omega
          · exact Or.inr e
    · intro p hp
      rcases List.mem_append.mp hp with z | z
      · exact Nat.le_of_dvd hn (hf p z).2.2
      · rw [List.mem_singleton.mp z]; exact xn
  · have x1 : x = 1 := by omega
    refine ⟨found, ⟨hpw, fun p => ⟨fun z => ⟨(hf p z).1, (hf p z).2.2⟩, fun z => ?_⟩⟩, fun p hp => Nat.le_of_dvd hn (hf p hp).2.2, run_rt rfl (by simp only [bnd_some, bnd_none, p_dc, p_dv, lk_z, lk_s, st_z, st_s, un_z, un_s, wipe_n, wipe_c, p_d2, p_d1, p_dnil, p_dcons, p_dL, p_asB, p_asI, p_asL, p_asSeqL, p_asSeqT, p_bV, p_dB, p_bAnd, p_bOr, p_bNot, p_dIf, p_dAnd, p_dOr, p_dNot, p_dCh, p_bYes, p_gN, p_gT, p_gsNil, p_gsCons, p_dNx, p_dRet, p_dSet, p_dIfS, p_dAsg, p_dPar, p_dAug, p_dApp, p_dSetIx, p_nLst, p_nRep, p_nOf, p_dSetN, p_dParN1, p_dParNN, p_iSeq, p_iRng1, p_iRng2, p_oNo, p_oIx, p_dSl, p_asIx, p_opTup, p_opLst, p_lenT, p_lenL, p_lenS, p_tupT, p_tupL, p_add, p_sub, p_mul, p_lt, p_le, p_gt, p_ge, p_eqI, p_neI, p_isN, p_isnN, p_isB, p_isnB, p_isNone_n, p_isNone_i, p_isNone_t, p_isNone_l, p_appL, p_appT, b_mc, b_mn, b_ac, b_an, b_rs, b_rz, b_lc, b_ln, b_it, b_if, b_itt, b_iff, p_dSeq, p_eqB, p_neB, len_eT, len_eR, len_eV, isNone_eO, seq_eT, seq_eR, seq_eV, seq_eL, eO_some, eO_none, len_eL, ↓p_eqN, ↓p_neN, ↓p_ltN, ↓p_leN, ↓p_gtN, ↓p_geN, Nat.reduceSub, Nat.reduceAdd, Nat.reduceLeDiff, Nat.zero_le, h1, ↓g1, decide_eq_false q])⟩
    rcases (hall p z.1).mp z.2 with y | y
    · exact y
    · rw [x1] at y
      have := Nat.le_of_dvd (by omega) y
      have := z.1.two
      omega
end Mi
namespace Mi
open DL
theorem compL2_map {α β : Type} {g : DG} {it2 : DFs} {g2 : DG} {t : DB} {e : DF} {vs1 : List Nat} {ρ : Rho} (en : α → D) (en2 : β → D) (ys : α → List β) (p : α → β → Bool) (q : α → β → D) : ∀ (xs : List α),
    (∀ x ∈ xs, ∃ ρ1, g (en x) ρ = some ρ1 ∧ it2 ρ1 = some ((ys x).map en2) ∧ ∀ y ∈ ys x, ∃ ρ2, g2 (en2 y) (wipeR ρ1 vs1) = some ρ2 ∧ t ρ2 = some (p x y) ∧ (p x y = true → e ρ2 = some (q x y))) →
    compL2 g it2 g2 t e vs1 ρ (xs.map en) = some (xs.flatMap fun x => ((ys x).filter (p x)).map (q x))
  | [], _ => rfl
  | x :: xs, hs => by
    obtain ⟨ρ1, h1, h2, h3⟩ := hs x List.mem_cons_self
    have ih := compL2_map en en2 ys p q xs fun y hy => hs y (List.mem_cons_of_mem _ hy)
    have hc := compL_map en2 (p x) (q x) (ys x) h3
    rw [List.map_cons]
    simp [compL2, h1, h2, hc, ih]
theorem comp2_if {α β : Type} {it : DFs} {g : DG} {it2 : DFs} {g2 : DG} {t : DB} {e : DF} {vs vs1 : List Nat} {ρ : Rho} (en : α → D) (en2 : β → D) (ys : α → List β) (p : α → β → Bool) (q : α → β → D) (xs : List α) (hi : it ρ = some (xs.map en))
    (hl : (xs.flatMap fun x => ((ys x).filter (p x)).map (q x)).length ≤ 16777216)
    (hs : ∀ x ∈ xs, ∃ ρ1, g (en x) (wipeR ρ vs) = some ρ1 ∧ it2 ρ1 = some ((ys x).map en2) ∧ ∀ y ∈ ys x, ∃ ρ2, g2 (en2 y) (wipeR ρ1 vs1) = some ρ2 ∧ t ρ2 = some (p x y) ∧ (p x y = true → e ρ2 = some (q x y))) :
    dComp2 it g it2 g2 t e vs vs1 ρ = some (.lst (xs.flatMap fun x => ((ys x).filter (p x)).map (q x))) := by
  unfold dComp2
  rw [hi]
  simp only [Option.bind_some]
  rw [compL2_map en en2 ys p q xs hs]
  simp only [Option.bind_some]
  exact lstOk_le hl
theorem sorted_m (l : List Nat) : ∃ l' : List Nat, l'.Perm l ∧ l'.Pairwise (· ≤ ·) ∧ opSorted [eL l] = some (eL l') := by
  have h1 : asInts (l.map fun n : Nat => D.int n) = some (l.map fun n : Nat => (n : Int)) := asInts_map _ l
  have pm := isort_perm (l.map fun n : Nat => (n : Int))
  have st := isort_sorted (l.map fun n : Nat => (n : Int))
  have nn : ∀ x ∈ isort (l.map fun n : Nat => (n : Int)), 0 ≤ x := by
    intro x hx
    obtain ⟨n, _, e⟩ := List.mem_map.mp (pm.mem_iff.mp hx)
    omega
  have back : (isort (l.map fun n : Nat => (n : Int))).map (fun x => ((x.toNat : Nat) : Int)) = isort (l.map fun n : Nat => (n : Int)) := by
    have : ∀ L : List Int, (∀ x ∈ L, 0 ≤ x) → L.map (fun x => ((x.toNat : Nat) : Int)) = L := by
      intro L
      induction L with
      | nil => intro _; rfl
      | cons a L ih =>
        intro h
        rw [List.map_cons, ih fun x hx => h x (List.mem_cons_of_mem _ hx), Int.toNat_of_nonneg (h a List.mem_cons_self)]
    exact this _ nn
  refine ⟨(isort (l.map fun n : Nat => (n : Int))).map Int.toNat, ?_, ?_, ?_⟩
  · have := pm.map Int.toNat
    rw [List.map_map] at this
    have e : l.map (Int.toNat ∘ fun n : Nat => (n : Int)) = l := by
      have : (Int.toNat ∘ fun n : Nat => (n : Int)) = id := by funext x; simp
      rw [this, List.map_id]
    rwa [e] at this
  · exact List.Pairwise.map _ (fun a b (h : a ≤ b) => by omega) st
  · show (asInts _).bind _ = _
    rw [h1]
    simp only [Option.bind_some]
    unfold eL
    rw [List.map_map]
    conv => lhs; rw [← back]
    rw [List.map_map]
    rfl
theorem lt_of_le_nodup' : ∀ l : List Nat, l.Pairwise (· ≤ ·) → l.Nodup → l.Pairwise (· < ·)
  | [], _, _ => List.Pairwise.nil
  | x :: l, h, d => by
    have h1 := List.pairwise_cons.mp h
    have d1 := List.nodup_cons.mp d
    refine List.pairwise_cons.mpr ⟨fun y hy => ?_, lt_of_le_nodup' l h1.2 d1.2⟩
    have a := h1.1 y hy
    have b : x ≠ y := fun z => d1.1 (z ▸ hy)
    omega
/-- two ascending lists with the same members are equal -/
theorem asc_ext : ∀ {a b : List Nat}, a.Pairwise (· < ·) → b.Pairwise (· < ·) → (∀ x, x ∈ a ↔ x ∈ b) → a = b
  | [], [], _, _, _ => rfl
  | [], y :: b, _, _, h => absurd ((h y).mpr List.mem_cons_self) (by simp)
  | x :: a, [], _, _, h => absurd ((h x).mp List.mem_cons_self) (by simp)
  | x :: a, y :: b, ha, hb, h => by
    have ha' := List.pairwise_cons.mp ha
    have hb' := List.pairwise_cons.mp hb
    have e : x = y := by
      rcases List.mem_cons.mp ((h x).mp List.mem_cons_self) with q | q
      · exact q
      · rcases List.mem_cons.mp ((h y).mpr List.mem_cons_self) with q2 | q2
        · exact q2.symm
        · have := ha'.1 y q2
          have := hb'.1 x q
          omega
    subst e
    rw [asc_ext ha'.2 hb'.2 fun z => ?_]
    constructor
    · intro hz
      rcases List.mem_cons.mp ((h z).mp (List.mem_cons_of_mem _ hz)) with q | q
      · have := ha'.1 z hz; omega
      · exact q
    · intro hz
      rcases List.mem_cons.mp ((h z).mpr (List.mem_cons_of_mem _ hz)) with q | q
      · have := hb'.1 z hz; omega
      · exact q
theorem nodup_fm {α β : Type} (f : α → List β) : ∀ l : List α, l.Nodup → (∀ x ∈ l, (f x).Nodup) → (∀ x ∈ l, ∀ y ∈ l, x ≠ y → ∀ z, z ∈ f x → z ∈ f y → False) → (l.flatMap f).Nodup
  | [], _, _, _ => List.nodup_nil
  | x :: l, h, hf, hd => by
    have h1 := List.nodup_cons.mp h
    rw [List.flatMap_cons, List.nodup_append]
    refine ⟨hf x List.mem_cons_self, nodup_fm f l h1.2 (fun y hy => hf y (List.mem_cons_of_mem _ hy)) (fun y hy z hz => hd y (List.mem_cons_of_mem _ hy) z (List.mem_cons_of_mem _ hz)), ?_⟩
    rintro a ha b hb rfl
    obtain ⟨y, hy, hb⟩ := List.mem_flatMap.mp hb
    exact hd x List.mem_cons_self y (List.mem_cons_of_mem _ hy) (fun e => h1.1 (e ▸ hy)) a ha hb
def Qp (q : Nat) (l : List Nat) : Nat := l.foldl (fun a p => a * p ^ ex p q) 1
theorem Qp_snoc (q : Nat) (l : List Nat) (p : Nat) : Qp q (l ++ [p]) = Qp q l * p ^ ex p q := by
  unfold Qp
  rw [List.foldl_append]
  rfl
theorem Qp_ex {q : Nat} : ∀ (r l : List Nat), l = r.reverse → l.Nodup → (∀ p ∈ l, IsP p) → 0 < Qp q l ∧ ∀ s, IsP s → ex s (Qp q l) = if s ∈ l then ex s q else 0
  | [], l, e, _, _ => by
    subst e
    refine ⟨Nat.one_pos, fun s hs => ?_⟩
    show ex s 1 = _
    have h1 : ¬ s ∣ 1 := fun z => by
      have := Nat.le_of_dvd (by omega) z
      have := hs.two
      omega
    rw [ex_stop h1]
    simp
  | p :: r, l, e, hn, hp => by
    rw [List.reverse_cons] at e
    subst e
    have hn2 := List.nodup_append.mp hn
    have ih := Qp_ex (q := q) r r.reverse rfl hn2.1 fun x hx => hp x (List.mem_append_left _ hx)
    have pp := hp p (by simp)
    have h0 : 0 < p ^ ex p q := Nat.pow_pos (by have := pp.two; omega)
    rw [Qp_snoc]
    refine ⟨Nat.mul_pos ih.1 h0, fun s hs => ?_⟩
    rw [ex_mul hs _ ih.1 _ h0, ih.2 s hs]
    have np : p ∉ r.reverse := fun z => hn2.2.2 p z p (by simp) rfl
    by_cases e1 : s = p
    · subst e1
      rw [if_neg np, ex_pow_self hs.two, Nat.zero_add, if_pos (by simp)]
    · rw [ex_pow_other hs pp e1, Nat.add_zero]
      have : s ∈ r.reverse ++ [p] ↔ s ∈ r.reverse := by simp [e1]
      by_cases z : s ∈ r.reverse
      · rw [if_pos z, if_pos (this.mpr z)]
      · rw [if_neg z, if_neg fun y => z (this.mp y)]
theorem Qp_all {q : Nat} (hq : 0 < q) {l : List Nat} (h : PrL q l) : Qp q l = q := by
  have nd : l.Nodup := h.1.imp fun {a b} (z : a < b) => by omega
  have e := Qp_ex (q := q) l.reverse l (by simp) nd fun p hp => ((h.2 p).mp hp).1
  refine eq_of_ex e.1 hq fun p hp => ?_
  rw [e.2 p hp]
  by_cases z : p ∈ l
  · rw [if_pos z]
  · rw [if_neg z, ex_stop fun y => z ((h.2 p).mpr ⟨hp, y⟩)]
end Mi
namespace Mi
open DL
theorem ex_lt {p n : Nat} (hp : 2 ≤ p) (hn : 0 < n) : ex p n < n := by
  have h1 := Nat.le_of_dvd hn (pow_ex_dvd hp hn)
  have h2 : ex p n < 2 ^ ex p n := Nat.lt_two_pow_self
  have h3 : 2 ^ ex p n ≤ p ^ ex p n := Nat.pow_le_pow_left hp _
  omega
/-- the multiples of low that divide high, ascending -/
def BwL (low high : Nat) (l : List Nat) : Prop := l.Pairwise (· < ·) ∧ ∀ d, d ∈ l ↔ low ∣ d ∧ d ∣ high
theorem between_m {low high : Nat} (h0 : 0 < low) (hd : low ∣ high) (hh : 0 < high) (hh2 : high ≤ 1000000000000) (hK : (divs (high / low)).length ≤ 16777216) :
    ∃ l, BwL low high l ∧ m_between [.int low, .int high] = some (eL l) := by
  have q0 : 0 < high / low := Nat.div_pos (Nat.le_of_dvd hh hd) h0
  have qh : high = low * (high / low) := (Nat.mul_div_cancel' hd).symm
  have ql : high / low ≤ high := Nat.div_le_self _ _
  have ll : low ≤ high := Nat.le_of_dvd hh hd
  have dvh := div_n (a := high) h0 (by omega)
  generalize hq : high / low = q at q0 qh ql hK dvh
  obtain ⟨pl, hpl, hple, hpm⟩ := prime_factors_m q0 (by omega)
  have pnd : pl.Nodup := hpl.1.imp fun {a b} (z : a < b) => by omega
  -- what the list holds behind the primes pre
  let Fd : List Nat → List Nat → Prop := fun pre F => F.Nodup ∧ ∀ x, x ∈ F ↔ ∃ d, d ∣ Qp q pre ∧ x = low * d
  have QpD : ∀ pre r, pl = pre ++ r → 0 < Qp q pre ∧ Qp q pre ∣ q ∧ ∀ s, IsP s → ex s (Qp q pre) = if s ∈ pre then ex s q else 0 := by
    intro pre r e
    have e1 := Qp_ex (q := q) pre.reverse pre (by simp) (by rw [e] at pnd; exact (List.nodup_append.mp pnd).1) fun p hp => ((hpl.2 p).mp (by rw [e]; exact List.mem_append_left _ hp)).1
    refine ⟨e1.1, dvd_of_ex e1.1 q0 fun s hs => ?_, e1.2⟩
    rw [e1.2 s hs]
    by_cases z : s ∈ pre
    · rw [if_pos z]; exact Nat.le_refl _
    · rw [if_neg z]; exact Nat.zero_le _
  have Flen : ∀ pre r F, pl = pre ++ r → Fd pre F → F.length ≤ 16777216 := by
    intro pre r F e hF
    have h1 : (F.map fun x => x / low).Nodup := by
      have : ∀ G : List Nat, G.Nodup → (∀ x ∈ G, low ∣ x) → (G.map fun x => x / low).Nodup := by
        intro G
        induction G with
        | nil => intro _ _; exact List.nodup_nil
        | cons a G ih =>
          intro hn hd
          have hn := List.nodup_cons.mp hn
          rw [List.map_cons, List.nodup_cons]
          refine ⟨fun z => ?_, ih hn.2 fun x hx => hd x (List.mem_cons_of_mem _ hx)⟩
          obtain ⟨y, hy, e⟩ := List.mem_map.mp z
          have h1 := Nat.mul_div_cancel' (hd a List.mem_cons_self)
          have h2 := Nat.mul_div_cancel' (hd y (List.mem_cons_of_mem _ hy))
          rw [e, h1] at h2
          exact hn.1 (h2 ▸ hy)
      exact this F hF.1 fun x hx => by
        obtain ⟨d, _, e⟩ := (hF.2 x).mp hx
        exact ⟨d, e⟩
    have h2 := List.Nodup.length_le_of_subset h1 (l₂ := divs q) fun y hy => by
      obtain ⟨x, hx, e2⟩ := List.mem_map.mp hy
      obtain ⟨d, hd, e3⟩ := (hF.2 x).mp hx
      rw [mem_divs q0, ← e2, e3, Nat.mul_div_cancel_left d h0]
      exact Nat.dvd_trans hd (QpD pre r e).2.1
    rw [List.length_map] at h2
    omega
  obtain ⟨ρ', h1, F, x3, x4, hF, h2⟩ := for_pre (g := gN 3) (b := m_between_b1) (fun n : Nat => D.int n)
    (fun pre ρ => ∃ F x3 x4, Fd pre F ∧ ρ = [some (.int low), some (.int high), some (eL F), x3, x4, none, none]) pl (ρ := [some (.int low), some (.int high), some (eL [low]), none, none, none, none]) (by
      rintro pre p r e ρ ⟨F, x3, x4, hF, rfl⟩
      obtain ⟨hp, hpq⟩ := (hpl.2 p).mp (by rw [e]; simp)
      have Q1 := QpD pre (p :: r) e
      have Q2 := QpD (pre ++ [p]) r (by rw [e]; simp)
      have pq := Nat.le_of_dvd q0 hpq
      have xl := ex_lt hp.two q0
      have em := exponent_m (p := p) (n := q) hp.two (by omega) q0 (by omega)
      have np : p ∉ pre := fun z => by
        rw [e] at pnd
        exact (List.nodup_append.mp pnd).2.2 p z p List.mem_cons_self rfl
      have ep : ex p (Qp q pre) = 0 := by rw [Q1.2.2 p hp, if_neg np]
      have p0 : 0 < p := by have := hp.two; omega
      let G : List Nat := F.flatMap fun one => ((List.range (ex p q + 1)).filter fun _ => true).map fun s => one * p ^ s
      have hG : Fd (pre ++ [p]) G := by
        have noP : ∀ d, d ∣ Qp q pre → 0 < d ∧ ex p d = 0 := fun d hd => by
          have d0 := Nat.pos_of_dvd_of_pos hd Q1.1
          have := ex_le_of_dvd hp.two Q1.1 hd
          exact ⟨d0, by omega⟩
        have inj : ∀ d s d' s', d ∣ Qp q pre → d' ∣ Qp q pre → low * d * p ^ s = low * d' * p ^ s' → d = d' ∧ s = s' := by
          intro d s d' s' h1 h2 h3
          have n1 := noP d h1
          have n2 := noP d' h2
          have ps : ∀ s, 0 < p ^ s := fun s => Nat.pow_pos p0
          rw [Nat.mul_assoc, Nat.mul_assoc] at h3
          have h4 := Nat.eq_of_mul_eq_mul_left h0 h3
          have h5 : ex p (d * p ^ s) = ex p (d' * p ^ s') := by rw [h4]
          rw [ex_mul hp d n1.1 _ (ps s), ex_mul hp d' n2.1 _ (ps s'), ex_pow_self hp.two, ex_pow_self hp.two, n1.2, n2.2] at h5
          have h6 : s = s' := by omega
          subst h6
          exact ⟨Nat.eq_of_mul_eq_mul_right (ps s) h4, rfl⟩
        refine ⟨nodup_fm _ F hF.1 ?_ ?_, ?_⟩
        · intro x hx
          obtain ⟨d, hd, rfl⟩ := (hF.2 x).mp hx
          have : ((List.range (ex p q + 1)).filter fun _ => true).Nodup := List.Nodup.sublist List.filter_sublist List.nodup_range
          exact List.Pairwise.map _ (fun a b (hab : a ≠ b) z => hab (inj d a d b hd hd z).2) this
        · intro x hx y hy hxy z hz1 hz2
          obtain ⟨d, hd, rfl⟩ := (hF.2 x).mp hx
          obtain ⟨d', hd', rfl⟩ := (hF.2 y).mp hy
          obtain ⟨s, _, e1⟩ := List.mem_map.mp hz1
          obtain ⟨s', _, e2⟩ := List.mem_map.mp hz2
          exact hxy (by rw [(inj d s d' s' hd hd' (e1.trans e2.symm)).1])
        · intro x
          show x ∈ F.flatMap _ ↔ _
          simp only [List.mem_flatMap, List.mem_map, List.mem_filter, List.mem_range, and_true]
          rw [Qp_snoc]
          constructor
          · rintro ⟨y, hy, s, hs, rfl⟩
            obtain ⟨d, hd, rfl⟩ := (hF.2 y).mp hy
            exact ⟨d * p ^ s, Nat.mul_dvd_mul hd (Nat.pow_dvd_pow p (by omega)), by rw [Nat.mul_assoc]⟩
          · rintro ⟨d, hd, rfl⟩
            obtain ⟨d1, d2, h1, h2, h3⟩ := (Nat.dvd_mul).mp hd
            obtain ⟨s, hs, e2⟩ := (dvd_pow_iff hp).mp h2
            exact ⟨low * d1, (hF.2 _).mpr ⟨d1, h1, rfl⟩, s, by omega, by rw [← h3, e2, Nat.mul_assoc]⟩
      have Gl := Flen _ r G (by rw [e]; simp) hG
      have c1 : m_between_c1 [some (.int low), some (.int high), some (eL F), some (.int p), some (.int (ex p q)), none, none] = some (eL G) := by
        have e1 : (F.flatMap fun one => ((List.range (ex p q + 1)).filter ((fun _ _ => true : Nat → Nat → Bool) one)).map fun s => D.int ((one * p ^ s : Nat) : Int)) = G.map fun n : Nat => D.int n := by
          show _ = (F.flatMap _).map _
          rw [List.map_flatMap]
          simp only [List.map_map]
          rfl
        have := comp2_if (it := iSeq (dv 2)) (g := gN 5) (it2 := iRng1 (dcons (d2 opAdd (dv 4) (dc (.int 1))) dnil)) (g2 := gN 6) (t := bYes) (e := d2 opMul (dv 5) (dL m_power (dcons (dv 3) (dcons (dv 6) dnil)))) (vs := [5, 6]) (vs1 := [6]) (ρ := [some (.int low), some (.int high), some (eL F), some (.int p), some (.int (ex p q)), none, none])
          (fun n : Nat => D.int n) (fun n : Nat => D.int n) (fun _ => List.range (ex p q + 1)) (fun _ _ => true) (fun one s => D.int ((one * p ^ s : Nat) : Int)) F (by simp only [bnd_some, bnd_none, p_dc, p_dv, lk_z, lk_s, st_z, st_s, un_z, un_s, wipe_n, wipe_c, p_d2, p_d1, p_dnil, p_dcons, p_dL, p_asB, p_asI, p_asL, p_asSeqL, p_asSeqT, p_bV, p_dB, p_bAnd, p_bOr, p_bNot, p_dIf, p_dAnd, p_dOr, p_dNot, p_dCh, p_bYes, p_gN, p_gT, p_gsNil, p_gsCons, p_dNx, p_dRet, p_dSet, p_dIfS, p_dAsg, p_dPar, p_dAug, p_dApp, p_dSetIx, p_nLst, p_nRep, p_nOf, p_dSetN, p_dParN1, p_dParNN, p_iSeq, p_iRng1, p_iRng2, p_oNo, p_oIx, p_dSl, p_asIx, p_opTup, p_opLst, p_lenT, p_lenL, p_lenS, p_tupT, p_tupL, p_add, p_sub, p_mul, p_lt, p_le, p_gt, p_ge, p_eqI, p_neI, p_isN, p_isnN, p_isB, p_isnB, p_isNone_n, p_isNone_i, p_isNone_t, p_isNone_l, p_appL, p_appT, b_mc, b_mn, b_ac, b_an, b_rs, b_rz, b_lc, b_ln, b_it, b_if, b_itt, b_iff, p_dSeq, p_eqB, p_neB, len_eT, len_eR, len_eV, isNone_eO, seq_eT, seq_eR, seq_eV, seq_eL, eO_some, eO_none, len_eL, ↓p_eqN, ↓p_neN, ↓p_ltN, ↓p_leN, ↓p_gtN, ↓p_geN]) (by rw [e1, List.length_map]; exact Gl) (by
            intro one ho
            obtain ⟨d, hd1, e3⟩ := (hF.2 one).mp ho
            have r1 := rng1 (n := ex p q + 1) (by omega)
            have c2 : ((ex p q : Nat) : Int) + 1 = ((ex p q + 1 : Nat) : Int) := by omega
            refine ⟨_, rfl, by simp only [bnd_some, bnd_none, p_dc, p_dv, lk_z, lk_s, st_z, st_s, un_z, un_s, wipe_n, wipe_c, p_d2, p_d1, p_dnil, p_dcons, p_dL, p_asB, p_asI, p_asL, p_asSeqL, p_asSeqT, p_bV, p_dB, p_bAnd, p_bOr, p_bNot, p_dIf, p_dAnd, p_dOr, p_dNot, p_dCh, p_bYes, p_gN, p_gT, p_gsNil, p_gsCons, p_dNx, p_dRet, p_dSet, p_dIfS, p_dAsg, p_dPar, p_dAug, p_dApp, p_dSetIx, p_nLst, p_nRep, p_nOf, p_dSetN, p_dParN1, p_dParNN, p_iSeq, p_iRng1, p_iRng2, p_oNo, p_oIx, p_dSl, p_asIx, p_opTup, p_opLst, p_lenT, p_lenL, p_lenS, p_tupT, p_tupL, p_add, p_sub, p_mul, p_lt, p_le, p_gt, p_ge, p_eqI, p_neI, p_isN, p_isnN, p_isB, p_isnB, p_isNone_n, p_isNone_i, p_isNone_t, p_isNone_l, p_appL, p_appT, b_mc, b_mn, b_ac, b_an, b_rs, b_rz, b_lc, b_ln, b_it, b_if, b_itt, b_iff, p_dSeq, p_eqB, p_neB, len_eT, len_eR, len_eV, isNone_eO, seq_eT, seq_eR, seq_eV, seq_eL, eO_some, eO_none, len_eL, ↓p_eqN, ↓p_neN, ↓p_ltN, ↓p_leN, ↓p_gtN, ↓p_geN, c2, r1], ?_⟩
            intro s hs
            have hs := List.mem_range.mp hs
            have pw := power_m (p := p) (t := s) (by omega) (by omega)
            have ol : one ≤ high := by
              rw [e3, qh]
              exact Nat.mul_le_mul_left low (Nat.le_of_dvd q0 (Nat.dvd_trans hd1 Q1.2.1))
            have ml := mul_l (a := one) (b := p ^ s) (by omega)
            refine ⟨_, rfl, rfl, fun _ => ?_⟩
            simp only [bnd_some, bnd_none, p_dc, p_dv, lk_z, lk_s, st_z, st_s, un_z, un_s, wipe_n, wipe_c, p_d2, p_d1, p_dnil, p_dcons, p_dL, p_asB, p_asI, p_asL, p_asSeqL, p_asSeqT, p_bV, p_dB, p_bAnd, p_bOr, p_bNot, p_dIf, p_dAnd, p_dOr, p_dNot, p_dCh, p_bYes, p_gN, p_gT, p_gsNil, p_gsCons, p_dNx, p_dRet, p_dSet, p_dIfS, p_dAsg, p_dPar, p_dAug, p_dApp, p_dSetIx, p_nLst, p_nRep, p_nOf, p_dSetN, p_dParN1, p_dParNN, p_iSeq, p_iRng1, p_iRng2, p_oNo, p_oIx, p_dSl, p_asIx, p_opTup, p_opLst, p_lenT, p_lenL, p_lenS, p_tupT, p_tupL, p_add, p_sub, p_mul, p_lt, p_le, p_gt, p_ge, p_eqI, p_neI, p_isN, p_isnN, p_isB, p_isnB, p_isNone_n, p_isNone_i, p_isNone_t, p_isNone_l, p_appL, p_appT, b_mc, b_mn, b_ac, b_an, b_rs, b_rz, b_lc, b_ln, b_it, b_if, b_itt, b_iff, p_dSeq, p_eqB, p_neB, len_eT, len_eR, len_eV, isNone_eO, seq_eT, seq_eR, seq_eV, seq_eL, eO_some, eO_none, len_eL, ↓p_eqN, ↓p_neN, ↓p_ltN, ↓p_leN, ↓p_gtN, ↓p_geN, pw, ml])
        unfold m_between_c1
        rw [this, e1]
        rfl
      refine ⟨_, rfl, [some (.int low), some (.int high), some (eL G), some (.int p), some (.int (ex p q)), none, none], ?_, G, _, _, hG, rfl⟩
      simp only [m_between_b1, bnd_some, bnd_none, p_dc, p_dv, lk_z, lk_s, st_z, st_s, un_z, un_s, wipe_n, wipe_c, p_d2, p_d1, p_dnil, p_dcons, p_dL, p_asB, p_asI, p_asL, p_asSeqL, p_asSeqT, p_bV, p_dB, p_bAnd, p_bOr, p_bNot, p_dIf, p_dAnd, p_dOr, p_dNot, p_dCh, p_bYes, p_gN, p_gT, p_gsNil, p_gsCons, p_dNx, p_dRet, p_dSet, p_dIfS, p_dAsg, p_dPar, p_dAug, p_dApp, p_dSetIx, p_nLst, p_nRep, p_nOf, p_dSetN, p_dParN1, p_dParNN, p_iSeq, p_iRng1, p_iRng2, p_oNo, p_oIx, p_dSl, p_asIx, p_opTup, p_opLst, p_lenT, p_lenL, p_lenS, p_tupT, p_tupL, p_add, p_sub, p_mul, p_lt, p_le, p_gt, p_ge, p_eqI, p_neI, p_isN, p_isnN, p_isB, p_isnB, p_isNone_n, p_isNone_i, p_isNone_t, p_isNone_l, p_appL, p_appT, b_mc, b_mn, b_ac, b_an, b_rs, b_rz, b_lc, b_ln, b_it, b_if, b_itt, b_iff, p_dSeq, p_eqB, p_neB, len_eT, len_eR, len_eV, isNone_eO, seq_eT, seq_eR, seq_eV, seq_eL, eO_some, eO_none, len_eL, ↓p_eqN, ↓p_neN, ↓p_ltN, ↓p_leN, ↓p_gtN, ↓p_geN, dvh, em, c1]) ⟨[low], _, _, ⟨by simp, fun x => by
        show x ∈ [low] ↔ ∃ d, d ∣ 1 ∧ x = low * d
        simp only [List.mem_singleton]
        constructor
        · intro z; exact ⟨1, Nat.dvd_refl 1, by rw [z, Nat.mul_one]⟩
        · rintro ⟨d, h1, h2⟩
          rw [Nat.dvd_one.mp h1, Nat.mul_one] at h2
          exact h2⟩, rfl⟩
  subst h2
  obtain ⟨l', s1, s2, s3⟩ := sorted_m F
  refine ⟨l', ⟨lt_of_le_nodup' l' s2 (s1.nodup_iff.mpr hF.1), fun d => ?_⟩, ?_⟩
  · rw [s1.mem_iff, hF.2, Qp_all q0 hpl]
    constructor
    · rintro ⟨c, hc, rfl⟩
      exact ⟨⟨c, rfl⟩, by rw [qh]; exact Nat.mul_dvd_mul_left low hc⟩
    · rintro ⟨⟨c, rfl⟩, h2⟩
      refine ⟨c, ?_, rfl⟩
      rw [qh] at h2
      exact (Nat.mul_dvd_mul_iff_left h0).mp h2
  · have e0 : D.lst [.int low] = eL [low] := rfl
    have f := (for_eq (it := iSeq (dL m_prime_factors (dcons (d2 opFdiv (dv 1) (dv 0)) dnil))) (ρ := [some (.int low), some (.int high), some (eL [low]), none, none, none, none]) (by simp only [bnd_some, bnd_none, p_dc, p_dv, lk_z, lk_s, st_z, st_s, un_z, un_s, wipe_n, wipe_c, p_d2, p_d1, p_dnil, p_dcons, p_dL, p_asB, p_asI, p_asL, p_asSeqL, p_asSeqT, p_bV, p_dB, p_bAnd, p_bOr, p_bNot, p_dIf, p_dAnd, p_dOr, p_dNot, p_dCh, p_bYes, p_gN, p_gT, p_gsNil, p_gsCons, p_dNx, p_dRet, p_dSet, p_dIfS, p_dAsg, p_dPar, p_dAug, p_dApp, p_dSetIx, p_nLst, p_nRep, p_nOf, p_dSetN, p_dParN1, p_dParNN, p_iSeq, p_iRng1, p_iRng2, p_oNo, p_oIx, p_dSl, p_asIx, p_opTup, p_opLst, p_lenT, p_lenL, p_lenS, p_tupT, p_tupL, p_add, p_sub, p_mul, p_lt, p_le, p_gt, p_ge, p_eqI, p_neI, p_isN, p_isnN, p_isB, p_isnB, p_isNone_n, p_isNone_i, p_isNone_t, p_isNone_l, p_appL, p_appT, b_mc, b_mn, b_ac, b_an, b_rs, b_rz, b_lc, b_ln, b_it, b_if, b_itt, b_iff, p_dSeq, p_eqB, p_neB, len_eT, len_eR, len_eV, isNone_eO, seq_eT, seq_eR, seq_eV, seq_eL, eO_some, eO_none, len_eL, ↓p_eqN, ↓p_neN, ↓p_ltN, ↓p_leN, ↓p_gtN, ↓p_geN, dvh, hpm])).trans h1
    exact run_rt rfl (by simp only [bnd_some, bnd_none, p_dc, p_dv, lk_z, lk_s, st_z, st_s, un_z, un_s, wipe_n, wipe_c, p_d2, p_d1, p_dnil, p_dcons, p_dL, p_asB, p_asI, p_asL, p_asSeqL, p_asSeqT, p_bV, p_dB, p_bAnd, p_bOr, p_bNot, p_dIf, p_dAnd, p_dOr, p_dNot, p_dCh, p_bYes, p_gN, p_gT, p_gsNil, p_gsCons, p_dNx, p_dRet, p_dSet, p_dIfS, p_dAsg, p_dPar, p_dAug, p_dApp, p_dSetIx, p_nLst, p_nRep, p_nOf, p_dSetN, p_dParN1, p_dParNN, p_iSeq, p_iRng1, p_iRng2, p_oNo, p_oIx, p_dSl, p_asIx, p_opTup, p_opLst, p_lenT, p_lenL, p_lenS, p_tupT, p_tupL, p_add, p_sub, p_mul, p_lt, p_le, p_gt, p_ge, p_eqI, p_neI, p_isN, p_isnN, p_isB, p_isnB, p_isNone_n, p_isNone_i, p_isNone_t, p_isNone_l, p_appL, p_appT, b_mc, b_mn, b_ac, b_an, b_rs, b_rz, b_lc, b_ln, b_it, b_if, b_itt, b_iff, p_dSeq, p_eqB, p_neB, len_eT, len_eR, len_eV, isNone_eO, seq_eT, seq_eR, seq_eV, seq_eL, eO_some, eO_none, len_eL, ↓p_eqN, ↓p_neN, ↓p_ltN, ↓p_leN, ↓p_gtN, ↓p_geN, Nat.reduceSub, Nat.reduceAdd, Nat.reduceLeDiff, e0, f, s3])
end Mi
namespace Mi
open DL
theorem inD_eL (p : Nat) : ∀ F : List Nat, inD (.int p) (F.map fun n : Nat => D.int n) = decide (p ∈ F)
  | [] => rfl
  | a :: F => by
    unfold inD
    rw [List.map_cons, List.any_cons]
    have ih := inD_eL p F
    unfold inD at ih
    rw [ih]
    have e : eqD (.int a) (.int p) = decide (a = p) := by
      by_cases h : a = p
      · simp [eqD, h]
      · have : ¬ (a : Int) = (p : Int) := by omega
        simp [eqD, h, this]
    rw [e]
    by_cases h : a = p
    · simp [h]
    · have : ¬ p = a := fun z => h z.symm
      simp [h, this]
theorem ok_eL (n : Nat) (F : List Nat) : okDs n (F.map fun n : Nat => D.int n) = true := okDs_map _ F fun _ _ => by simp [okD]
theorem notIn_eL (p : Nat) (F : List Nat) : opNotIn (.int p) (eL F) = some (.bl (decide (p ∉ F))) := by
  have h : okD 60 (.int (p : Int)) = true ∧ okDs 60 (F.map fun n : Nat => D.int n) = true := ⟨rfl, ok_eL _ _⟩
  show (if _ then _ else _) = _
  rw [if_pos h, inD_eL]
  by_cases z : p ∈ F <;> simp [z]
theorem two_pow_Qp {q : Nat} (hq : 0 < q) : ∀ (r l : List Nat), l = r.reverse → (∀ p ∈ l, IsP p ∧ p ∣ q) → 2 ^ l.length ≤ Qp q l
  | [], l, e, _ => by
    subst e
    exact Nat.le_refl _
  | p :: r, l, e, h => by
    rw [List.reverse_cons] at e
    subst e
    have ih := two_pow_Qp hq r r.reverse rfl fun x hx => h x (List.mem_append_left _ hx)
    have hp := h p (by simp)
    rw [Qp_snoc, List.length_append, List.length_singleton, Nat.pow_succ]
    have e1 := (ex_pos hp.1.two hq).mpr hp.2
    have e2 : p ^ 1 ≤ p ^ ex p q := Nat.pow_le_pow_right (by have := hp.1.two; omega) e1
    rw [Nat.pow_one] at e2
    exact Nat.mul_le_mul ih (Nat.le_trans hp.1.two e2)
theorem PrL_len {n : Nat} {l : List Nat} (hn : 0 < n) (hn2 : n ≤ 1000000000000) (h : PrL n l) : l.length ≤ 40 := by
  have h1 := two_pow_Qp hn l.reverse l (by simp) fun p hp => (h.2 p).mp hp
  rw [Qp_all hn h] at h1
  apply Classical.byContradiction
  intro z
  have h2 : 2 ^ 41 ≤ 2 ^ l.length := Nat.pow_le_pow_right (by decide) (by omega)
  have h3 : (2 : Nat) ^ 41 = 2199023255552 := by decide
  omega
/-- the primes of all entries, ascending -/
def PrT (m w : Nat) (T : Nat → Nat → Option Nat) (l : List Nat) : Prop := l.Pairwise (· < ·) ∧ ∀ p, p ∈ l ↔ IsP p ∧ ∃ i j e, i < m ∧ j < w ∧ T i j = some e ∧ p ∣ e
theorem all_primes_m {M m w : Nat} {T : Nat → Nat → Option Nat} (h : Tab m w T) (hM : DvM M T) : ∃ l, PrT m w T l ∧ (∀ p ∈ l, p ≤ 1000000000) ∧ m_all_primes [eT m w T] = some (eL l) := by
  have hk := known_places_m h
  have kl := kp_len1 h
  obtain ⟨ρ', h1, F, x2, x3, ⟨nd, mem, fl⟩, h2⟩ := for_pre (g := gT (gsCons (gN 2) (gsCons (gN 3) gsNil))) (b := m_all_primes_b1) eP
    (fun pre ρ => ∃ F x2 x3, (F.Nodup ∧ (∀ p, p ∈ F ↔ IsP p ∧ ∃ q ∈ pre, ∃ e, T q.1 q.2 = some e ∧ p ∣ e) ∧ F.length ≤ 40 * pre.length) ∧ ρ = [some (eT m w T), some (eL F), x2, x3, none]) (kp m w T) (ρ := [some (eT m w T), some (.lst []), none, none, none]) (by
      rintro pre p r e ρ ⟨F, x2, x3, ⟨nd, mem, fl⟩, rfl⟩
      obtain ⟨v, hv, p1, p2⟩ := kp_some (p := p) (by rw [e]; simp)
      have bv := hM.bd hv
      obtain ⟨pl, hpl, _, hpm⟩ := prime_factors_m bv.1 (by omega)
      have pln := PrL_len bv.1 (by omega) hpl
      have plen : pre.length < 10000 := by
        have : (kp m w T).length = pre.length + (r.length + 1) := by rw [e, List.length_append, List.length_cons]
        omega
      have t1 := ix_eT (w := w) (T := T) p1
      have t2 := ix_eR (T := T p.1) p2
      rw [hv] at t2
      have c1 : m_all_primes_c1 [some (eT m w T), some (eL F), some (.int p.1), some (.int p.2), none] = some (eL (pl.filter fun p => decide (p ∉ F))) := by
        unfold m_all_primes_c1
        rw [comp_if (fun n : Nat => D.int n) (fun p => decide (p ∉ F)) (fun n : Nat => D.int n) pl (by simp only [bnd_some, bnd_none, p_dc, p_dv, lk_z, lk_s, st_z, st_s, un_z, un_s, wipe_n, wipe_c, p_d2, p_d1, p_dnil, p_dcons, p_dL, p_asB, p_asI, p_asL, p_asSeqL, p_asSeqT, p_bV, p_dB, p_bAnd, p_bOr, p_bNot, p_dIf, p_dAnd, p_dOr, p_dNot, p_dCh, p_bYes, p_gN, p_gT, p_gsNil, p_gsCons, p_dNx, p_dRet, p_dSet, p_dIfS, p_dAsg, p_dPar, p_dAug, p_dApp, p_dSetIx, p_nLst, p_nRep, p_nOf, p_dSetN, p_dParN1, p_dParNN, p_iSeq, p_iRng1, p_iRng2, p_oNo, p_oIx, p_dSl, p_asIx, p_opTup, p_opLst, p_lenT, p_lenL, p_lenS, p_tupT, p_tupL, p_add, p_sub, p_mul, p_lt, p_le, p_gt, p_ge, p_eqI, p_neI, p_isN, p_isnN, p_isB, p_isnB, p_isNone_n, p_isNone_i, p_isNone_t, p_isNone_l, p_appL, p_appT, b_mc, b_mn, b_ac, b_an, b_rs, b_rz, b_lc, b_ln, b_it, b_if, b_itt, b_iff, p_dSeq, p_eqB, p_neB, len_eT, len_eR, len_eV, isNone_eO, seq_eT, seq_eR, seq_eV, seq_eL, eO_some, eO_none, len_eL, ↓p_eqN, ↓p_neN, ↓p_ltN, ↓p_leN, ↓p_gtN, ↓p_geN, t1, t2, eO_some, hpm]) (by omega) (by
          intro x _
          refine ⟨_, rfl, by simp only [bnd_some, bnd_none, p_dc, p_dv, lk_z, lk_s, st_z, st_s, un_z, un_s, wipe_n, wipe_c, p_d2, p_d1, p_dnil, p_dcons, p_dL, p_asB, p_asI, p_asL, p_asSeqL, p_asSeqT, p_bV, p_dB, p_bAnd, p_bOr, p_bNot, p_dIf, p_dAnd, p_dOr, p_dNot, p_dCh, p_bYes, p_gN, p_gT, p_gsNil, p_gsCons, p_dNx, p_dRet, p_dSet, p_dIfS, p_dAsg, p_dPar, p_dAug, p_dApp, p_dSetIx, p_nLst, p_nRep, p_nOf, p_dSetN, p_dParN1, p_dParNN, p_iSeq, p_iRng1, p_iRng2, p_oNo, p_oIx, p_dSl, p_asIx, p_opTup, p_opLst, p_lenT, p_lenL, p_lenS, p_tupT, p_tupL, p_add, p_sub, p_mul, p_lt, p_le, p_gt, p_ge, p_eqI, p_neI, p_isN, p_isnN, p_isB, p_isnB, p_isNone_n, p_isNone_i, p_isNone_t, p_isNone_l, p_appL, p_appT, b_mc, b_mn, b_ac, b_an, b_rs, b_rz, b_lc, b_ln, b_it, b_if, b_itt, b_iff, p_dSeq, p_eqB, p_neB, len_eT, len_eR, len_eV, isNone_eO, seq_eT, seq_eR, seq_eV, seq_eL, eO_some, eO_none, len_eL, ↓p_eqN, ↓p_neN, ↓p_ltN, ↓p_leN, ↓p_gtN, ↓p_geN, notIn_eL], fun _ => by simp only [bnd_some, bnd_none, p_dc, p_dv, lk_z, lk_s, st_z, st_s, un_z, un_s, wipe_n, wipe_c, p_d2, p_d1, p_dnil, p_dcons, p_dL, p_asB, p_asI, p_asL, p_asSeqL, p_asSeqT, p_bV, p_dB, p_bAnd, p_bOr, p_bNot, p_dIf, p_dAnd, p_dOr, p_dNot, p_dCh, p_bYes, p_gN, p_gT, p_gsNil, p_gsCons, p_dNx, p_dRet, p_dSet, p_dIfS, p_dAsg, p_dPar, p_dAug, p_dApp, p_dSetIx, p_nLst, p_nRep, p_nOf, p_dSetN, p_dParN1, p_dParNN, p_iSeq, p_iRng1, p_iRng2, p_oNo, p_oIx, p_dSl, p_asIx, p_opTup, p_opLst, p_lenT, p_lenL, p_lenS, p_tupT, p_tupL, p_add, p_sub, p_mul, p_lt, p_le, p_gt, p_ge, p_eqI, p_neI, p_isN, p_isnN, p_isB, p_isnB, p_isNone_n, p_isNone_i, p_isNone_t, p_isNone_l, p_appL, p_appT, b_mc, b_mn, b_ac, b_an, b_rs, b_rz, b_lc, b_ln, b_it, b_if, b_itt, b_iff, p_dSeq, p_eqB, p_neB, len_eT, len_eR, len_eV, isNone_eO, seq_eT, seq_eR, seq_eV, seq_eL, eO_some, eO_none, len_eL, ↓p_eqN, ↓p_neN, ↓p_ltN, ↓p_leN, ↓p_gtN, ↓p_geN]⟩)]
        rfl
      have fln : (pl.filter fun p => decide (p ∉ F)).length ≤ 40 := Nat.le_trans (List.length_filter_le _ _) pln
      have ad : opAdd (eL F) (eL (pl.filter fun p => decide (p ∉ F))) = some (eL (F ++ pl.filter fun p => decide (p ∉ F))) := by
        have hl : (F.map fun n : Nat => D.int n).length + ((pl.filter fun p => decide (p ∉ F)).map fun n : Nat => D.int n).length ≤ 16777216 := by
          rw [List.length_map, List.length_map]; omega
        show opAdd (.lst _) (.lst _) = _
        rw [p_appL, if_pos hl]
        unfold eL
        rw [List.map_append]
      refine ⟨_, rfl, [some (eT m w T), some (eL (F ++ pl.filter fun p => decide (p ∉ F))), some (.int p.1), some (.int p.2), none], by simp only [m_all_primes_b1, bnd_some, bnd_none, p_dc, p_dv, lk_z, lk_s, st_z, st_s, un_z, un_s, wipe_n, wipe_c, p_d2, p_d1, p_dnil, p_dcons, p_dL, p_asB, p_asI, p_asL, p_asSeqL, p_asSeqT, p_bV, p_dB, p_bAnd, p_bOr, p_bNot, p_dIf, p_dAnd, p_dOr, p_dNot, p_dCh, p_bYes, p_gN, p_gT, p_gsNil, p_gsCons, p_dNx, p_dRet, p_dSet, p_dIfS, p_dAsg, p_dPar, p_dAug, p_dApp, p_dSetIx, p_nLst, p_nRep, p_nOf, p_dSetN, p_dParN1, p_dParNN, p_iSeq, p_iRng1, p_iRng2, p_oNo, p_oIx, p_dSl, p_asIx, p_opTup, p_opLst, p_lenT, p_lenL, p_lenS, p_tupT, p_tupL, p_add, p_sub, p_mul, p_lt, p_le, p_gt, p_ge, p_eqI, p_neI, p_isN, p_isnN, p_isB, p_isnB, p_isNone_n, p_isNone_i, p_isNone_t, p_isNone_l, p_appL, p_appT, b_mc, b_mn, b_ac, b_an, b_rs, b_rz, b_lc, b_ln, b_it, b_if, b_itt, b_iff, p_dSeq, p_eqB, p_neB, len_eT, len_eR, len_eV, isNone_eO, seq_eT, seq_eR, seq_eV, seq_eL, eO_some, eO_none, len_eL, ↓p_eqN, ↓p_neN, ↓p_ltN, ↓p_leN, ↓p_gtN, ↓p_geN, c1, ad], _, _, _, ⟨?_, ?_, ?_⟩, rfl⟩
      · rw [List.nodup_append]
        have pnd : pl.Nodup := hpl.1.imp fun {a b} (z : a < b) => by omega
        refine ⟨nd, List.Nodup.sublist List.filter_sublist pnd, fun a ha b hb z => ?_⟩
        have := (List.mem_filter.mp hb).2
        subst z
        exact (of_decide_eq_true this) ha
      · intro x
        rw [List.mem_append, List.mem_filter, decide_eq_true_eq, mem, hpl.2]
        constructor
        · rintro (⟨h1, q, hq, e, he, hd⟩ | ⟨⟨h1, h2⟩, _⟩)
          · exact ⟨h1, q, List.mem_append_left _ hq, e, he, hd⟩
          · exact ⟨h1, p, by simp, v, hv, h2⟩
        · rintro ⟨h1, q, hq, e, he, hd⟩
          by_cases z : x ∈ F
          · exact Or.inl ((mem x).mp z)
          · rcases List.mem_append.mp hq with y | y
            · exact Or.inl ⟨h1, q, y, e, he, hd⟩
            · rw [List.mem_singleton.mp y, hv] at he
              cases he
              exact Or.inr ⟨⟨h1, hd⟩, fun y => z ((mem x).mpr y)⟩
      · rw [List.length_append, List.length_append, List.length_singleton]; omega) ⟨[], _, _, ⟨List.nodup_nil, by simp, by simp⟩, rfl⟩
  subst h2
  obtain ⟨l', s1, s2, s3⟩ := sorted_m F
  have f := (for_eq (it := iSeq (dL m_known_places (dcons (dv 0) dnil))) (ρ := [some (eT m w T), some (.lst []), none, none, none]) (by simp only [bnd_some, bnd_none, p_dc, p_dv, lk_z, lk_s, st_z, st_s, un_z, un_s, wipe_n, wipe_c, p_d2, p_d1, p_dnil, p_dcons, p_dL, p_asB, p_asI, p_asL, p_asSeqL, p_asSeqT, p_bV, p_dB, p_bAnd, p_bOr, p_bNot, p_dIf, p_dAnd, p_dOr, p_dNot, p_dCh, p_bYes, p_gN, p_gT, p_gsNil, p_gsCons, p_dNx, p_dRet, p_dSet, p_dIfS, p_dAsg, p_dPar, p_dAug, p_dApp, p_dSetIx, p_nLst, p_nRep, p_nOf, p_dSetN, p_dParN1, p_dParNN, p_iSeq, p_iRng1, p_iRng2, p_oNo, p_oIx, p_dSl, p_asIx, p_opTup, p_opLst, p_lenT, p_lenL, p_lenS, p_tupT, p_tupL, p_add, p_sub, p_mul, p_lt, p_le, p_gt, p_ge, p_eqI, p_neI, p_isN, p_isnN, p_isB, p_isnB, p_isNone_n, p_isNone_i, p_isNone_t, p_isNone_l, p_appL, p_appT, b_mc, b_mn, b_ac, b_an, b_rs, b_rz, b_lc, b_ln, b_it, b_if, b_itt, b_iff, p_dSeq, p_eqB, p_neB, len_eT, len_eR, len_eV, isNone_eO, seq_eT, seq_eR, seq_eV, seq_eL, eO_some, eO_none, len_eL, ↓p_eqN, ↓p_neN, ↓p_ltN, ↓p_leN, ↓p_gtN, ↓p_geN, hk])).trans h1
  have mm : ∀ p, p ∈ l' ↔ IsP p ∧ ∃ i j e, i < m ∧ j < w ∧ T i j = some e ∧ p ∣ e := by
    intro p
    rw [s1.mem_iff, mem]
    constructor
    · rintro ⟨h1, q, hq, e, he, hd⟩
      have := mem_kp.mp hq
      exact ⟨h1, q.1, q.2, e, this.1, this.2.1, he, hd⟩
    · rintro ⟨h1, i, j, e, hi, hj, he, hd⟩
      exact ⟨h1, (i, j), mem_kp.mpr ⟨hi, hj, by simp [he]⟩, e, he, hd⟩
  refine ⟨l', ⟨lt_of_le_nodup' l' s2 (s1.nodup_iff.mpr nd), mm⟩, fun p hp => ?_, run_rt rfl (by simp only [bnd_some, bnd_none, p_dc, p_dv, lk_z, lk_s, st_z, st_s, un_z, un_s, wipe_n, wipe_c, p_d2, p_d1, p_dnil, p_dcons, p_dL, p_asB, p_asI, p_asL, p_asSeqL, p_asSeqT, p_bV, p_dB, p_bAnd, p_bOr, p_bNot, p_dIf, p_dAnd, p_dOr, p_dNot, p_dCh, p_bYes, p_gN, p_gT, p_gsNil, p_gsCons, p_dNx, p_dRet, p_dSet, p_dIfS, p_dAsg, p_dPar, p_dAug, p_dApp, p_dSetIx, p_nLst, p_nRep, p_nOf, p_dSetN, p_dParN1, p_dParNN, p_iSeq, p_iRng1, p_iRng2, p_oNo, p_oIx, p_dSl, p_asIx, p_opTup, p_opLst, p_lenT, p_lenL, p_lenS, p_tupT, p_tupL, p_add, p_sub, p_mul, p_lt, p_le, p_gt, p_ge, p_eqI, p_neI, p_isN, p_isnN, p_isB, p_isnB, p_isNone_n, p_isNone_i, p_isNone_t, p_isNone_l, p_appL, p_appT, b_mc, b_mn, b_ac, b_an, b_rs, b_rz, b_lc, b_ln, b_it, b_if, b_itt, b_iff, p_dSeq, p_eqB, p_neB, len_eT, len_eR, len_eV, isNone_eO, seq_eT, seq_eR, seq_eV, seq_eL, eO_some, eO_none, len_eL, ↓p_eqN, ↓p_neN, ↓p_ltN, ↓p_leN, ↓p_gtN, ↓p_geN, Nat.reduceSub, Nat.zero_le, f, s3])⟩
  obtain ⟨_, i, j, e, _, _, he, hd⟩ := (mm p).mp hp
  have := hM.bd he
  exact Nat.le_trans (Nat.le_of_dvd this.1 hd) this.2
end Mi
namespace Mi
open DL
def Tv (T : Nat → Nat → Option Nat) (q : Nat × Nat) : Nat := (T q.1 q.2).getD 1
/-- what the sure parts are: the least numbers with the prime powers that only they can give -/
structure SureI (T : Nat → Nat → Option Nat) (R C : Nat → Nat) (Dn : Nat → Nat × Nat → Prop) (A B : Nat → Nat) : Prop where
  row : ∀ i d, A i ∣ d ↔ ∀ p q, Dn p q → q.1 = i → ex p (C q.2) < ex p (Tv T q) → p ^ ex p (Tv T q) ∣ d
  col : ∀ j d, B j ∣ d ↔ ∀ p q, Dn p q → q.2 = j → ex p (R q.1) < ex p (Tv T q) → p ^ ex p (Tv T q) ∣ d
theorem SureI.congr {T : Nat → Nat → Option Nat} {R C A B : Nat → Nat} {Dn Dn' : Nat → Nat × Nat → Prop} (h : SureI T R C Dn A B) (e : ∀ p q, Dn p q ↔ Dn' p q) : SureI T R C Dn' A B :=
  ⟨fun i d => (h.row i d).trans ⟨fun z p q hd => z p q ((e p q).mpr hd), fun z p q hd => z p q ((e p q).mp hd)⟩,
   fun j d => (h.col j d).trans ⟨fun z p q hd => z p q ((e p q).mpr hd), fun z p q hd => z p q ((e p q).mp hd)⟩⟩
def upd1 (A : Nat → Nat) (c : Bool) (i x : Nat) : Nat → Nat := fun k => if c = true ∧ k = i then Nat.lcm (A k) x else A k
theorem upd1_dvd (A : Nat → Nat) (c : Bool) (i x k d : Nat) : upd1 A c i x k ∣ d ↔ A k ∣ d ∧ (c = true → k = i → x ∣ d) := by
  unfold upd1
  by_cases h : c = true ∧ k = i
  · rw [if_pos h, Nat.lcm_dvd_iff]
    constructor
    · rintro ⟨a, b⟩; exact ⟨a, fun _ _ => b⟩
    · rintro ⟨a, b⟩; exact ⟨a, b h.1 h.2⟩
  · rw [if_neg h]
    constructor
    · intro a; exact ⟨a, fun h1 h2 => absurd ⟨h1, h2⟩ h⟩
    · intro a; exact a.1
theorem SureI.step {T : Nat → Nat → Option Nat} {R C A B : Nat → Nat} {Dn : Nat → Nat × Nat → Prop} (h : SureI T R C Dn A B) (p : Nat) (q : Nat × Nat) :
    SureI T R C (fun p' q' => Dn p' q' ∨ (p' = p ∧ q' = q)) (upd1 A (decide (ex p (C q.2) < ex p (Tv T q))) q.1 (p ^ ex p (Tv T q))) (upd1 B (decide (ex p (R q.1) < ex p (Tv T q))) q.2 (p ^ ex p (Tv T q))) := by
  constructor
  · intro i d
    rw [upd1_dvd, h.row]
    constructor
    · rintro ⟨h1, h2⟩ p' q' (hd | ⟨rfl, rfl⟩) hi hl
      · exact h1 p' q' hd hi hl
      · exact h2 (decide_eq_true hl) hi.symm
    · intro h1
      exact ⟨fun p' q' hd => h1 p' q' (Or.inl hd), fun h2 h3 => h1 p q (Or.inr ⟨rfl, rfl⟩) h3.symm (of_decide_eq_true h2)⟩
  · intro j d
    rw [upd1_dvd, h.col]
    constructor
    · rintro ⟨h1, h2⟩ p' q' (hd | ⟨rfl, rfl⟩) hi hl
      · exact h1 p' q' hd hi hl
      · exact h2 (decide_eq_true hl) hi.symm
    · intro h1
      exact ⟨fun p' q' hd => h1 p' q' (Or.inl hd), fun h2 h3 => h1 p q (Or.inr ⟨rfl, rfl⟩) h3.symm (of_decide_eq_true h2)⟩
theorem upd1_if (A : Nat → Nat) (n i x : Nat) (c : Bool) : D.lst ((List.range n).map fun k => .int (upd1 A c i x k)) = .lst (if c = true then ((List.range n).map fun k => D.int (A k)).set i (.int (Nat.lcm (A i) x)) else (List.range n).map fun k => .int (A k)) := by
  cases c with
  | false =>
    rw [if_neg (by decide)]
    refine congrArg D.lst (List.map_congr_left fun k _ => ?_)
    simp [upd1]
  | true =>
    rw [if_pos rfl, set_range]
    refine congrArg D.lst (List.map_congr_left fun k _ => ?_)
    unfold upd1
    by_cases z : k = i
    · subst z; simp
    · simp [z]
def SureA (m w : Nat) (T : Nat → Nat → Option Nat) (A B : Nat → Nat) : Prop := SureI T (gR w T) (gC m T) (fun p q => IsP p ∧ q ∈ kp m w T) A B
theorem sure_m {M m w : Nat} {T : Nat → Nat → Option Nat} (h : Tab m w T) (hM : DvM M T) : ∃ A B : Nat → Nat, SureA m w T A B ∧ (∀ i, A i ∣ M) ∧ (∀ j, B j ∣ M) ∧ m_sure [eT m w T] = some (.tup [eV m A, eV w B]) := by
  have hm0 := h.m0
  have hm1 := h.m1
  have hw1 := h.w1
  have hk := known_places_m h
  have kl := kp_len1 h
  obtain ⟨pl, hpl, hplb, hpm⟩ := all_primes_m h hM
  let R := gR w T
  let C := gC m T
  have gr : m_greatest [eT m w T] = some (.tup [eV m R, eV w C]) := greatest_m h
  let eA : (Nat → Nat) → D := fun A => .lst ((List.range m).map fun i => .int (A i))
  let eB : (Nat → Nat) → D := fun A => .lst ((List.range w).map fun i => .int (A i))
  have bdA : ∀ (Dn : Nat → Nat × Nat → Prop) A B, SureI T R C Dn A B → (∀ p q, Dn p q → IsP p ∧ q ∈ kp m w T) → (∀ i, A i ∣ M) ∧ (∀ j, B j ∣ M) := by
    intro Dn A B hs hd
    have key : ∀ p q, Dn p q → p ^ ex p (Tv T q) ∣ M := fun p q hpq => by
      obtain ⟨h1, h2⟩ := hd p q hpq
      obtain ⟨e, he, _, _⟩ := kp_some h2
      have : Tv T q = e := by unfold Tv; rw [he]; rfl
      rw [this]
      exact Nat.dvd_trans (pow_ex_dvd h1.two (hM.bd he).1) (hM.dvd _ _ _ he)
    exact ⟨fun i => (hs.row i M).mpr fun p q hpq _ _ => key p q hpq, fun j => (hs.col j M).mpr fun p q hpq _ _ => key p q hpq⟩
  have Mb : ∀ x, x ∣ M → 0 < x ∧ x ≤ 1000000000 := fun x hx => ⟨Nat.pos_of_dvd_of_pos hx hM.pos, Nat.le_trans (Nat.le_of_dvd hM.pos hx) hM.le⟩
  -- one prime, one place
  have one : ∀ (Dn : Nat → Nat × Nat → Prop) (A B : Nat → Nat) (p : Nat) (q : Nat × Nat) (x8 : Option D), SureI T R C Dn A B → (∀ p q, Dn p q → IsP p ∧ q ∈ kp m w T) → p ∈ pl → q ∈ kp m w T →
      ∃ A' B', SureI T R C (fun p' q' => Dn p' q' ∨ (p' = p ∧ q' = q)) A' B' ∧ ∃ ρ', m_sure_b1 [some (eT m w T), some (eA A), some (eB B), some (eV m R), some (eV w C), some (.int p), some (.int q.1), some (.int q.2), x8] = some (.nx ρ') ∧
        ∃ x6 x7 x8, ρ' = [some (eT m w T), some (eA A'), some (eB B'), some (eV m R), some (eV w C), some (.int p), x6, x7, x8] := by
    intro Dn A B p q x8 hs hd hp hq
    obtain ⟨e, he, p1, p2⟩ := kp_some hq
    have hpp := ((hpl.2 p).mp hp).1
    have pb := hplb p hp
    have be := hM.bd he
    have bd := bdA Dn A B hs hd
    have ba := Mb _ (bd.1 q.1)
    have bb := Mb _ (bd.2 q.2)
    have tv : Tv T q = e := by unfold Tv; rw [he]; rfl
    have r0 : 0 < R q.1 := gRow_pos p2 he be.1
    have c0 : 0 < C q.2 := gRow_pos (f := fun i => T i q.2) p1 he be.1
    have r1 : R q.1 ≤ 1000000000000000000 := gRow_le (fun j e q => h.bd _ j e q) w
    have c1 : C q.2 ≤ 1000000000000000000 := gRow_le (fun i e q => h.bd i _ e q) m
    have t1 := ix_eT (w := w) (T := T) p1
    have t2 := ix_eR (T := T q.1) p2
    rw [he] at t2
    have e1 := exponent_m (p := p) (n := e) hpp.two (by omega) be.1 (by omega)
    have e2 := exponent_m (p := p) (n := C q.2) hpp.two (by omega) c0 c1
    have e3 := exponent_m (p := p) (n := R q.1) hpp.two (by omega) r0 r1
    have i3 : opIx (eV m R) (.int q.1) = some (.int (R q.1)) := ix_eV p1
    have i4 : opIx (eV w C) (.int q.2) = some (.int (C q.2)) := ix_eV p2
    have xl := ex_lt hpp.two be.1
    have pd : p ^ ex p e ∣ e := pow_ex_dvd hpp.two be.1
    have pwl := Nat.le_of_dvd be.1 pd
    have pw0 := Nat.pos_of_dvd_of_pos pd be.1
    have pw := power_m (p := p) (t := ex p e) (by omega) (by omega)
    have l1 := lcm_m ba.1 (b := p ^ ex p e) (by omega) (Nat.lt_of_le_of_lt (Nat.gcd_le_left _ ba.1) (by omega))
    have l2 := lcm_m bb.1 (b := p ^ ex p e) (by omega) (Nat.lt_of_le_of_lt (Nat.gcd_le_left _ bb.1) (by omega))
    have j1 : opIx (eA A) (.int q.1) = some (.int (A q.1)) := ixRL p1
    have j2 : opIx (eB B) (.int q.2) = some (.int (B q.2)) := ixRL p2
    have la : asL (eA A) = some ((List.range m).map fun i => D.int (A i)) := rfl
    have lb : asL (eB B) = some ((List.range w).map fun i => D.int (B i)) := rfl
    have n1 : ixNat ((List.range m).map fun i => D.int (A i)).length (q.1 : Int) = some q.1 := ixN (by simp; omega)
    have n2 : ixNat ((List.range w).map fun i => D.int (B i)).length (q.2 : Int) = some q.2 := ixN (by simp; omega)
    have hst := hs.step p q
    rw [tv] at hst
    refine ⟨_, _, hst, ?_⟩
    have u1 := upd1_if A m q.1 (p ^ ex p e) (decide (ex p (C q.2) < ex p e))
    have u2 := upd1_if B w q.2 (p ^ ex p e) (decide (ex p (R q.1) < ex p e))
    have u1' : eA (upd1 A (decide (ex p (C q.2) < ex p e)) q.1 (p ^ ex p e)) = _ := u1
    have u2' : eB (upd1 B (decide (ex p (R q.1) < ex p e)) q.2 (p ^ ex p e)) = _ := u2
    rw [u1', u2']
    by_cases d1 : ex p (C q.2) < ex p e <;> by_cases d2 : ex p (R q.1) < ex p e
    · simp only [m_sure_b1, bnd_some, bnd_none, p_dc, p_dv, lk_z, lk_s, st_z, st_s, un_z, un_s, wipe_n, wipe_c, p_d2, p_d1, p_dnil, p_dcons, p_dL, p_asB, p_asI, p_asL, p_asSeqL, p_asSeqT, p_bV, p_dB, p_bAnd, p_bOr, p_bNot, p_dIf, p_dAnd, p_dOr, p_dNot, p_dCh, p_bYes, p_gN, p_gT, p_gsNil, p_gsCons, p_dNx, p_dRet, p_dSet, p_dIfS, p_dAsg, p_dPar, p_dAug, p_dApp, p_dSetIx, p_nLst, p_nRep, p_nOf, p_dSetN, p_dParN1, p_dParNN, p_iSeq, p_iRng1, p_iRng2, p_oNo, p_oIx, p_dSl, p_asIx, p_opTup, p_opLst, p_lenT, p_lenL, p_lenS, p_tupT, p_tupL, p_add, p_sub, p_mul, p_lt, p_le, p_gt, p_ge, p_eqI, p_neI, p_isN, p_isnN, p_isB, p_isnB, p_isNone_n, p_isNone_i, p_isNone_t, p_isNone_l, p_appL, p_appT, b_mc, b_mn, b_ac, b_an, b_rs, b_rz, b_lc, b_ln, b_it, b_if, b_itt, b_iff, p_dSeq, p_eqB, p_neB, len_eT, len_eR, len_eV, isNone_eO, seq_eT, seq_eR, seq_eV, seq_eL, eO_some, eO_none, len_eL, ↓p_eqN, ↓p_neN, ↓p_ltN, ↓p_leN, ↓p_gtN, ↓p_geN, t1, t2, eO_some, e1, e2, e3, i3, i4, d1, d2, decide_true, j1, j2, pw, l1, l2, la, lb, n1, n2]
      exact ⟨_, rfl, _, _, _, rfl⟩
    · simp only [m_sure_b1, bnd_some, bnd_none, p_dc, p_dv, lk_z, lk_s, st_z, st_s, un_z, un_s, wipe_n, wipe_c, p_d2, p_d1, p_dnil, p_dcons, p_dL, p_asB, p_asI, p_asL, p_asSeqL, p_asSeqT, p_bV, p_dB, p_bAnd, p_bOr, p_bNot, p_dIf, p_dAnd, p_dOr, p_dNot, p_dCh, p_bYes, p_gN, p_gT, p_gsNil, p_gsCons, p_dNx, p_dRet, p_dSet, p_dIfS, p_dAsg, p_dPar, p_dAug, p_dApp, p_dSetIx, p_nLst, p_nRep, p_nOf, p_dSetN, p_dParN1, p_dParNN, p_iSeq, p_iRng1, p_iRng2, p_oNo, p_oIx, p_dSl, p_asIx, p_opTup, p_opLst, p_lenT, p_lenL, p_lenS, p_tupT, p_tupL, p_add, p_sub, p_mul, p_lt, p_le, p_gt, p_ge, p_eqI, p_neI, p_isN, p_isnN, p_isB, p_isnB, p_isNone_n, p_isNone_i, p_isNone_t, p_isNone_l, p_appL, p_appT, b_mc, b_mn, b_ac, b_an, b_rs, b_rz, b_lc, b_ln, b_it, b_if, b_itt, b_iff, p_dSeq, p_eqB, p_neB, len_eT, len_eR, len_eV, isNone_eO, seq_eT, seq_eR, seq_eV, seq_eL, eO_some, eO_none, len_eL, ↓p_eqN, ↓p_neN, ↓p_ltN, ↓p_leN, ↓p_gtN, ↓p_geN, t1, t2, eO_some, e1, e2, e3, i3, i4, d1, d2, decide_true, decide_false, j1, j2, pw, l1, l2, la, lb, n1, n2]
      exact ⟨_, rfl, _, _, _, rfl⟩
    · simp only [m_sure_b1, bnd_some, bnd_none, p_dc, p_dv, lk_z, lk_s, st_z, st_s, un_z, un_s, wipe_n, wipe_c, p_d2, p_d1, p_dnil, p_dcons, p_dL, p_asB, p_asI, p_asL, p_asSeqL, p_asSeqT, p_bV, p_dB, p_bAnd, p_bOr, p_bNot, p_dIf, p_dAnd, p_dOr, p_dNot, p_dCh, p_bYes, p_gN, p_gT, p_gsNil, p_gsCons, p_dNx, p_dRet, p_dSet, p_dIfS, p_dAsg, p_dPar, p_dAug, p_dApp, p_dSetIx, p_nLst, p_nRep, p_nOf, p_dSetN, p_dParN1, p_dParNN, p_iSeq, p_iRng1, p_iRng2, p_oNo, p_oIx, p_dSl, p_asIx, p_opTup, p_opLst, p_lenT, p_lenL, p_lenS, p_tupT, p_tupL, p_add, p_sub, p_mul, p_lt, p_le, p_gt, p_ge, p_eqI, p_neI, p_isN, p_isnN, p_isB, p_isnB, p_isNone_n, p_isNone_i, p_isNone_t, p_isNone_l, p_appL, p_appT, b_mc, b_mn, b_ac, b_an, b_rs, b_rz, b_lc, b_ln, b_it, b_if, b_itt, b_iff, p_dSeq, p_eqB, p_neB, len_eT, len_eR, len_eV, isNone_eO, seq_eT, seq_eR, seq_eV, seq_eL, eO_some, eO_none, len_eL, ↓p_eqN, ↓p_neN, ↓p_ltN, ↓p_leN, ↓p_gtN, ↓p_geN, t1, t2, eO_some, e1, e2, e3, i3, i4, d1, d2, decide_true, decide_false, j1, j2, pw, l1, l2, la, lb, n1, n2]
      exact ⟨_, rfl, _, _, _, rfl⟩
    · simp only [m_sure_b1, bnd_some, bnd_none, p_dc, p_dv, lk_z, lk_s, st_z, st_s, un_z, un_s, wipe_n, wipe_c, p_d2, p_d1, p_dnil, p_dcons, p_dL, p_asB, p_asI, p_asL, p_asSeqL, p_asSeqT, p_bV, p_dB, p_bAnd, p_bOr, p_bNot, p_dIf, p_dAnd, p_dOr, p_dNot, p_dCh, p_bYes, p_gN, p_gT, p_gsNil, p_gsCons, p_dNx, p_dRet, p_dSet, p_dIfS, p_dAsg, p_dPar, p_dAug, p_dApp, p_dSetIx, p_nLst, p_nRep, p_nOf, p_dSetN, p_dParN1, p_dParNN, p_iSeq, p_iRng1, p_iRng2, p_oNo, p_oIx, p_dSl, p_asIx, p_opTup, p_opLst, p_lenT, p_lenL, p_lenS, p_tupT, p_tupL, p_add, p_sub, p_mul, p_lt, p_le, p_gt, p_ge, p_eqI, p_neI, p_isN, p_isnN, p_isB, p_isnB, p_isNone_n, p_isNone_i, p_isNone_t, p_isNone_l, p_appL, p_appT, b_mc, b_mn, b_ac, b_an, b_rs, b_rz, b_lc, b_ln, b_it, b_if, b_itt, b_iff, p_dSeq, p_eqB, p_neB, len_eT, len_eR, len_eV, isNone_eO, seq_eT, seq_eR, seq_eV, seq_eL, eO_some, eO_none, len_eL, ↓p_eqN, ↓p_neN, ↓p_ltN, ↓p_leN, ↓p_gtN, ↓p_geN, t1, t2, eO_some, e1, e2, e3, i3, i4, d1, d2, decide_false, j1, j2]
      exact ⟨_, rfl, _, _, _, rfl⟩
  have inner : ∀ (preP : List Nat) (p : Nat) (A B : Nat → Nat) (x6 x7 x8 : Option D), (∀ x ∈ preP, x ∈ pl) → p ∈ pl → SureI T R C (fun p' q' => p' ∈ preP ∧ q' ∈ kp m w T) A B →
      ∃ ρ', forL (gT (gsCons (gN 6) (gsCons (gN 7) gsNil))) m_sure_b1 ((kp m w T).map eP) [some (eT m w T), some (eA A), some (eB B), some (eV m R), some (eV w C), some (.int p), x6, x7, x8] = some (.nx ρ') ∧
        ∃ A' B' x6 x7 x8, SureI T R C (fun p' q' => p' ∈ preP ++ [p] ∧ q' ∈ kp m w T) A' B' ∧ ρ' = [some (eT m w T), some (eA A'), some (eB B'), some (eV m R), some (eV w C), some (.int p), x6, x7, x8] := by
    intro preP p A B x6 x7 x8 hpre hp hs
    obtain ⟨ρ', h1, A', B', y6, y7, y8, h2, h3⟩ := for_pre (g := gT (gsCons (gN 6) (gsCons (gN 7) gsNil))) (b := m_sure_b1) eP
      (fun pre ρ => ∃ A B x6 x7 x8, SureI T R C (fun p' q' => (p' ∈ preP ∧ q' ∈ kp m w T) ∨ (p' = p ∧ q' ∈ pre)) A B ∧ ρ = [some (eT m w T), some (eA A), some (eB B), some (eV m R), some (eV w C), some (.int p), x6, x7, x8]) (kp m w T)
      (ρ := [some (eT m w T), some (eA A), some (eB B), some (eV m R), some (eV w C), some (.int p), x6, x7, x8]) (by
        rintro pre q r e ρ ⟨A, B, x6, x7, x8, hs, rfl⟩
        have hq : q ∈ kp m w T := by rw [e]; simp
        obtain ⟨A', B', hs', ρ', h1, y6, y7, y8, h2⟩ := one _ A B p q x8 hs (fun p' q' hd => by
          rcases hd with ⟨z1, z2⟩ | ⟨z1, z2⟩
          · exact ⟨((hpl.2 p').mp (hpre p' z1)).1, z2⟩
          · rw [z1]; exact ⟨((hpl.2 p).mp hp).1, by rw [e]; exact List.mem_append_left _ z2⟩) hp hq
        refine ⟨_, rfl, ρ', h1, A', B', y6, y7, y8, hs'.congr fun p' q' => ?_, h2⟩
        simp only [List.mem_append, List.mem_singleton]
        constructor
        · rintro ((z | ⟨z1, z2⟩) | ⟨z1, z2⟩)
          · exact Or.inl z
          · exact Or.inr ⟨z1, Or.inl z2⟩
          · exact Or.inr ⟨z1, Or.inr z2⟩
        · rintro (z | ⟨z1, z2 | z2⟩)
          · exact Or.inl (Or.inl z)
          · exact Or.inl (Or.inr ⟨z1, z2⟩)
          · exact Or.inr ⟨z1, z2⟩) ⟨A, B, x6, x7, x8, hs.congr fun p' q' => by simp, rfl⟩
    refine ⟨ρ', h1, A', B', y6, y7, y8, h2.congr fun p' q' => ?_, h3⟩
    simp only [List.mem_append, List.mem_singleton]
    constructor
    · rintro (⟨z1, z2⟩ | ⟨z1, z2⟩)
      · exact ⟨Or.inl z1, z2⟩
      · exact ⟨Or.inr z1, z2⟩
    · rintro ⟨z1 | z1, z2⟩
      · exact Or.inl ⟨z1, z2⟩
      · exact Or.inr ⟨z1, z2⟩
  obtain ⟨ρ', h1, A, B, x5, x6, x7, x8, h2, h3⟩ := for_pre (g := gN 5) (b := m_sure_b2) (fun n : Nat => D.int n)
    (fun pre ρ => ∃ A B x5 x6 x7 x8, SureI T R C (fun p' q' => p' ∈ pre ∧ q' ∈ kp m w T) A B ∧ ρ = [some (eT m w T), some (eA A), some (eB B), some (eV m R), some (eV w C), x5, x6, x7, x8]) pl
    (ρ := [some (eT m w T), some (eA fun _ => 1), some (eB fun _ => 1), some (eV m R), some (eV w C), none, none, none, none]) (by
      rintro pre p r e ρ ⟨A, B, x5, x6, x7, x8, hs, rfl⟩
      obtain ⟨ρ', h1, A', B', y6, y7, y8, h2, h3⟩ := inner pre p A B x6 x7 x8 (fun x hx => by rw [e]; exact List.mem_append_left _ hx) (by rw [e]; simp) hs
      have f := (for_eq (it := iSeq (dL m_known_places (dcons (dv 0) dnil))) (ρ := [some (eT m w T), some (eA A), some (eB B), some (eV m R), some (eV w C), some (.int p), x6, x7, x8]) (by simp only [bnd_some, bnd_none, p_dc, p_dv, lk_z, lk_s, st_z, st_s, un_z, un_s, wipe_n, wipe_c, p_d2, p_d1, p_dnil, p_dcons, p_dL, p_asB, p_asI, p_asL, p_asSeqL, p_asSeqT, p_bV, p_dB, p_bAnd, p_bOr, p_bNot, p_dIf, p_dAnd, p_dOr, p_dNot, p_dCh, p_bYes, p_gN, p_gT, p_gsNil, p_gsCons, p_dNx, p_dRet, p_dSet, p_dIfS, p_dAsg, p_dPar, p_dAug, p_dApp, p_dSetIx, p_nLst, p_nRep, p_nOf, p_dSetN, p_dParN1, p_dParNN, p_iSeq, p_iRng1, p_iRng2, p_oNo, p_oIx, p_dSl, p_asIx, p_opTup, p_opLst, p_lenT, p_lenL, p_lenS, p_tupT, p_tupL, p_add, p_sub, p_mul, p_lt, p_le, p_gt, p_ge, p_eqI, p_neI, p_isN, p_isnN, p_isB, p_isnB, p_isNone_n, p_isNone_i, p_isNone_t, p_isNone_l, p_appL, p_appT, b_mc, b_mn, b_ac, b_an, b_rs, b_rz, b_lc, b_ln, b_it, b_if, b_itt, b_iff, p_dSeq, p_eqB, p_neB, len_eT, len_eR, len_eV, isNone_eO, seq_eT, seq_eR, seq_eV, seq_eL, eO_some, eO_none, len_eL, ↓p_eqN, ↓p_neN, ↓p_ltN, ↓p_leN, ↓p_gtN, ↓p_geN, hk])).trans h1
      exact ⟨_, rfl, ρ', f, A', B', _, y6, y7, y8, h2, h3⟩) ⟨fun _ => 1, fun _ => 1, none, none, none, none, ⟨fun i d => ⟨fun _ p q z => absurd z.1 (by simp), fun _ => Nat.one_dvd d⟩, fun i d => ⟨fun _ p q z => absurd z.1 (by simp), fun _ => Nat.one_dvd d⟩⟩, rfl⟩
  subst h3
  have f := (for_eq (it := iSeq (dL m_all_primes (dcons (dv 0) dnil))) (ρ := [some (eT m w T), some (eA fun _ => 1), some (eB fun _ => 1), some (eV m R), some (eV w C), none, none, none, none]) (by simp only [bnd_some, bnd_none, p_dc, p_dv, lk_z, lk_s, st_z, st_s, un_z, un_s, wipe_n, wipe_c, p_d2, p_d1, p_dnil, p_dcons, p_dL, p_asB, p_asI, p_asL, p_asSeqL, p_asSeqT, p_bV, p_dB, p_bAnd, p_bOr, p_bNot, p_dIf, p_dAnd, p_dOr, p_dNot, p_dCh, p_bYes, p_gN, p_gT, p_gsNil, p_gsCons, p_dNx, p_dRet, p_dSet, p_dIfS, p_dAsg, p_dPar, p_dAug, p_dApp, p_dSetIx, p_nLst, p_nRep, p_nOf, p_dSetN, p_dParN1, p_dParNN, p_iSeq, p_iRng1, p_iRng2, p_oNo, p_oIx, p_dSl, p_asIx, p_opTup, p_opLst, p_lenT, p_lenL, p_lenS, p_tupT, p_tupL, p_add, p_sub, p_mul, p_lt, p_le, p_gt, p_ge, p_eqI, p_neI, p_isN, p_isnN, p_isB, p_isnB, p_isNone_n, p_isNone_i, p_isNone_t, p_isNone_l, p_appL, p_appT, b_mc, b_mn, b_ac, b_an, b_rs, b_rz, b_lc, b_ln, b_it, b_if, b_itt, b_iff, p_dSeq, p_eqB, p_neB, len_eT, len_eR, len_eV, isNone_eO, seq_eT, seq_eR, seq_eV, seq_eL, eO_some, eO_none, len_eL, ↓p_eqN, ↓p_neN, ↓p_ltN, ↓p_leN, ↓p_gtN, ↓p_geN, hpm])).trans h1
  have fl : ∀ (n : Nat), (List.replicate n [D.int 1]).flatten = (List.range n).map fun _ => D.int ((1 : Nat) : Int) := fun n => by
    have : ∀ n, (List.replicate n [D.int 1]).flatten = List.replicate n (D.int 1) := fun n => by
      induction n with
      | zero => rfl
      | succ n ih => rw [List.replicate_succ, List.replicate_succ, List.flatten_cons, ih]; rfl
    rw [this]
    apply List.ext_getElem
    · simp
    · intro i _ _
      simp
  have r1 : nRep (dL opLst (dcons (dc (.int 1)) dnil)) (dL opLen (dcons (dv 0) dnil)) [some (eT m w T), none, none, none, none, none, none, none, none] = some ((List.range m).map fun _ => D.int ((1 : Nat) : Int)) := by
    have c : ((m : Int) ≤ 16777216 ∧ (-16777216 : Int) ≤ m ∧ 1 * m ≤ 16777216) := by omega
    simp only [bnd_some, bnd_none, p_dc, p_dv, lk_z, lk_s, st_z, st_s, un_z, un_s, wipe_n, wipe_c, p_d2, p_d1, p_dnil, p_dcons, p_dL, p_asB, p_asI, p_asL, p_asSeqL, p_asSeqT, p_bV, p_dB, p_bAnd, p_bOr, p_bNot, p_dIf, p_dAnd, p_dOr, p_dNot, p_dCh, p_bYes, p_gN, p_gT, p_gsNil, p_gsCons, p_dNx, p_dRet, p_dSet, p_dIfS, p_dAsg, p_dPar, p_dAug, p_dApp, p_dSetIx, p_nLst, p_nRep, p_nOf, p_dSetN, p_dParN1, p_dParNN, p_iSeq, p_iRng1, p_iRng2, p_oNo, p_oIx, p_dSl, p_asIx, p_opTup, p_opLst, p_lenT, p_lenL, p_lenS, p_tupT, p_tupL, p_add, p_sub, p_mul, p_lt, p_le, p_gt, p_ge, p_eqI, p_neI, p_isN, p_isnN, p_isB, p_isnB, p_isNone_n, p_isNone_i, p_isNone_t, p_isNone_l, p_appL, p_appT, b_mc, b_mn, b_ac, b_an, b_rs, b_rz, b_lc, b_ln, b_it, b_if, b_itt, b_iff, p_dSeq, p_eqB, p_neB, len_eT, len_eR, len_eV, isNone_eO, seq_eT, seq_eR, seq_eV, seq_eL, eO_some, eO_none, len_eL, ↓p_eqN, ↓p_neN, ↓p_ltN, ↓p_leN, ↓p_gtN, ↓p_geN, Nat.reduceAdd, Nat.reduceLeDiff, if_pos c, Int.toNat_natCast, fl]
  have r2 : nRep (dL opLst (dcons (dc (.int 1)) dnil)) (dL opLen (dcons (d2 opIx (dv 0) (dc (.int 0))) dnil)) [some (eT m w T), none, none, none, none, none, none, none, none] = some ((List.range w).map fun _ => D.int ((1 : Nat) : Int)) := by
    have c : ((w : Int) ≤ 16777216 ∧ (-16777216 : Int) ≤ w ∧ 1 * w ≤ 16777216) := by omega
    simp only [bnd_some, bnd_none, p_dc, p_dv, lk_z, lk_s, st_z, st_s, un_z, un_s, wipe_n, wipe_c, p_d2, p_d1, p_dnil, p_dcons, p_dL, p_asB, p_asI, p_asL, p_asSeqL, p_asSeqT, p_bV, p_dB, p_bAnd, p_bOr, p_bNot, p_dIf, p_dAnd, p_dOr, p_dNot, p_dCh, p_bYes, p_gN, p_gT, p_gsNil, p_gsCons, p_dNx, p_dRet, p_dSet, p_dIfS, p_dAsg, p_dPar, p_dAug, p_dApp, p_dSetIx, p_nLst, p_nRep, p_nOf, p_dSetN, p_dParN1, p_dParNN, p_iSeq, p_iRng1, p_iRng2, p_oNo, p_oIx, p_dSl, p_asIx, p_opTup, p_opLst, p_lenT, p_lenL, p_lenS, p_tupT, p_tupL, p_add, p_sub, p_mul, p_lt, p_le, p_gt, p_ge, p_eqI, p_neI, p_isN, p_isnN, p_isB, p_isnB, p_isNone_n, p_isNone_i, p_isNone_t, p_isNone_l, p_appL, p_appT, b_mc, b_mn, b_ac, b_an, b_rs, b_rz, b_lc, b_ln, b_it, b_if, b_itt, b_iff, p_dSeq, p_eqB, p_neB, len_eT, len_eR, len_eV, isNone_eO, seq_eT, seq_eR, seq_eV, seq_eL, eO_some, eO_none, len_eL, ↓p_eqN, ↓p_neN, ↓p_ltN, ↓p_leN, ↓p_gtN, ↓p_geN, Nat.reduceAdd, Nat.reduceLeDiff, ix_eT0 hm0, if_pos c, Int.toNat_natCast, fl]
  have s1 : dParNN 1 2 (nRep (dL opLst (dcons (dc (.int 1)) dnil)) (dL opLen (dcons (dv 0) dnil))) (nRep (dL opLst (dcons (dc (.int 1)) dnil)) (dL opLen (dcons (d2 opIx (dv 0) (dc (.int 0))) dnil))) [some (eT m w T), none, none, none, none, none, none, none, none] = some (.nx [some (eT m w T), some (eA fun _ => 1), some (eB fun _ => 1), none, none, none, none, none, none]) := by
    rw [p_dParNN, r1, r2]
    simp only [bnd_some, bnd_none, p_dc, p_dv, lk_z, lk_s, st_z, st_s, un_z, un_s, wipe_n, wipe_c, p_d2, p_d1, p_dnil, p_dcons, p_dL, p_asB, p_asI, p_asL, p_asSeqL, p_asSeqT, p_bV, p_dB, p_bAnd, p_bOr, p_bNot, p_dIf, p_dAnd, p_dOr, p_dNot, p_dCh, p_bYes, p_gN, p_gT, p_gsNil, p_gsCons, p_dNx, p_dRet, p_dSet, p_dIfS, p_dAsg, p_dPar, p_dAug, p_dApp, p_dSetIx, p_nLst, p_nRep, p_nOf, p_dSetN, p_dParN1, p_dParNN, p_iSeq, p_iRng1, p_iRng2, p_oNo, p_oIx, p_dSl, p_asIx, p_opTup, p_opLst, p_lenT, p_lenL, p_lenS, p_tupT, p_tupL, p_add, p_sub, p_mul, p_lt, p_le, p_gt, p_ge, p_eqI, p_neI, p_isN, p_isnN, p_isB, p_isnB, p_isNone_n, p_isNone_i, p_isNone_t, p_isNone_l, p_appL, p_appT, b_mc, b_mn, b_ac, b_an, b_rs, b_rz, b_lc, b_ln, b_it, b_if, b_itt, b_iff, p_dSeq, p_eqB, p_neB, len_eT, len_eR, len_eV, isNone_eO, seq_eT, seq_eR, seq_eV, seq_eL, eO_some, eO_none, len_eL, ↓p_eqN, ↓p_neN, ↓p_ltN, ↓p_leN, ↓p_gtN, ↓p_geN]
    rfl
  have hfin : SureA m w T A B := by
    have drop : ∀ (p : Nat) (q : Nat × Nat) (d x : Nat), IsP p → q ∈ kp m w T → p ∉ pl → p ^ ex p (Tv T q) ∣ d := by
      intro p q d _ hp hq hn
      obtain ⟨e, he, q1, q2⟩ := kp_some hq
      have tv : Tv T q = e := by unfold Tv; rw [he]; rfl
      rw [tv, ex_stop fun z => hn ((hpl.2 p).mpr ⟨hp, q.1, q.2, e, q1, q2, he, z⟩), Nat.pow_zero]
      exact Nat.one_dvd d
    constructor
    · intro i d
      refine (h2.row i d).trans ⟨fun z p q hd hi hl => ?_, fun z p q hd hi hl => z p q ⟨((hpl.2 p).mp hd.1).1, hd.2⟩ hi hl⟩
      by_cases hpp : p ∈ pl
      · exact z p q ⟨hpp, hd.2⟩ hi hl
      · exact drop p q d 0 hd.1 hd.2 hpp
    · intro i d
      refine (h2.col i d).trans ⟨fun z p q hd hi hl => ?_, fun z p q hd hi hl => z p q ⟨((hpl.2 p).mp hd.1).1, hd.2⟩ hi hl⟩
      by_cases hpp : p ∈ pl
      · exact z p q ⟨hpp, hd.2⟩ hi hl
      · exact drop p q d 0 hd.1 hd.2 hpp
  have bd := bdA _ A B h2 fun p q z => ⟨((hpl.2 p).mp z.1).1, z.2⟩
  have ta : opTuple [eA A] = some (eV m A) := rfl
  have tb : opTuple [eB B] = some (eV w B) := rfl
  exact ⟨A, B, hfin, bd.1, bd.2, run_rt rfl (by simp only [bnd_some, bnd_none, p_dc, p_dv, lk_z, lk_s, st_z, st_s, un_z, un_s, wipe_n, wipe_c, p_d2, p_d1, p_dnil, p_dcons, p_dL, p_asB, p_asI, p_asL, p_asSeqL, p_asSeqT, p_bV, p_dB, p_bAnd, p_bOr, p_bNot, p_dIf, p_dAnd, p_dOr, p_dNot, p_dCh, p_bYes, p_gN, p_gT, p_gsNil, p_gsCons, p_dNx, p_dRet, p_dSet, p_dIfS, p_dAsg, p_dPar, p_dAug, p_dApp, p_dSetIx, p_nLst, p_nRep, p_nOf, p_dSetN, p_dParN1, p_dParNN, p_iSeq, p_iRng1, p_iRng2, p_oNo, p_oIx, p_dSl, p_asIx, p_opTup, p_opLst, p_lenT, p_lenL, p_lenS, p_tupT, p_tupL, p_add, p_sub, p_mul, p_lt, p_le, p_gt, p_ge, p_eqI, p_neI, p_isN, p_isnN, p_isB, p_isnB, p_isNone_n, p_isNone_i, p_isNone_t, p_isNone_l, p_appL, p_appT, b_mc, b_mn, b_ac, b_an, b_rs, b_rz, b_lc, b_ln, b_it, b_if, b_itt, b_iff, p_dSeq, p_eqB, p_neB, len_eT, len_eR, len_eV, isNone_eO, seq_eT, seq_eR, seq_eV, seq_eL, eO_some, eO_none, len_eL, ↓p_eqN, ↓p_neN, ↓p_ltN, ↓p_leN, ↓p_gtN, ↓p_geN, Nat.reduceSub, ↓s1, gr, f, ta, tb, Nat.reduceAdd, Nat.reduceLeDiff])⟩
end Mi
namespace Mi
open DL
/-- a value of a row: with all columns as great as can be, the row comes out -/
def RVal (m w : Nat) (T : Nat → Nat → Option Nat) (i d : Nat) : Prop := ∀ j, j < w → ∀ e, T i j = some e → Nat.lcm d (gC m T j) = e
def CVal (m w : Nat) (T : Nat → Nat → Option Nat) (j d : Nat) : Prop := ∀ i, i < m → ∀ e, T i j = some e → Nat.lcm (gR w T i) d = e
section
variable {M m w : Nat} {T : Nat → Nat → Option Nat} {A B : Nat → Nat}
theorem row_char (hM : DvM M T) (hr : isReal m w T = true) (hs : SureA m w T A B) {i : Nat} (hi : i < m) (hk : ∃ j, j < w ∧ ∃ e, T i j = some e) (d : Nat) : (A i ∣ d ∧ d ∣ gR w T i) ↔ RVal m w T i d := by
  have hr := isReal_iff.mp hr
  obtain ⟨j0, hj0, e0, he0⟩ := hk
  constructor
  · rintro ⟨h1, h2⟩ j hj e he
    have be := hM.bd he
    have c0 : 0 < gC m T j := gRow_pos (f := fun i => T i j) hi he be.1
    have r0 : 0 < gR w T i := gRow_pos hj he be.1
    have d0 : 0 < d := Nat.pos_of_dvd_of_pos h2 r0
    apply Nat.dvd_antisymm
    · exact Nat.lcm_dvd (Nat.dvd_trans h2 (gRow_dvd hj he)) (gRow_dvd (f := fun i => T i j) hi he)
    · rw [dvd_iff_pow be.1 (Nat.lcm_pos d0 c0)]
      intro p hp
      rw [pow_dvd_lcm hp d0 c0]
      by_cases q : ex p (gC m T j) < ex p e
      · left
        have tv : Tv T (i, j) = e := by unfold Tv; rw [he]; rfl
        have := (hs.row i d).mp h1 p (i, j) ⟨hp, mem_kp.mpr ⟨hi, hj, by simp [he]⟩⟩ rfl (by rw [tv]; exact q)
        rwa [tv] at this
      · right
        rw [pow_dvd_ex hp.two _ c0]
        omega
  · intro h
    have hd : d ∣ gR w T i := (dvd_gRow _ _ _).mpr fun j hj e he => by
      rw [← h j hj e he]
      exact Nat.dvd_lcm_left _ _
    refine ⟨(hs.row i d).mpr ?_, hd⟩
    rintro p ⟨i', j⟩ ⟨hp, hq⟩ hi' hl
    have hi' : i' = i := hi'
    subst hi'
    obtain ⟨e, he, p1, p2⟩ := kp_some hq
    have he : T i' j = some e := he
    have p2 : j < w := p2
    have tv : Tv T (i', j) = e := by unfold Tv; rw [he]; rfl
    rw [tv] at hl ⊢
    have be := hM.bd he
    have c0 : 0 < gC m T j := gRow_pos (f := fun i => T i j) hi he be.1
    have r0 : 0 < gR w T i' := gRow_pos hj0 he0 (hM.bd he0).1
    have d0 : 0 < d := Nat.pos_of_dvd_of_pos hd r0
    have h1 : p ^ ex p e ∣ Nat.lcm d (gC m T j) := by
      rw [h j p2 e he]
      exact pow_ex_dvd hp.two be.1
    rcases (pow_dvd_lcm hp d0 c0).mp h1 with z | z
    · exact z
    · rw [pow_dvd_ex hp.two _ c0] at z
      have hl : ex p (gC m T j) < ex p e := hl
      omega
theorem col_char (hM : DvM M T) (hr : isReal m w T = true) (hs : SureA m w T A B) {j : Nat} (hj : j < w) (hk : ∃ i, i < m ∧ ∃ e, T i j = some e) (d : Nat) : (B j ∣ d ∧ d ∣ gC m T j) ↔ CVal m w T j d := by
  have hr := isReal_iff.mp hr
  obtain ⟨i0, hi0, e0, he0⟩ := hk
  constructor
  · rintro ⟨h1, h2⟩ i hi e he
    have be := hM.bd he
    have c0 : 0 < gC m T j := gRow_pos (f := fun i => T i j) hi he be.1
    have r0 : 0 < gR w T i := gRow_pos hj he be.1
    have d0 : 0 < d := Nat.pos_of_dvd_of_pos h2 c0
    apply Nat.dvd_antisymm
    · exact Nat.lcm_dvd (gRow_dvd hj he) (Nat.dvd_trans h2 (gRow_dvd (f := fun i => T i j) hi he))
    · rw [dvd_iff_pow be.1 (Nat.lcm_pos r0 d0)]
      intro p hp
      rw [pow_dvd_lcm hp r0 d0]
      by_cases q : ex p (gR w T i) < ex p e
      · right
        have tv : Tv T (i, j) = e := by unfold Tv; rw [he]; rfl
        have := (hs.col j d).mp h1 p (i, j) ⟨hp, mem_kp.mpr ⟨hi, hj, by simp [he]⟩⟩ rfl (by rw [tv]; exact q)
        rwa [tv] at this
      · left
        rw [pow_dvd_ex hp.two _ r0]
        omega
  · intro h
    have hd : d ∣ gC m T j := (dvd_gRow _ _ _).mpr fun i hi e he => by
      rw [← h i hi e he]
      exact Nat.dvd_lcm_right _ _
    refine ⟨(hs.col j d).mpr ?_, hd⟩
    rintro p ⟨i, j'⟩ ⟨hp, hq⟩ hj' hl
    have hj' : j' = j := hj'
    subst hj'
    obtain ⟨e, he, p1, p2⟩ := kp_some hq
    have he : T i j' = some e := he
    have p1 : i < m := p1
    have tv : Tv T (i, j') = e := by unfold Tv; rw [he]; rfl
    rw [tv] at hl ⊢
    have be := hM.bd he
    have r0 : 0 < gR w T i := gRow_pos hj he be.1
    have c0 : 0 < gC m T j' := gRow_pos (f := fun i => T i j') hi0 he0 (hM.bd he0).1
    have d0 : 0 < d := Nat.pos_of_dvd_of_pos hd c0
    have h1 : p ^ ex p e ∣ Nat.lcm (gR w T i) d := by
      rw [h i p1 e he]
      exact pow_ex_dvd hp.two be.1
    rcases (pow_dvd_lcm hp r0 d0).mp h1 with z | z
    · rw [pow_dvd_ex hp.two _ r0] at z
      have hl : ex p (gR w T i) < ex p e := hl
      omega
    · exact z
theorem RVal_top (hr : isReal m w T = true) {i : Nat} (hi : i < m) : RVal m w T i (gR w T i) := fun j hj e he => isReal_iff.mp hr i hi j hj e he
theorem CVal_top (hr : isReal m w T = true) {j : Nat} (hj : j < w) : CVal m w T j (gC m T j) := fun i hi e he => isReal_iff.mp hr i hi j hj e he
end
theorem sl_take {xs : List D} {k : Nat} (h : k ≤ xs.length) : opSl none (some (k : Int)) (.tup xs) = some (.tup (xs.take k)) := by
  have e : opSl none (some (k : Int)) (.tup xs) = some (.tup (cutL xs none (some (k : Int)))) := rfl
  rw [e]
  unfold cutL
  rw [HT.sIx_nat, HT.sIx_none, List.drop_zero, Nat.sub_zero, Nat.min_eq_left h]
theorem sl_drop {xs : List D} {k : Nat} (h : k ≤ xs.length) : opSl (some (k : Int)) none (.tup xs) = some (.tup (xs.drop k)) := by
  have e : opSl (some (k : Int)) none (.tup xs) = some (.tup (cutL xs (some (k : Int)) none)) := rfl
  rw [e]
  unfold cutL
  rw [HT.sIx_nat, HT.sIx_none, Nat.min_eq_left h, List.take_of_length_le (by simp)]
theorem glue {m i : Nat} {f : Nat → D} {x : D} (h : i < m) : ((List.range m).map f).take i ++ [x] ++ ((List.range m).map f).drop (i + 1) = (List.range m).map fun k => if k = i then x else f k := by
  rw [← set_range, List.set_eq_take_append_cons_drop, if_pos (by simp; exact h)]
  simp
/-- t[:i] + (x,) + t[i+1:] -/
theorem glue_m {m i : Nat} {f : Nat → D} {x : D} (h : i < m) (hm : m ≤ 100) : (bnd (opSl none (some (i : Int)) (.tup ((List.range m).map f))) fun a => bnd (opAdd a (.tup [x])) fun b => bnd (opSl (some ((i : Int) + 1)) none (.tup ((List.range m).map f))) fun c => opAdd b c) = some (.tup ((List.range m).map fun k => if k = i then x else f k)) := by
  have c : (i : Int) + 1 = ((i + 1 : Nat) : Int) := by omega
  rw [c, sl_take (by simp; omega), sl_drop (by simp; omega)]
  simp only [bnd_some, p_appT]
  rw [if_pos (by simp; omega)]
  simp only [bnd_some, p_appT]
  rw [if_pos (by simp; omega), glue h]
end Mi
namespace Mi
open DL
end Mi
namespace Mi
open DL
end Mi
namespace Mi
open DL
def wo (T : Nat → Nat → Option Nat) (S : List (Nat × Nat)) : Nat → Nat → Option Nat := fun i j => if (i, j) ∈ S then none else T i j
theorem eq_eP (p q : Nat × Nat) : eqD (eP p) (eP q) = decide (p = q) := by
  unfold eP eqD eqDs eqDs eqDs eqD
  by_cases h : p = q
  · subst h; simp
  · have : ¬ (p.1 = q.1 ∧ p.2 = q.2) := fun z => h (Prod.ext z.1 z.2)
    by_cases h1 : p.1 = q.1
    · have h2 : ¬ p.2 = q.2 := fun z => this ⟨h1, z⟩
      have h3 : ¬ (p.2 : Int) = (q.2 : Int) := by omega
      simp [h1, h, h3]
    · have h3 : ¬ (p.1 : Int) = (q.1 : Int) := by omega
      simp [h, h3]
theorem ok_eP (n : Nat) (p : Nat × Nat) : okD (n + 1) (eP p) = true := by
  unfold eP okD okDs okDs okDs okD
  rfl
theorem inD_eP (p : Nat × Nat) : ∀ S : List (Nat × Nat), inD (eP p) (S.map eP) = decide (p ∈ S)
  | [] => rfl
  | a :: S => by
    have ih := inD_eP p S
    unfold inD at ih ⊢
    rw [List.map_cons, List.any_cons, ih, eq_eP]
    by_cases h : a = p
    · simp [h]
    · have : ¬ p = a := fun z => h z.symm
      simp [h, this]
theorem in_lPs (p : Nat × Nat) (S : List (Nat × Nat)) : opIn (.tup [.int p.1, .int p.2]) (.lst (S.map eP)) = some (.bl (decide (p ∈ S))) := by
  have h : okD 60 (eP p) = true ∧ okDs 60 (S.map eP) = true := ⟨ok_eP 59 p, okDs_map eP S fun x _ => ok_eP 59 x⟩
  show (if okD 60 (eP p) = true ∧ okDs 60 (S.map eP) = true then some (D.bl (inD (eP p) (S.map eP))) else none) = _
  rw [if_pos h, inD_eP]
theorem wo_some {T : Nat → Nat → Option Nat} {S : List (Nat × Nat)} {i j e : Nat} (h : wo T S i j = some e) : T i j = some e ∧ (i, j) ∉ S := by
  unfold wo at h
  by_cases z : (i, j) ∈ S
  · rw [if_pos z] at h; cases h
  · rw [if_neg z] at h; exact ⟨h, z⟩
theorem Tab.wo {m w : Nat} {T : Nat → Nat → Option Nat} (h : Tab m w T) (S : List (Nat × Nat)) : Tab m w (wo T S) := ⟨h.m0, h.m1, h.w0, h.w1, fun i j e q => h.bd i j e (wo_some q).1⟩
theorem without_m {m w : Nat} {T : Nat → Nat → Option Nat} (h : Tab m w T) {S : List (Nat × Nat)} {dS : D} (hS : ∀ p : Nat × Nat, opIn (.tup [.int p.1, .int p.2]) dS = some (.bl (decide (p ∈ S)))) :
    m_without [eT m w T, dS] = some (eT m w (wo T S)) := by
  have hm := h.m0
  have hm1 := h.m1
  have hw1 := h.w1
  obtain ⟨ρ', h1, x, y, h3⟩ := for_range (g := gN 3) (b := m_without_b1) (fun i : Nat => D.int i)
    (fun (i : Nat) (ρ : Rho) => ∃ x y, ρ = [some (eT m w T), some dS, some (.lst ((List.range i).map fun i => eR w (wo T S i))), x, y, none]) m (by
      rintro i hi ρ ⟨x, y, rfl⟩
      have c1 : m_without_c1 [some (eT m w T), some dS, some (.lst ((List.range i).map fun i => eR w (wo T S i))), some (.int i), y, none] = some (.lst ((List.range w).map fun j => eO (wo T S i j))) := by
        unfold m_without_c1
        refine comp_all (fun j : Nat => D.int j) _ (List.range w) (by simp only [bnd_some, bnd_none, p_dc, p_dv, lk_z, lk_s, st_z, st_s, un_z, un_s, wipe_n, wipe_c, p_d2, p_d1, p_dnil, p_dcons, p_dL, p_asB, p_asI, p_asL, p_asSeqL, p_asSeqT, p_bV, p_dB, p_bAnd, p_bOr, p_bNot, p_dIf, p_dAnd, p_dOr, p_dNot, p_dCh, p_bYes, p_gN, p_gT, p_gsNil, p_gsCons, p_dNx, p_dRet, p_dSet, p_dIfS, p_dAsg, p_dPar, p_dAug, p_dApp, p_dSetIx, p_nLst, p_nRep, p_nOf, p_dSetN, p_dParN1, p_dParNN, p_iSeq, p_iRng1, p_iRng2, p_oNo, p_oIx, p_dSl, p_asIx, p_opTup, p_opLst, p_lenT, p_lenL, p_lenS, p_tupT, p_tupL, p_add, p_sub, p_mul, p_lt, p_le, p_gt, p_ge, p_eqI, p_neI, p_isN, p_isnN, p_isB, p_isnB, p_isNone_n, p_isNone_i, p_isNone_t, p_isNone_l, p_appL, p_appT, b_mc, b_mn, b_ac, b_an, b_rs, b_rz, b_lc, b_ln, b_it, b_if, b_itt, b_iff, p_dSeq, p_eqB, p_neB, len_eT, len_eR, len_eV, isNone_eO, seq_eT, seq_eR, seq_eV, seq_eL, eO_some, eO_none, len_eL, ↓p_eqN, ↓p_neN, ↓p_ltN, ↓p_leN, ↓p_gtN, ↓p_geN, ix_eT0 hm, rng1 (n := w) (by omega)]) (by simp; omega) ?_
        intro j hj
        have hj := List.mem_range.mp hj
        refine ⟨_, rfl, ?_⟩
        have t1 := ix_eT (w := w) (T := T) hi
        have t2 := ix_eR (T := T i) hj
        have i1 : opIn (.tup [.int (i : Nat), .int (j : Nat)]) dS = some (.bl (decide ((i, j) ∈ S))) := hS (i, j)
        by_cases z : (i, j) ∈ S
        · simp only [bnd_some, bnd_none, p_dc, p_dv, lk_z, lk_s, st_z, st_s, un_z, un_s, wipe_n, wipe_c, p_d2, p_d1, p_dnil, p_dcons, p_dL, p_asB, p_asI, p_asL, p_asSeqL, p_asSeqT, p_bV, p_dB, p_bAnd, p_bOr, p_bNot, p_dIf, p_dAnd, p_dOr, p_dNot, p_dCh, p_bYes, p_gN, p_gT, p_gsNil, p_gsCons, p_dNx, p_dRet, p_dSet, p_dIfS, p_dAsg, p_dPar, p_dAug, p_dApp, p_dSetIx, p_nLst, p_nRep, p_nOf, p_dSetN, p_dParN1, p_dParNN, p_iSeq, p_iRng1, p_iRng2, p_oNo, p_oIx, p_dSl, p_asIx, p_opTup, p_opLst, p_lenT, p_lenL, p_lenS, p_tupT, p_tupL, p_add, p_sub, p_mul, p_lt, p_le, p_gt, p_ge, p_eqI, p_neI, p_isN, p_isnN, p_isB, p_isnB, p_isNone_n, p_isNone_i, p_isNone_t, p_isNone_l, p_appL, p_appT, b_mc, b_mn, b_ac, b_an, b_rs, b_rz, b_lc, b_ln, b_it, b_if, b_itt, b_iff, p_dSeq, p_eqB, p_neB, len_eT, len_eR, len_eV, isNone_eO, seq_eT, seq_eR, seq_eV, seq_eL, eO_some, eO_none, len_eL, ↓p_eqN, ↓p_neN, ↓p_ltN, ↓p_leN, ↓p_gtN, ↓p_geN, Nat.reduceAdd, Nat.reduceLeDiff, i1, decide_eq_true z, wo, if_pos z, eO_none]
        · simp only [bnd_some, bnd_none, p_dc, p_dv, lk_z, lk_s, st_z, st_s, un_z, un_s, wipe_n, wipe_c, p_d2, p_d1, p_dnil, p_dcons, p_dL, p_asB, p_asI, p_asL, p_asSeqL, p_asSeqT, p_bV, p_dB, p_bAnd, p_bOr, p_bNot, p_dIf, p_dAnd, p_dOr, p_dNot, p_dCh, p_bYes, p_gN, p_gT, p_gsNil, p_gsCons, p_dNx, p_dRet, p_dSet, p_dIfS, p_dAsg, p_dPar, p_dAug, p_dApp, p_dSetIx, p_nLst, p_nRep, p_nOf, p_dSetN, p_dParN1, p_dParNN, p_iSeq, p_iRng1, p_iRng2, p_oNo, p_oIx, p_dSl, p_asIx, p_opTup, p_opLst, p_lenT, p_lenL, p_lenS, p_tupT, p_tupL, p_add, p_sub, p_mul, p_lt, p_le, p_gt, p_ge, p_eqI, p_neI, p_isN, p_isnN, p_isB, p_isnB, p_isNone_n, p_isNone_i, p_isNone_t, p_isNone_l, p_appL, p_appT, b_mc, b_mn, b_ac, b_an, b_rs, b_rz, b_lc, b_ln, b_it, b_if, b_itt, b_iff, p_dSeq, p_eqB, p_neB, len_eT, len_eR, len_eV, isNone_eO, seq_eT, seq_eR, seq_eV, seq_eL, eO_some, eO_none, len_eL, ↓p_eqN, ↓p_neN, ↓p_ltN, ↓p_leN, ↓p_gtN, ↓p_geN, Nat.reduceAdd, Nat.reduceLeDiff, i1, decide_eq_false z, t1, t2, wo, if_neg z]
      have hl : ((List.range i).map fun i => eR w (wo T S i)).length < 16777216 := by simp; omega
      refine ⟨_, rfl, [some (eT m w T), some dS, some (.lst ((List.range (i + 1)).map fun i => eR w (wo T S i))), some (.int i), some (.lst ((List.range w).map fun j => eO (wo T S i j))), none], ?_, _, _, rfl⟩
      rw [List.range_succ, List.map_append]
      simp only [m_without_b1, bnd_some, bnd_none, p_dc, p_dv, lk_z, lk_s, st_z, st_s, un_z, un_s, wipe_n, wipe_c, p_d2, p_d1, p_dnil, p_dcons, p_dL, p_asB, p_asI, p_asL, p_asSeqL, p_asSeqT, p_bV, p_dB, p_bAnd, p_bOr, p_bNot, p_dIf, p_dAnd, p_dOr, p_dNot, p_dCh, p_bYes, p_gN, p_gT, p_gsNil, p_gsCons, p_dNx, p_dRet, p_dSet, p_dIfS, p_dAsg, p_dPar, p_dAug, p_dApp, p_dSetIx, p_nLst, p_nRep, p_nOf, p_dSetN, p_dParN1, p_dParNN, p_iSeq, p_iRng1, p_iRng2, p_oNo, p_oIx, p_dSl, p_asIx, p_opTup, p_opLst, p_lenT, p_lenL, p_lenS, p_tupT, p_tupL, p_add, p_sub, p_mul, p_lt, p_le, p_gt, p_ge, p_eqI, p_neI, p_isN, p_isnN, p_isB, p_isnB, p_isNone_n, p_isNone_i, p_isNone_t, p_isNone_l, p_appL, p_appT, b_mc, b_mn, b_ac, b_an, b_rs, b_rz, b_lc, b_ln, b_it, b_if, b_itt, b_iff, p_dSeq, p_eqB, p_neB, len_eT, len_eR, len_eV, isNone_eO, seq_eT, seq_eR, seq_eV, seq_eL, eO_some, eO_none, len_eL, ↓p_eqN, ↓p_neN, ↓p_ltN, ↓p_leN, ↓p_gtN, ↓p_geN, c1, if_pos hl]
      rfl) (ρ := [some (eT m w T), some dS, some (.lst []), none, none, none]) ⟨none, none, rfl⟩
  subst h3
  have f := (for_eq (it := iRng1 (dcons (dL opLen (dcons (dv 0) dnil)) dnil)) (ρ := [some (eT m w T), some dS, some (.lst []), none, none, none]) (by simp only [bnd_some, bnd_none, p_dc, p_dv, lk_z, lk_s, st_z, st_s, un_z, un_s, wipe_n, wipe_c, p_d2, p_d1, p_dnil, p_dcons, p_dL, p_asB, p_asI, p_asL, p_asSeqL, p_asSeqT, p_bV, p_dB, p_bAnd, p_bOr, p_bNot, p_dIf, p_dAnd, p_dOr, p_dNot, p_dCh, p_bYes, p_gN, p_gT, p_gsNil, p_gsCons, p_dNx, p_dRet, p_dSet, p_dIfS, p_dAsg, p_dPar, p_dAug, p_dApp, p_dSetIx, p_nLst, p_nRep, p_nOf, p_dSetN, p_dParN1, p_dParNN, p_iSeq, p_iRng1, p_iRng2, p_oNo, p_oIx, p_dSl, p_asIx, p_opTup, p_opLst, p_lenT, p_lenL, p_lenS, p_tupT, p_tupL, p_add, p_sub, p_mul, p_lt, p_le, p_gt, p_ge, p_eqI, p_neI, p_isN, p_isnN, p_isB, p_isnB, p_isNone_n, p_isNone_i, p_isNone_t, p_isNone_l, p_appL, p_appT, b_mc, b_mn, b_ac, b_an, b_rs, b_rz, b_lc, b_ln, b_it, b_if, b_itt, b_iff, p_dSeq, p_eqB, p_neB, len_eT, len_eR, len_eV, isNone_eO, seq_eT, seq_eR, seq_eV, seq_eL, eO_some, eO_none, len_eL, ↓p_eqN, ↓p_neN, ↓p_ltN, ↓p_leN, ↓p_gtN, ↓p_geN, rng1 (n := m) (by omega)])).trans h1
  exact run_rt rfl (by simp only [bnd_some, bnd_none, p_dc, p_dv, lk_z, lk_s, st_z, st_s, un_z, un_s, wipe_n, wipe_c, p_d2, p_d1, p_dnil, p_dcons, p_dL, p_asB, p_asI, p_asL, p_asSeqL, p_asSeqT, p_bV, p_dB, p_bAnd, p_bOr, p_bNot, p_dIf, p_dAnd, p_dOr, p_dNot, p_dCh, p_bYes, p_gN, p_gT, p_gsNil, p_gsCons, p_dNx, p_dRet, p_dSet, p_dIfS, p_dAsg, p_dPar, p_dAug, p_dApp, p_dSetIx, p_nLst, p_nRep, p_nOf, p_dSetN, p_dParN1, p_dParNN, p_iSeq, p_iRng1, p_iRng2, p_oNo, p_oIx, p_dSl, p_asIx, p_opTup, p_opLst, p_lenT, p_lenL, p_lenS, p_tupT, p_tupL, p_add, p_sub, p_mul, p_lt, p_le, p_gt, p_ge, p_eqI, p_neI, p_isN, p_isnN, p_isB, p_isnB, p_isNone_n, p_isNone_i, p_isNone_t, p_isNone_l, p_appL, p_appT, b_mc, b_mn, b_ac, b_an, b_rs, b_rz, b_lc, b_ln, b_it, b_if, b_itt, b_iff, p_dSeq, p_eqB, p_neB, len_eT, len_eR, len_eV, isNone_eO, seq_eT, seq_eR, seq_eV, seq_eL, eO_some, eO_none, len_eL, ↓p_eqN, ↓p_neN, ↓p_ltN, ↓p_leN, ↓p_gtN, ↓p_geN, Nat.reduceSub, Nat.zero_le, f]; rfl)
end Mi
namespace Mi
open DL
end Mi
namespace Mi
open DL
end Mi
namespace Mi
open DL
/-- but at the places D the entries are those of numbers -/
def Dev (m w : Nat) (R C : Nat → Nat) (T : Nat → Nat → Option Nat) (D : List (Nat × Nat)) : Prop := ∀ i j, i < m → j < w → ∀ e, T i j = some e → (i, j) ∉ D → Nat.lcm (R i) (C j) = e
theorem Dev.spo {m w : Nat} {R C : Nat → Nat} {T T' : Nat → Nat → Option Nat} {D : List (Nat × Nat)} (h : Dev m w R C T D) (s : Spo m w T T') : ∃ D', D'.length ≤ D.length + 1 ∧ Dev m w R C T' D' := by
  rcases s with e | ⟨r, _, c, _, e, he, x, hx, q⟩
  · rw [e]; exact ⟨D, by omega, h⟩
  · refine ⟨(r, c) :: D, by simp, fun i j hi hj y hy hn => ?_⟩
    rw [q] at hy
    unfold put at hy
    have hn1 : ¬ (i = r ∧ j = c) := fun z => hn (by rw [z.1, z.2]; exact List.mem_cons_self)
    rw [if_neg hn1] at hy
    exact h i j hi hj y hy fun z => hn (List.mem_cons_of_mem _ z)
end Mi
namespace Mi
open DL
end Mi
namespace Mi
open DL
theorem put_same (T : Nat → Nat → Option Nat) (r c n : Nat) : put T r c n r c = some n := by unfold put; simp
theorem put_other {T : Nat → Nat → Option Nat} {r c n i j : Nat} (h : ¬ (i = r ∧ j = c)) : put T r c n i j = T i j := by unfold put; rw [if_neg h]
section
variable {m w r c n : Nat} {T : Nat → Nat → Option Nat}
theorem gR_put_other {i : Nat} (h : i ≠ r) : gR w (put T r c n) i = gR w T i := eq_of_dvd_iff fun d => by
  rw [dvd_gRow, dvd_gRow]
  have e : ∀ j, put T r c n i j = T i j := fun j => put_other fun z => h z.1
  simp only [e]
theorem gR_put_same (hc : c < w) (hn : T r c = none) : gR w (put T r c n) r = Nat.gcd n (gR w T r) := eq_of_dvd_iff fun d => by
  rw [Nat.dvd_gcd_iff, dvd_gRow, dvd_gRow]
  constructor
  · intro h
    refine ⟨h c hc n (put_same T r c n), fun j hj e he => h j hj e ?_⟩
    rw [put_other fun z => by rw [z.2, hn] at he; cases he]
    exact he
  · rintro ⟨h1, h2⟩ j hj e he
    by_cases z : j = c
    · rw [z, put_same] at he
      cases he
      exact h1
    · rw [put_other fun y => z y.2] at he
      exact h2 j hj e he
theorem gC_put_other {j : Nat} (h : j ≠ c) : gC m (put T r c n) j = gC m T j := eq_of_dvd_iff fun d => by
  rw [dvd_gRow, dvd_gRow]
  have e : ∀ i, put T r c n i j = T i j := fun i => put_other fun z => h z.2
  simp only [e]
theorem gC_put_same (hr : r < m) (hn : T r c = none) : gC m (put T r c n) c = Nat.gcd n (gC m T c) := eq_of_dvd_iff fun d => by
  rw [Nat.dvd_gcd_iff, dvd_gRow, dvd_gRow]
  constructor
  · intro h
    refine ⟨h r hr n (put_same T r c n), fun i hi e he => h i hi e ?_⟩
    rw [put_other fun z => by
      have he : T i c = some e := he
      rw [z.1, hn] at he; cases he]
    exact he
  · rintro ⟨h1, h2⟩ i hi e he
    by_cases z : i = r
    · have he : put T r c n i c = some e := he
      rw [z, put_same] at he
      cases he
      exact h1
    · have he : put T r c n i c = some e := he
      rw [put_other fun y => z y.1] at he
      exact h2 i hi e he
/-- gcd over lcm -/
theorem gcd_lcm_dist {a b n : Nat} (ha : 0 < a) (hb : 0 < b) (hn : 0 < n) : Nat.lcm (Nat.gcd n a) (Nat.gcd n b) = Nat.gcd n (Nat.lcm a b) := by
  have ga : 0 < Nat.gcd n a := Nat.gcd_pos_of_pos_left _ hn
  have gb : 0 < Nat.gcd n b := Nat.gcd_pos_of_pos_left _ hn
  have l := Nat.lcm_pos ha hb
  refine eq_of_ex (Nat.lcm_pos ga gb) (Nat.gcd_pos_of_pos_left _ hn) fun p hp => ?_
  rw [ex_lcm hp ga gb, ex_gcd hp.two hn ha, ex_gcd hp.two hn hb, ex_gcd hp.two hn l, ex_lcm hp ha hb]
  omega
/-- real with one more entry: exactly with the values -/
theorem real_put {M : Nat} {A B : Nat → Nat} (hM : DvM M T) (hr : isReal m w T = true) (hs : SureA m w T A B) (hrm : r < m) (hcw : c < w) (hnone : T r c = none)
    (hkr : ∃ j, j < w ∧ ∃ e, T r j = some e) (hkc : ∃ i, i < m ∧ ∃ e, T i c = some e) (hn : 0 < n) :
    isReal m w (put T r c n) = true ↔ (Nat.lcm (A r) (B c) ∣ n ∧ n ∣ Nat.lcm (gR w T r) (gC m T c)) := by
  have hr' := isReal_iff.mp hr
  obtain ⟨j0, hj0, e0, he0⟩ := hkr
  obtain ⟨i0, hi0, e1, he1⟩ := hkc
  have r0 : 0 < gR w T r := gRow_pos hj0 he0 (hM.bd he0).1
  have c0 : 0 < gC m T c := gRow_pos (f := fun i => T i c) hi0 he1 (hM.bd he1).1
  have rc := row_char hM hr hs hrm ⟨j0, hj0, e0, he0⟩
  have cc := col_char hM hr hs hcw ⟨i0, hi0, e1, he1⟩
  have e1' := gR_put_same (w := w) (n := n) hcw hnone
  have e2' := gC_put_same (m := m) (n := n) hrm hnone
  have ar : A r ∣ gR w T r := ((rc _).mpr (RVal_top hr hrm)).1
  have bc : B c ∣ gC m T c := ((cc _).mpr (CVal_top hr hcw)).1
  have key : isReal m w (put T r c n) = true ↔ (Nat.gcd n (Nat.lcm (gR w T r) (gC m T c)) = n ∧ RVal m w T r (Nat.gcd n (gR w T r)) ∧ CVal m w T c (Nat.gcd n (gC m T c))) := by
    rw [isReal_iff]
    constructor
    · intro h
      refine ⟨?_, fun j hj e he => ?_, fun i hi e he => ?_⟩
      · have := h r hrm c hcw n (put_same T r c n)
        rwa [e1', e2', gcd_lcm_dist r0 c0 hn] at this
      · have jc : j ≠ c := fun z => by rw [z, hnone] at he; cases he
        have := h r hrm j hj e (by rw [put_other fun z => jc z.2]; exact he)
        rwa [e1', gC_put_other jc] at this
      · have ir : i ≠ r := fun z => by rw [z, hnone] at he; cases he
        have := h i hi c hcw e (by rw [put_other fun z => ir z.1]; exact he)
        rwa [e2', gR_put_other ir] at this
    · rintro ⟨h1, h2, h3⟩ i hi j hj e he
      by_cases zi : i = r
      · by_cases zj : j = c
        · rw [zi, zj, put_same] at he
          cases he
          rw [zi, zj, e1', e2', gcd_lcm_dist r0 c0 hn]
          exact h1
        · rw [put_other fun y => zj y.2] at he
          rw [zi] at he ⊢
          rw [e1', gC_put_other zj]
          exact h2 j hj e he
      · rw [put_other fun y => zi y.1] at he
        by_cases zj : j = c
        · rw [zj] at he ⊢
          rw [e2', gR_put_other zi]
          exact h3 i hi e he
        · rw [gR_put_other zi, gC_put_other zj]
          exact hr' i hi j hj e he
  rw [key, ← rc, ← cc]
  constructor
  · rintro ⟨h1, h2, h3⟩
    refine ⟨Nat.lcm_dvd (Nat.dvd_trans h2.1 (Nat.gcd_dvd_left _ _)) (Nat.dvd_trans h3.1 (Nat.gcd_dvd_left _ _)), ?_⟩
    rw [← h1]
    exact Nat.gcd_dvd_right _ _
  · rintro ⟨h1, h2⟩
    refine ⟨Nat.gcd_eq_left h2, ⟨Nat.dvd_gcd (Nat.dvd_trans (Nat.dvd_lcm_left _ _) h1) ar, Nat.gcd_dvd_right _ _⟩, ⟨Nat.dvd_gcd (Nat.dvd_trans (Nat.dvd_lcm_right _ _) h1) bc, Nat.gcd_dvd_right _ _⟩⟩
end
end Mi
namespace Mi
open DL
def eOL : Option (List Nat) → D
  | none => .non
  | some l => eL l
/-- the values of an entry -/
def EvL (m w : Nat) (T : Nat → Nat → Option Nat) (A B : Nat → Nat) (r c : Nat) : Option (List Nat) → Prop
  | none => T r c = none ∧ (gR w T r = 0 ∨ gC m T c = 0)
  | some l => (∃ e, T r c = some e ∧ l = [e]) ∨ (T r c = none ∧ 0 < gR w T r ∧ 0 < gC m T c ∧ BwL (Nat.lcm (A r) (B c)) (Nat.lcm (gR w T r) (gC m T c)) l)
section
variable {M m w : Nat} {T : Nat → Nat → Option Nat}
theorem gR_known {f : Nat → Option Nat} {n : Nat} (h : 0 < gRow n f) : ∃ j, j < n ∧ ∃ e, f j = some e := by
  apply Classical.byContradiction
  intro z
  have : 0 ∣ gRow n f := (dvd_gRow f 0 n).mpr fun j hj e he => absurd ⟨j, hj, e, he⟩ z
  have := Nat.eq_zero_of_zero_dvd this
  omega
theorem gRow_M (hM : DvM M T) {f : Nat → Option Nat} {n : Nat} (hf : ∀ j e, f j = some e → e ∣ M) (h : 0 < gRow n f) : gRow n f ∣ M := by
  obtain ⟨j, hj, e, he⟩ := gR_known h
  exact Nat.dvd_trans (gRow_dvd hj he) (hf j e he)
theorem entry_values_m (h : Tab m w T) (hM : DvM M T) (hr : isReal m w T = true) (hK : ∀ n, 0 < n → n ∣ M → (divs n).length ≤ 16777216) : ∃ A B : Nat → Nat, SureA m w T A B ∧ (∀ i, A i ∣ M) ∧ (∀ j, B j ∣ M) ∧
    m_sure [eT m w T] = some (.tup [eV m A, eV w B]) ∧ ∀ r c, r < m → c < w → ∃ v, EvL m w T A B r c v ∧ (∀ l, v = some l → ∀ d ∈ l, 0 < d ∧ d ≤ 1000000000 ∧ d ∣ M) ∧ m_entry_values [eT m w T, .int r, .int c] = some (eOL v) := by
  obtain ⟨A, B, hs, hA, hB, sm⟩ := sure_m h hM
  refine ⟨A, B, hs, hA, hB, sm, fun r c hrm hcw => ?_⟩
  have gr : m_greatest [eT m w T] = some (.tup [eV m (gR w T), eV w (gC m T)]) := greatest_m h
  have t1 := ix_eT (w := w) (T := T) hrm
  have t2 := ix_eR (T := T r) hcw
  have i1 : opIx (eV m (gR w T)) (.int r) = some (.int (gR w T r)) := ix_eV hrm
  have i2 : opIx (eV w (gC m T)) (.int c) = some (.int (gC m T c)) := ix_eV hcw
  have i3 : opIx (eV m A) (.int r) = some (.int (A r)) := ix_eV hrm
  have i4 : opIx (eV w B) (.int c) = some (.int (B c)) := ix_eV hcw
  have bM : ∀ d, d ∣ M → 0 < d ∧ d ≤ 1000000000 ∧ d ∣ M := fun d hd => ⟨Nat.pos_of_dvd_of_pos hd hM.pos, Nat.le_trans (Nat.le_of_dvd hM.pos hd) hM.le, hd⟩
  cases q : T r c with
  | some e =>
    rw [q] at t2
    refine ⟨some [e], Or.inl ⟨e, q, rfl⟩, fun l hl d hd => ?_, run_rt rfl ?_⟩
    · cases hl
      rw [List.mem_singleton.mp hd]
      exact bM e (hM.dvd _ _ _ q)
    · simp only [bnd_some, bnd_none, p_dc, p_dv, lk_z, lk_s, st_z, st_s, un_z, un_s, wipe_n, wipe_c, p_d2, p_d1, p_dnil, p_dcons, p_dL, p_asB, p_asI, p_asL, p_asSeqL, p_asSeqT, p_bV, p_dB, p_bAnd, p_bOr, p_bNot, p_dIf, p_dAnd, p_dOr, p_dNot, p_dCh, p_bYes, p_gN, p_gT, p_gsNil, p_gsCons, p_dNx, p_dRet, p_dSet, p_dIfS, p_dAsg, p_dPar, p_dAug, p_dApp, p_dSetIx, p_nLst, p_nRep, p_nOf, p_dSetN, p_dParN1, p_dParNN, p_iSeq, p_iRng1, p_iRng2, p_oNo, p_oIx, p_dSl, p_asIx, p_opTup, p_opLst, p_lenT, p_lenL, p_lenS, p_tupT, p_tupL, p_add, p_sub, p_mul, p_lt, p_le, p_gt, p_ge, p_eqI, p_neI, p_isN, p_isnN, p_isB, p_isnB, p_isNone_n, p_isNone_i, p_isNone_t, p_isNone_l, p_appL, p_appT, b_mc, b_mn, b_ac, b_an, b_rs, b_rz, b_lc, b_ln, b_it, b_if, b_itt, b_iff, p_dSeq, p_eqB, p_neB, len_eT, len_eR, len_eV, isNone_eO, seq_eT, seq_eR, seq_eV, seq_eL, eO_some, eO_none, len_eL, ↓p_eqN, ↓p_neN, ↓p_ltN, ↓p_leN, ↓p_gtN, ↓p_geN, Nat.reduceSub, gr, t1, t2, eO_some, Bool.not_false, Nat.reduceAdd, Nat.reduceLeDiff]
      rfl
  | none =>
    rw [q] at t2
    by_cases zr : gR w T r = 0
    · refine ⟨none, ⟨q, Or.inl zr⟩, fun l hl => (by cases hl), run_rt rfl ?_⟩
      simp only [bnd_some, bnd_none, p_dc, p_dv, lk_z, lk_s, st_z, st_s, un_z, un_s, wipe_n, wipe_c, p_d2, p_d1, p_dnil, p_dcons, p_dL, p_asB, p_asI, p_asL, p_asSeqL, p_asSeqT, p_bV, p_dB, p_bAnd, p_bOr, p_bNot, p_dIf, p_dAnd, p_dOr, p_dNot, p_dCh, p_bYes, p_gN, p_gT, p_gsNil, p_gsCons, p_dNx, p_dRet, p_dSet, p_dIfS, p_dAsg, p_dPar, p_dAug, p_dApp, p_dSetIx, p_nLst, p_nRep, p_nOf, p_dSetN, p_dParN1, p_dParNN, p_iSeq, p_iRng1, p_iRng2, p_oNo, p_oIx, p_dSl, p_asIx, p_opTup, p_opLst, p_lenT, p_lenL, p_lenS, p_tupT, p_tupL, p_add, p_sub, p_mul, p_lt, p_le, p_gt, p_ge, p_eqI, p_neI, p_isN, p_isnN, p_isB, p_isnB, p_isNone_n, p_isNone_i, p_isNone_t, p_isNone_l, p_appL, p_appT, b_mc, b_mn, b_ac, b_an, b_rs, b_rz, b_lc, b_ln, b_it, b_if, b_itt, b_iff, p_dSeq, p_eqB, p_neB, len_eT, len_eR, len_eV, isNone_eO, seq_eT, seq_eR, seq_eV, seq_eL, eO_some, eO_none, len_eL, ↓p_eqN, ↓p_neN, ↓p_ltN, ↓p_leN, ↓p_gtN, ↓p_geN, Nat.reduceSub, gr, t1, t2, eO_none, Bool.not_true, i1, ↓z_nat, decide_eq_true zr]
      rfl
    · by_cases zc : gC m T c = 0
      · refine ⟨none, ⟨q, Or.inr zc⟩, fun l hl => (by cases hl), run_rt rfl ?_⟩
        simp only [bnd_some, bnd_none, p_dc, p_dv, lk_z, lk_s, st_z, st_s, un_z, un_s, wipe_n, wipe_c, p_d2, p_d1, p_dnil, p_dcons, p_dL, p_asB, p_asI, p_asL, p_asSeqL, p_asSeqT, p_bV, p_dB, p_bAnd, p_bOr, p_bNot, p_dIf, p_dAnd, p_dOr, p_dNot, p_dCh, p_bYes, p_gN, p_gT, p_gsNil, p_gsCons, p_dNx, p_dRet, p_dSet, p_dIfS, p_dAsg, p_dPar, p_dAug, p_dApp, p_dSetIx, p_nLst, p_nRep, p_nOf, p_dSetN, p_dParN1, p_dParNN, p_iSeq, p_iRng1, p_iRng2, p_oNo, p_oIx, p_dSl, p_asIx, p_opTup, p_opLst, p_lenT, p_lenL, p_lenS, p_tupT, p_tupL, p_add, p_sub, p_mul, p_lt, p_le, p_gt, p_ge, p_eqI, p_neI, p_isN, p_isnN, p_isB, p_isnB, p_isNone_n, p_isNone_i, p_isNone_t, p_isNone_l, p_appL, p_appT, b_mc, b_mn, b_ac, b_an, b_rs, b_rz, b_lc, b_ln, b_it, b_if, b_itt, b_iff, p_dSeq, p_eqB, p_neB, len_eT, len_eR, len_eV, isNone_eO, seq_eT, seq_eR, seq_eV, seq_eL, eO_some, eO_none, len_eL, ↓p_eqN, ↓p_neN, ↓p_ltN, ↓p_leN, ↓p_gtN, ↓p_geN, Nat.reduceSub, gr, t1, t2, eO_none, Bool.not_true, i1, i2, ↓z_nat, decide_eq_false zr, decide_eq_true zc]
        rfl
      · have r0 : 0 < gR w T r := by omega
        have c0 : 0 < gC m T c := by omega
        have rM := gRow_M hM (fun j e he => hM.dvd r j e he) r0
        have cM := gRow_M hM (f := fun i => T i c) (fun i e he => hM.dvd i c e he) c0
        have kr := gR_known r0
        have kc := gR_known (f := fun i => T i c) c0
        have ar : A r ∣ gR w T r := ((row_char hM hr hs hrm kr _).mpr (RVal_top hr hrm)).1
        have bc : B c ∣ gC m T c := ((col_char hM hr hs hcw kc _).mpr (CVal_top hr hcw)).1
        have a0 := bM _ (hA r)
        have b0 := bM _ (hB c)
        have rb : 0 < gR w T r ∧ gR w T r ≤ 1000000000 ∧ gR w T r ∣ M := bM _ rM
        have cb : 0 < gC m T c ∧ gC m T c ≤ 1000000000 ∧ gC m T c ∣ M := bM _ cM
        have l1 := lcm_m a0.1 (b := B c) (by omega) (Nat.lt_of_le_of_lt (Nat.gcd_le_left _ a0.1) (by omega))
        have l2 := lcm_m rb.1 (b := gC m T c) (by omega) (Nat.lt_of_le_of_lt (Nat.gcd_le_left _ rb.1) (by omega))
        have hl : Nat.lcm (A r) (B c) ∣ Nat.lcm (gR w T r) (gC m T c) := Nat.lcm_dvd (Nat.dvd_trans ar (Nat.dvd_lcm_left _ _)) (Nat.dvd_trans bc (Nat.dvd_lcm_right _ _))
        have hM2 : Nat.lcm (gR w T r) (gC m T c) ∣ M := Nat.lcm_dvd rM cM
        have tb := bM _ hM2
        have q0 : 0 < Nat.lcm (gR w T r) (gC m T c) / Nat.lcm (A r) (B c) := Nat.div_pos (Nat.le_of_dvd tb.1 hl) (Nat.lcm_pos a0.1 b0.1)
        obtain ⟨l, hb, bm⟩ := between_m (Nat.lcm_pos a0.1 b0.1) hl tb.1 (by omega) (hK _ q0 (Nat.dvd_trans (Nat.div_dvd_of_dvd hl) hM2))
        refine ⟨some l, Or.inr ⟨q, r0, c0, hb⟩, fun l' hl' d hd => ?_, run_rt rfl ?_⟩
        · cases hl'
          exact bM d (Nat.dvd_trans ((hb.2 d).mp hd).2 hM2)
        · simp only [bnd_some, bnd_none, p_dc, p_dv, lk_z, lk_s, st_z, st_s, un_z, un_s, wipe_n, wipe_c, p_d2, p_d1, p_dnil, p_dcons, p_dL, p_asB, p_asI, p_asL, p_asSeqL, p_asSeqT, p_bV, p_dB, p_bAnd, p_bOr, p_bNot, p_dIf, p_dAnd, p_dOr, p_dNot, p_dCh, p_bYes, p_gN, p_gT, p_gsNil, p_gsCons, p_dNx, p_dRet, p_dSet, p_dIfS, p_dAsg, p_dPar, p_dAug, p_dApp, p_dSetIx, p_nLst, p_nRep, p_nOf, p_dSetN, p_dParN1, p_dParNN, p_iSeq, p_iRng1, p_iRng2, p_oNo, p_oIx, p_dSl, p_asIx, p_opTup, p_opLst, p_lenT, p_lenL, p_lenS, p_tupT, p_tupL, p_add, p_sub, p_mul, p_lt, p_le, p_gt, p_ge, p_eqI, p_neI, p_isN, p_isnN, p_isB, p_isnB, p_isNone_n, p_isNone_i, p_isNone_t, p_isNone_l, p_appL, p_appT, b_mc, b_mn, b_ac, b_an, b_rs, b_rz, b_lc, b_ln, b_it, b_if, b_itt, b_iff, p_dSeq, p_eqB, p_neB, len_eT, len_eR, len_eV, isNone_eO, seq_eT, seq_eR, seq_eV, seq_eL, eO_some, eO_none, len_eL, ↓p_eqN, ↓p_neN, ↓p_ltN, ↓p_leN, ↓p_gtN, ↓p_geN, Nat.reduceSub, gr, t1, t2, eO_none, Bool.not_true, i1, i2, ↓z_nat, decide_eq_false zr, decide_eq_false zc, sm, i3, i4, l1, l2, bm]
          rfl
end
end Mi
namespace Mi
open DL
theorem with_row {w r c n : Nat} {T : Nat → Nat → Option Nat} : (D.tup ((List.range w).map fun k => if k = c then .int (n : Nat) else eO (T r k))) = eR w (put T r c n r) := by
  unfold eR
  refine congrArg D.tup (List.map_congr_left fun k _ => ?_)
  by_cases z : k = c
  · rw [if_pos z, z, put_same]; rfl
  · rw [if_neg z, put_other fun y => z y.2]
theorem with_tab {m w r c n : Nat} {T : Nat → Nat → Option Nat} : (D.tup ((List.range m).map fun k => if k = r then eR w (put T r c n r) else eR w (T k))) = eT m w (put T r c n) := by
  unfold eT
  refine congrArg D.tup (List.map_congr_left fun k _ => ?_)
  by_cases z : k = r
  · rw [if_pos z, z]
  · rw [if_neg z]
    unfold eR
    refine congrArg D.tup (List.map_congr_left fun j _ => ?_)
    rw [put_other fun y => z y.1]
theorem law_with_m {m w r c n : Nat} {T : Nat → Nat → Option Nat} (hm : m ≤ 100) (hw : w ≤ 100) (hr : r < m) (hc : c < w) : m_law_with [eT m w T, .int r, .int c, .int n] = some (eT m w (put T r c n)) := by
  have t1 := ix_eT (w := w) (T := T) hr
  have g1 := glue_m (m := w) (i := c) (f := fun j => eO (T r j)) (x := .int n) hc hw
  rw [with_row] at g1
  have g1 : (bnd (opSl none (some (c : Int)) (eR w (T r))) fun a => bnd (opAdd a (.tup [.int n])) fun b => bnd (opSl (some ((c : Int) + 1)) none (eR w (T r))) fun c => opAdd b c) = some (eR w (put T r c n r)) := g1
  have g2 := glue_m (m := m) (i := r) (f := fun i => eR w (T i)) (x := eR w (put T r c n r)) hr hm
  rw [with_tab] at g2
  have g2 : (bnd (opSl none (some (r : Int)) (eT m w T)) fun a => bnd (opAdd a (.tup [eR w (put T r c n r)])) fun b => bnd (opSl (some ((r : Int) + 1)) none (eT m w T)) fun c => opAdd b c) = some (eT m w (put T r c n)) := g2
  have s1 : (d2 opAdd (d2 opAdd (dSl (d2 opIx (dv 0) (dv 1)) oNo (oIx (dv 2))) (dL opTup (dcons (dv 3) dnil))) (dSl (d2 opIx (dv 0) (dv 1)) (oIx (d2 opAdd (dv 2) (dc (.int 1)))) oNo)) [some (eT m w T), some (.int r), some (.int c), some (.int n), none] = some (eR w (put T r c n r)) := by
    rw [← g1]
    simp only [bnd_some, bnd_none, p_dc, p_dv, lk_z, lk_s, st_z, st_s, un_z, un_s, wipe_n, wipe_c, p_d2, p_d1, p_dnil, p_dcons, p_dL, p_asB, p_asI, p_asL, p_asSeqL, p_asSeqT, p_bV, p_dB, p_bAnd, p_bOr, p_bNot, p_dIf, p_dAnd, p_dOr, p_dNot, p_dCh, p_bYes, p_gN, p_gT, p_gsNil, p_gsCons, p_dNx, p_dRet, p_dSet, p_dIfS, p_dAsg, p_dPar, p_dAug, p_dApp, p_dSetIx, p_nLst, p_nRep, p_nOf, p_dSetN, p_dParN1, p_dParNN, p_iSeq, p_iRng1, p_iRng2, p_oNo, p_oIx, p_dSl, p_asIx, p_opTup, p_opLst, p_lenT, p_lenL, p_lenS, p_tupT, p_tupL, p_add, p_sub, p_mul, p_lt, p_le, p_gt, p_ge, p_eqI, p_neI, p_isN, p_isnN, p_isB, p_isnB, p_isNone_n, p_isNone_i, p_isNone_t, p_isNone_l, p_appL, p_appT, b_mc, b_mn, b_ac, b_an, b_rs, b_rz, b_lc, b_ln, b_it, b_if, b_itt, b_iff, p_dSeq, p_eqB, p_neB, len_eT, len_eR, len_eV, isNone_eO, seq_eT, seq_eR, seq_eV, seq_eL, eO_some, eO_none, len_eL, ↓p_eqN, ↓p_neN, ↓p_ltN, ↓p_leN, ↓p_gtN, ↓p_geN, t1, Nat.reduceAdd, Nat.reduceLeDiff]
    cases opSl none (some (c : Int)) (eR w (T r)) with
    | none => rfl
    | some y => simp only [bnd_some, bnd_none, p_dc, p_dv, lk_z, lk_s, st_z, st_s, un_z, un_s, wipe_n, wipe_c, p_d2, p_d1, p_dnil, p_dcons, p_dL, p_asB, p_asI, p_asL, p_asSeqL, p_asSeqT, p_bV, p_dB, p_bAnd, p_bOr, p_bNot, p_dIf, p_dAnd, p_dOr, p_dNot, p_dCh, p_bYes, p_gN, p_gT, p_gsNil, p_gsCons, p_dNx, p_dRet, p_dSet, p_dIfS, p_dAsg, p_dPar, p_dAug, p_dApp, p_dSetIx, p_nLst, p_nRep, p_nOf, p_dSetN, p_dParN1, p_dParNN, p_iSeq, p_iRng1, p_iRng2, p_oNo, p_oIx, p_dSl, p_asIx, p_opTup, p_opLst, p_lenT, p_lenL, p_lenS, p_tupT, p_tupL, p_add, p_sub, p_mul, p_lt, p_le, p_gt, p_ge, p_eqI, p_neI, p_isN, p_isnN, p_isB, p_isnB, p_isNone_n, p_isNone_i, p_isNone_t, p_isNone_l, p_appL, p_appT, b_mc, b_mn, b_ac, b_an, b_rs, b_rz, b_lc, b_ln, b_it, b_if, b_itt, b_iff, p_dSeq, p_eqB, p_neB, len_eT, len_eR, len_eV, isNone_eO, seq_eT, seq_eR, seq_eV, seq_eL, eO_some, eO_none, len_eL, ↓p_eqN, ↓p_neN, ↓p_ltN, ↓p_leN, ↓p_gtN, ↓p_geN]
  have s2 : (d2 opAdd (d2 opAdd (dSl (dv 0) oNo (oIx (dv 1))) (dL opTup (dcons (dv 4) dnil))) (dSl (dv 0) (oIx (d2 opAdd (dv 1) (dc (.int 1)))) oNo)) [some (eT m w T), some (.int r), some (.int c), some (.int n), some (eR w (put T r c n r))] = some (eT m w (put T r c n)) := by
    rw [← g2]
    simp only [bnd_some, bnd_none, p_dc, p_dv, lk_z, lk_s, st_z, st_s, un_z, un_s, wipe_n, wipe_c, p_d2, p_d1, p_dnil, p_dcons, p_dL, p_asB, p_asI, p_asL, p_asSeqL, p_asSeqT, p_bV, p_dB, p_bAnd, p_bOr, p_bNot, p_dIf, p_dAnd, p_dOr, p_dNot, p_dCh, p_bYes, p_gN, p_gT, p_gsNil, p_gsCons, p_dNx, p_dRet, p_dSet, p_dIfS, p_dAsg, p_dPar, p_dAug, p_dApp, p_dSetIx, p_nLst, p_nRep, p_nOf, p_dSetN, p_dParN1, p_dParNN, p_iSeq, p_iRng1, p_iRng2, p_oNo, p_oIx, p_dSl, p_asIx, p_opTup, p_opLst, p_lenT, p_lenL, p_lenS, p_tupT, p_tupL, p_add, p_sub, p_mul, p_lt, p_le, p_gt, p_ge, p_eqI, p_neI, p_isN, p_isnN, p_isB, p_isnB, p_isNone_n, p_isNone_i, p_isNone_t, p_isNone_l, p_appL, p_appT, b_mc, b_mn, b_ac, b_an, b_rs, b_rz, b_lc, b_ln, b_it, b_if, b_itt, b_iff, p_dSeq, p_eqB, p_neB, len_eT, len_eR, len_eV, isNone_eO, seq_eT, seq_eR, seq_eV, seq_eL, eO_some, eO_none, len_eL, ↓p_eqN, ↓p_neN, ↓p_ltN, ↓p_leN, ↓p_gtN, ↓p_geN, Nat.reduceAdd, Nat.reduceLeDiff]
    cases opSl none (some (r : Int)) (eT m w T) with
    | none => rfl
    | some y => simp only [bnd_some, bnd_none, p_dc, p_dv, lk_z, lk_s, st_z, st_s, un_z, un_s, wipe_n, wipe_c, p_d2, p_d1, p_dnil, p_dcons, p_dL, p_asB, p_asI, p_asL, p_asSeqL, p_asSeqT, p_bV, p_dB, p_bAnd, p_bOr, p_bNot, p_dIf, p_dAnd, p_dOr, p_dNot, p_dCh, p_bYes, p_gN, p_gT, p_gsNil, p_gsCons, p_dNx, p_dRet, p_dSet, p_dIfS, p_dAsg, p_dPar, p_dAug, p_dApp, p_dSetIx, p_nLst, p_nRep, p_nOf, p_dSetN, p_dParN1, p_dParNN, p_iSeq, p_iRng1, p_iRng2, p_oNo, p_oIx, p_dSl, p_asIx, p_opTup, p_opLst, p_lenT, p_lenL, p_lenS, p_tupT, p_tupL, p_add, p_sub, p_mul, p_lt, p_le, p_gt, p_ge, p_eqI, p_neI, p_isN, p_isnN, p_isB, p_isnB, p_isNone_n, p_isNone_i, p_isNone_t, p_isNone_l, p_appL, p_appT, b_mc, b_mn, b_ac, b_an, b_rs, b_rz, b_lc, b_ln, b_it, b_if, b_itt, b_iff, p_dSeq, p_eqB, p_neB, len_eT, len_eR, len_eV, isNone_eO, seq_eT, seq_eR, seq_eV, seq_eL, eO_some, eO_none, len_eL, ↓p_eqN, ↓p_neN, ↓p_ltN, ↓p_leN, ↓p_gtN, ↓p_geN]
  refine run_rt rfl ?_
  simp only [b_mc, b_mn, b_ac, b_an, b_rs, b_rz, Nat.reduceSub]
  rw [p_dSeq, p_dSet, s1]
  simp only [bnd_some, st_z, st_s, p_dRet, s2]
end Mi
namespace Mi
open DL
end Mi
namespace Mi
open DL
end Mi
namespace Mi
open DL
section
variable {M m w r c : Nat} {T : Nat → Nat → Option Nat} {A B : Nat → Nat}
theorem Tab.put {n : Nat} (h : Tab m w T) (h0 : 0 < n) (hn : n ≤ 1000000000000000000) : Tab m w (put T r c n) := ⟨h.m0, h.m1, h.w0, h.w1, fun i j e he => by
  unfold Mi.put at he
  by_cases z : i = r ∧ j = c
  · rw [if_pos z] at he; cases he; exact ⟨h0, hn⟩
  · rw [if_neg z] at he; exact h.bd i j e he⟩
end
end Mi
namespace Mi
open DL
@[simp] theorem p_dOrT (f g : DF) (ρ : Rho) : dOrT f g ρ = bnd (f ρ) fun x => bnd (truI x) fun k => if k = true then some x else g ρ := (rfl)
end Mi
namespace Mi
open DL
end Mi
namespace Mi
open DL
end Mi
namespace Mi
open DL
end Mi
namespace Mi
open DL
theorem size3 (d : Nat) : ∃ m : Nat, 0 < m ∧ m ≤ 3 ∧ (bnd (opMod (.int d) (.int 3)) fun y => opAdd (.int 1) y) = some (.int m) := by
  have h : opMod (.int d) (.int 3) = some (.int (d % 3 : Nat)) := mod_n (b := 3) (by decide)
  refine ⟨1 + d % 3, by omega, by omega, ?_⟩
  rw [h]
  rfl
end Mi
namespace Mi
open DL
def okL (T : Nat → Nat → Option Nat) (m w : Nat) : List D := (List.range m).map fun i => D.lst ((List.range w).map fun j => eO (T i j))
/-- T with entries of V put in -/
def Fil (T V T' : Nat → Nat → Option Nat) : Prop := ∀ i j, T' i j = T i j ∨ (T i j = none ∧ T' i j = V i j)
theorem Fil.refl (T V : Nat → Nat → Option Nat) : Fil T V T := fun _ _ => Or.inl rfl
def putO (T : Nat → Nat → Option Nat) (r c : Nat) (x : Option Nat) : Nat → Nat → Option Nat := fun i j => if i = r ∧ j = c then x else T i j
theorem Fil.put {T V T' : Nat → Nat → Option Nat} (h : Fil T V T') {r c : Nat} (hn : T' r c = none) : Fil T V (putO T' r c (V r c)) := fun i j => by
  unfold putO
  by_cases q : i = r ∧ j = c
  · rw [if_pos q, q.1, q.2]
    rcases h r c with e | ⟨e1, e2⟩
    · exact Or.inr ⟨e ▸ hn, rfl⟩
    · exact Or.inr ⟨e1, rfl⟩
  · rw [if_neg q]
    exact h i j
end Mi
namespace Mi
open DL
theorem lk_st_i : ∀ {ρ : Rho} {i : Nat} {d : D}, i < ρ.length → lk (st ρ i d) i = some d
  | [], i, d, h => absurd h (Nat.not_lt_zero i)
  | _ :: _, 0, _, _ => rfl
  | _ :: r, i + 1, d, h => lk_st_i (ρ := r) (i := i) (by simpa using h)
theorem lk_st_o {ρ : Rho} {i j : Nat} {d : D} (h : (j == i) = false) : lk (st ρ i d) j = lk ρ j := lk_st_ne (by simpa using h)
theorem lk_un_o {ρ : Rho} {i j : Nat} (h : (j == i) = false) : lk (un ρ i) j = lk ρ j := lk_un_ne (by simpa using h)
theorem len_st (ρ : Rho) (i : Nat) (d : D) : (st ρ i d).length = ρ.length := st_len ρ i d
theorem len_un (ρ : Rho) (i : Nat) : (un ρ i).length = ρ.length := un_len ρ i
/-- ρ' is ρ but at the slots ws -/
def Ag (ws : List Nat) (ρ ρ' : Rho) : Prop := ρ'.length = ρ.length ∧ ∀ j, j ∉ ws → lk ρ' j = lk ρ j
theorem Ag.refl (ws : List Nat) (ρ : Rho) : Ag ws ρ ρ := ⟨rfl, fun _ _ => rfl⟩
theorem Ag.st {ws : List Nat} {ρ ρ' : Rho} {i : Nat} {d : D} (h : Ag ws ρ ρ') (hi : i ∈ ws) : Ag ws ρ (st ρ' i d) :=
  ⟨(st_len ρ' i d).trans h.1, fun j hj => (lk_st_ne (fun e : j = i => hj (by rw [e]; exact hi))).trans (h.2 j hj)⟩
theorem Ag.trans {ws : List Nat} {a b c : Rho} (h : Ag ws a b) (h' : Ag ws b c) : Ag ws a c := ⟨h'.1.trans h.1, fun j hj => (h'.2 j hj).trans (h.2 j hj)⟩
theorem Ag.mono {ws vs : List Nat} {a b : Rho} (h : Ag ws a b) (hs : ∀ i ∈ ws, i ∈ vs) : Ag vs a b := ⟨h.1, fun j hj => h.2 j fun z => hj (hs j z)⟩
theorem Ag.lk {ws : List Nat} {a b : Rho} (h : Ag ws a b) (j : Nat) (hj : j ∉ ws) {x : Option D} (e : lk a j = x) : DL.lk b j = x := (h.2 j hj).trans e
theorem for_ag {b : DS} {i n : Nat} {ws : List Nat} {ρ : Rho} (e : Nat → D) (hi : i ∈ ws) (hl : i < ρ.length) (hb : ∀ k, k < n → ∀ ρ', Ag ws ρ ρ' → lk ρ' i = some (e k) → ∃ ρ'', b ρ' = some (.nx ρ'') ∧ Ag ws ρ ρ'') :
    ∃ ρ', forL (gN i) b ((List.range n).map e) ρ = some (.nx ρ') ∧ Ag ws ρ ρ' :=
  for_range (g := gN i) e (fun _ ρ' => Ag ws ρ ρ') n (fun k hk ρ' h => ⟨_, rfl, hb k hk _ (h.st hi) (lk_st_i (by rw [h.1]; exact hl))⟩) (Ag.refl ws ρ)
theorem for_agL {α : Type} {b : DS} {i : Nat} {ws : List Nat} {ρ : Rho} (e : α → D) (xs : List α) (hi : i ∈ ws) (hl : i < ρ.length) (hb : ∀ x ∈ xs, ∀ ρ', Ag ws ρ ρ' → lk ρ' i = some (e x) → ∃ ρ'', b ρ' = some (.nx ρ'') ∧ Ag ws ρ ρ'') :
    ∃ ρ', forL (gN i) b (xs.map e) ρ = some (.nx ρ') ∧ Ag ws ρ ρ' :=
  for_all (g := gN i) e (fun ρ' => Ag ws ρ ρ') xs ρ (fun k hk ρ' h => ⟨_, rfl, hb k hk _ (h.st hi) (lk_st_i (by rw [h.1]; exact hl))⟩) (Ag.refl ws ρ)
theorem eqDs_ints : ∀ a b : List Nat, eqDs (a.map fun n => D.int (n : Nat)) (b.map fun n => D.int (n : Nat)) = decide (a = b)
  | [], [] => rfl
  | [], _ :: _ => rfl
  | _ :: _, [] => rfl
  | x :: a, y :: b => by
    rw [List.map_cons, List.map_cons]
    unfold eqDs
    rw [eqDs_ints a b]
    have : eqD (.int (x : Int)) (.int (y : Int)) = decide (x = y) := by
      show decide ((x : Int) = y) = _
      exact decide_eq_decide.mpr (by omega)
    rw [this, Bool.eq_iff_iff]
    simp
theorem eq_eL (a b : List Nat) : eqD (eL a) (eL b) = decide (a = b) := by
  show eqDs _ _ = _
  exact eqDs_ints a b
end Mi
namespace Mi
open DL
end Mi
namespace Mi
open DL
end Mi
namespace Mi
open DL
end Mi
namespace Mi
open DL
theorem okTs_map {α : Type} (f : α → D) : ∀ l : List α, (∀ x ∈ l, okT (f x) = true) → okTs (l.map f) = true
  | [], _ => rfl
  | a :: l, h => by
    rw [List.map_cons]
    unfold okTs
    rw [h a List.mem_cons_self, okTs_map f l fun x hx => h x (List.mem_cons_of_mem _ hx)]
    rfl
theorem okT_eT (m w : Nat) (T : Nat → Nat → Option Nat) : okT (eT m w T) = true := by
  show okTs _ = true
  refine okTs_map _ _ fun i _ => ?_
  show okTs _ = true
  refine okTs_map _ _ fun j _ => ?_
  cases T i j <;> rfl
end Mi
namespace Mi
open DL
section
variable {m w M : Nat} {T : Nat → Nat → Option Nat} {A B R C : Nat → Nat}
theorem ev_real (hM : DvM M T) (hr : isReal m w T = true) (hs : SureA m w T A B) {r c : Nat} (hrm : r < m) (hcw : c < w) (hn : T r c = none) {l : List Nat} (h : EvL m w T A B r c (some l)) :
    l.Pairwise (· < ·) ∧ ∀ d, d ∈ l ↔ 0 < d ∧ isReal m w (put T r c d) = true := by
  rcases h with ⟨e, he, _⟩ | ⟨_, h1, h2, hb⟩
  · rw [hn] at he; cases he
  · refine ⟨hb.1, fun d => ?_⟩
    rw [hb.2 d]
    have kr := gR_known h1
    have kc := gR_known (f := fun i => T i c) h2
    constructor
    · intro q
      have d0 : 0 < d := Nat.pos_of_dvd_of_pos q.2 (Nat.lcm_pos h1 h2)
      exact ⟨d0, (real_put hM hr hs hrm hcw hn kr kc d0).mpr q⟩
    · rintro ⟨d0, q⟩
      exact (real_put hM hr hs hrm hcw hn kr kc d0).mp q
end
end Mi
namespace Mi
open DL
end Mi
namespace Mi
open DL
theorem for_agTP {α : Type} {g : DG} {b : DS} {ws : List Nat} {ρ : Rho} (e : α → D) (P : List α → Rho → Prop) (xs : List α) (h0 : P [] ρ)
    (hb : ∀ pre x r, xs = pre ++ x :: r → ∀ ρ', Ag ws ρ ρ' → P pre ρ' → ∃ ρ1, g (e x) ρ' = some ρ1 ∧ ∃ ρ'', b ρ1 = some (.nx ρ'') ∧ Ag ws ρ ρ'' ∧ P (pre ++ [x]) ρ'') :
    ∃ ρ', forL g b (xs.map e) ρ = some (.nx ρ') ∧ Ag ws ρ ρ' ∧ P xs ρ' :=
  for_pre (g := g) e (fun pre ρ' => Ag ws ρ ρ' ∧ P pre ρ') xs (fun pre x r q ρ' h => hb pre x r q ρ' h.1 h.2) ⟨Ag.refl ws ρ, h0⟩
section
variable {m w : Nat} {T : Nat → Nat → Option Nat}
theorem law_without_m (h : Tab m w T) {S : List (Nat × Nat)} {dS : D} (hS : ∀ p : Nat × Nat, opIn (.tup [.int p.1, .int p.2]) dS = some (.bl (decide (p ∈ S)))) :
    m_law_without [eT m w T, dS] = some (eT m w (wo T S)) := by
  have hm1 := h.m1
  have hw1 := h.w1
  obtain ⟨ρ', q1, ag, q2⟩ := for_agTP (g := gT (gsCons (gN 3) (gsCons (gN 4) gsNil))) (b := m_law_without_b1) (ws := [2, 3, 4]) (ρ := [some (eT m w T), some dS, some (.lst []), none, none, none, none]) (fun i : Nat => .tup [.int (i : Nat), eR w (T i)])
    (fun pre ρ' => pre = List.range pre.length ∧ lk ρ' 2 = some (.lst (pre.map fun i => eR w (wo T S i)))) (List.range m) ⟨rfl, rfl⟩ (by
      rintro pre i r e ρ' ag ⟨ep, h2⟩
      have hi : i < m := List.mem_range.mp (by rw [e]; simp)
      have hlen : ρ'.length = 7 := ag.1
      have h1 := ag.lk 1 (by decide) (x := some dS) rfl
      have c1 : m_law_without_c1 (st (st ρ' 3 (.int i)) 4 (eR w (T i))) = some (.lst ((List.range w).map fun j => eO (wo T S i j))) := by
        unfold m_law_without_c1
        refine comp_all (fun j => .tup [.int (j : Nat), eO (T i j)]) _ (List.range w) (en_eR (by simp only [bnd_some, bnd_none, p_dc, p_dv, lk_z, lk_s, st_z, st_s, un_z, un_s, wipe_n, wipe_c, p_d2, p_d1, p_dnil, p_dcons, p_dL, p_asB, p_asI, p_asL, p_asSeqL, p_asSeqT, p_bV, p_dB, p_bAnd, p_bOr, p_bNot, p_dIf, p_dAnd, p_dOr, p_dNot, p_dCh, p_bYes, p_gN, p_gT, p_gsNil, p_gsCons, p_dNx, p_dRet, p_dSet, p_dIfS, p_dAsg, p_dPar, p_dAug, p_dApp, p_dSetIx, p_nLst, p_nRep, p_nOf, p_dSetN, p_dParN1, p_dParNN, p_iSeq, p_iRng1, p_iRng2, p_oNo, p_oIx, p_dSl, p_asIx, p_opTup, p_opLst, p_lenT, p_lenL, p_lenS, p_tupT, p_tupL, p_add, p_sub, p_mul, p_lt, p_le, p_gt, p_ge, p_eqI, p_neI, p_isN, p_isnN, p_isB, p_isnB, p_isNone_n, p_isNone_i, p_isNone_t, p_isNone_l, p_appL, p_appT, b_mc, b_mn, b_ac, b_an, b_rs, b_rz, b_lc, b_ln, b_it, b_if, b_itt, b_iff, p_dSeq, p_eqB, p_neB, len_eT, len_eR, len_eV, isNone_eO, seq_eT, seq_eR, seq_eV, seq_eL, eO_some, eO_none, len_eL, p_dOrT, ↓p_eqN, ↓p_neN, ↓p_ltN, ↓p_leN, ↓p_gtN, ↓p_geN, lk_st_i, len_st, Nat.reduceLT, hlen])) (by simp; omega) ?_
        intro j _
        refine ⟨_, rfl, ?_⟩
        have i1 : opIn (.tup [.int (i : Nat), .int (j : Nat)]) dS = some (.bl (decide ((i, j) ∈ S))) := hS (i, j)
        by_cases z : (i, j) ∈ S
        · simp only [bnd_some, bnd_none, p_dc, p_dv, lk_z, lk_s, st_z, st_s, un_z, un_s, wipe_n, wipe_c, p_d2, p_d1, p_dnil, p_dcons, p_dL, p_asB, p_asI, p_asL, p_asSeqL, p_asSeqT, p_bV, p_dB, p_bAnd, p_bOr, p_bNot, p_dIf, p_dAnd, p_dOr, p_dNot, p_dCh, p_bYes, p_gN, p_gT, p_gsNil, p_gsCons, p_dNx, p_dRet, p_dSet, p_dIfS, p_dAsg, p_dPar, p_dAug, p_dApp, p_dSetIx, p_nLst, p_nRep, p_nOf, p_dSetN, p_dParN1, p_dParNN, p_iSeq, p_iRng1, p_iRng2, p_oNo, p_oIx, p_dSl, p_asIx, p_opTup, p_opLst, p_lenT, p_lenL, p_lenS, p_tupT, p_tupL, p_add, p_sub, p_mul, p_lt, p_le, p_gt, p_ge, p_eqI, p_neI, p_isN, p_isnN, p_isB, p_isnB, p_isNone_n, p_isNone_i, p_isNone_t, p_isNone_l, p_appL, p_appT, b_mc, b_mn, b_ac, b_an, b_rs, b_rz, b_lc, b_ln, b_it, b_if, b_itt, b_iff, p_dSeq, p_eqB, p_neB, len_eT, len_eR, len_eV, isNone_eO, seq_eT, seq_eR, seq_eV, seq_eL, eO_some, eO_none, len_eL, p_dOrT, ↓p_eqN, ↓p_neN, ↓p_ltN, ↓p_leN, ↓p_gtN, ↓p_geN, lk_st_o, lk_st_i, lk_un_o, len_st, len_un, Nat.reduceBEq, Nat.reduceLT, hlen, h1, Nat.reduceAdd, Nat.reduceLeDiff, i1, decide_eq_true z, wo, if_pos z, eO_none]
        · simp only [bnd_some, bnd_none, p_dc, p_dv, lk_z, lk_s, st_z, st_s, un_z, un_s, wipe_n, wipe_c, p_d2, p_d1, p_dnil, p_dcons, p_dL, p_asB, p_asI, p_asL, p_asSeqL, p_asSeqT, p_bV, p_dB, p_bAnd, p_bOr, p_bNot, p_dIf, p_dAnd, p_dOr, p_dNot, p_dCh, p_bYes, p_gN, p_gT, p_gsNil, p_gsCons, p_dNx, p_dRet, p_dSet, p_dIfS, p_dAsg, p_dPar, p_dAug, p_dApp, p_dSetIx, p_nLst, p_nRep, p_nOf, p_dSetN, p_dParN1, p_dParNN, p_iSeq, p_iRng1, p_iRng2, p_oNo, p_oIx, p_dSl, p_asIx, p_opTup, p_opLst, p_lenT, p_lenL, p_lenS, p_tupT, p_tupL, p_add, p_sub, p_mul, p_lt, p_le, p_gt, p_ge, p_eqI, p_neI, p_isN, p_isnN, p_isB, p_isnB, p_isNone_n, p_isNone_i, p_isNone_t, p_isNone_l, p_appL, p_appT, b_mc, b_mn, b_ac, b_an, b_rs, b_rz, b_lc, b_ln, b_it, b_if, b_itt, b_iff, p_dSeq, p_eqB, p_neB, len_eT, len_eR, len_eV, isNone_eO, seq_eT, seq_eR, seq_eV, seq_eL, eO_some, eO_none, len_eL, p_dOrT, ↓p_eqN, ↓p_neN, ↓p_ltN, ↓p_leN, ↓p_gtN, ↓p_geN, lk_st_o, lk_st_i, lk_un_o, len_st, len_un, Nat.reduceBEq, Nat.reduceLT, hlen, h1, Nat.reduceAdd, Nat.reduceLeDiff, i1, decide_eq_false z, wo, if_neg z]
      have pl : pre.length ≤ m := by
        have := congrArg List.length e
        simp at this
        omega
      have hl : (pre.map fun i => eR w (wo T S i)).length < 16777216 := by rw [List.length_map]; omega
      have et : D.tup ((List.range w).map fun j => eO (wo T S i j)) = eR w (wo T S i) := rfl
      refine ⟨_, by simp only [bnd_some, bnd_none, p_dc, p_dv, lk_z, lk_s, st_z, st_s, un_z, un_s, wipe_n, wipe_c, p_d2, p_d1, p_dnil, p_dcons, p_dL, p_asB, p_asI, p_asL, p_asSeqL, p_asSeqT, p_bV, p_dB, p_bAnd, p_bOr, p_bNot, p_dIf, p_dAnd, p_dOr, p_dNot, p_dCh, p_bYes, p_gN, p_gT, p_gsNil, p_gsCons, p_dNx, p_dRet, p_dSet, p_dIfS, p_dAsg, p_dPar, p_dAug, p_dApp, p_dSetIx, p_nLst, p_nRep, p_nOf, p_dSetN, p_dParN1, p_dParNN, p_iSeq, p_iRng1, p_iRng2, p_oNo, p_oIx, p_dSl, p_asIx, p_opTup, p_opLst, p_lenT, p_lenL, p_lenS, p_tupT, p_tupL, p_add, p_sub, p_mul, p_lt, p_le, p_gt, p_ge, p_eqI, p_neI, p_isN, p_isnN, p_isB, p_isnB, p_isNone_n, p_isNone_i, p_isNone_t, p_isNone_l, p_appL, p_appT, b_mc, b_mn, b_ac, b_an, b_rs, b_rz, b_lc, b_ln, b_it, b_if, b_itt, b_iff, p_dSeq, p_eqB, p_neB, len_eT, len_eR, len_eV, isNone_eO, seq_eT, seq_eR, seq_eV, seq_eL, eO_some, eO_none, len_eL, p_dOrT, ↓p_eqN, ↓p_neN, ↓p_ltN, ↓p_leN, ↓p_gtN, ↓p_geN]; rfl, st (st (st ρ' 3 (.int i)) 4 (eR w (T i))) 2 (.lst ((pre.map fun i => eR w (wo T S i)) ++ [eR w (wo T S i)])), ?_, ((ag.st (by decide)).st (by decide)).st (by decide), ?_, ?_⟩
      · simp only [m_law_without_b1, bnd_some, bnd_none, p_dc, p_dv, lk_z, lk_s, st_z, st_s, un_z, un_s, wipe_n, wipe_c, p_d2, p_d1, p_dnil, p_dcons, p_dL, p_asB, p_asI, p_asL, p_asSeqL, p_asSeqT, p_bV, p_dB, p_bAnd, p_bOr, p_bNot, p_dIf, p_dAnd, p_dOr, p_dNot, p_dCh, p_bYes, p_gN, p_gT, p_gsNil, p_gsCons, p_dNx, p_dRet, p_dSet, p_dIfS, p_dAsg, p_dPar, p_dAug, p_dApp, p_dSetIx, p_nLst, p_nRep, p_nOf, p_dSetN, p_dParN1, p_dParNN, p_iSeq, p_iRng1, p_iRng2, p_oNo, p_oIx, p_dSl, p_asIx, p_opTup, p_opLst, p_lenT, p_lenL, p_lenS, p_tupT, p_tupL, p_add, p_sub, p_mul, p_lt, p_le, p_gt, p_ge, p_eqI, p_neI, p_isN, p_isnN, p_isB, p_isnB, p_isNone_n, p_isNone_i, p_isNone_t, p_isNone_l, p_appL, p_appT, b_mc, b_mn, b_ac, b_an, b_rs, b_rz, b_lc, b_ln, b_it, b_if, b_itt, b_iff, p_dSeq, p_eqB, p_neB, len_eT, len_eR, len_eV, isNone_eO, seq_eT, seq_eR, seq_eV, seq_eL, eO_some, eO_none, len_eL, p_dOrT, ↓p_eqN, ↓p_neN, ↓p_ltN, ↓p_leN, ↓p_gtN, ↓p_geN, c1, et, lk_st_o, lk_st_i, len_st, Nat.reduceBEq, Nat.reduceLT, hlen, h2, if_pos hl]
      · have ei : i = pre.length := by
          have q : (List.range m)[pre.length]? = some i := by rw [e]; simp
          rw [List.getElem?_range (by
            have := congrArg List.length e
            simp at this
            omega)] at q
          exact (Option.some.inj q).symm
        rw [List.length_append, List.length_singleton, List.range_succ, ← ep, ← ei]
      · rw [lk_st_i (by simp only [len_st, hlen, Nat.reduceLT])]
        simp)
  have f := (for_eq (it := iEn (dcons (dv 0) dnil)) (ρ := [some (eT m w T), some dS, some (.lst []), none, none, none, none]) (en_eT (by simp only [bnd_some, bnd_none, p_dc, p_dv, lk_z, lk_s, st_z, st_s, un_z, un_s, wipe_n, wipe_c, p_d2, p_d1, p_dnil, p_dcons, p_dL, p_asB, p_asI, p_asL, p_asSeqL, p_asSeqT, p_bV, p_dB, p_bAnd, p_bOr, p_bNot, p_dIf, p_dAnd, p_dOr, p_dNot, p_dCh, p_bYes, p_gN, p_gT, p_gsNil, p_gsCons, p_dNx, p_dRet, p_dSet, p_dIfS, p_dAsg, p_dPar, p_dAug, p_dApp, p_dSetIx, p_nLst, p_nRep, p_nOf, p_dSetN, p_dParN1, p_dParNN, p_iSeq, p_iRng1, p_iRng2, p_oNo, p_oIx, p_dSl, p_asIx, p_opTup, p_opLst, p_lenT, p_lenL, p_lenS, p_tupT, p_tupL, p_add, p_sub, p_mul, p_lt, p_le, p_gt, p_ge, p_eqI, p_neI, p_isN, p_isnN, p_isB, p_isnB, p_isNone_n, p_isNone_i, p_isNone_t, p_isNone_l, p_appL, p_appT, b_mc, b_mn, b_ac, b_an, b_rs, b_rz, b_lc, b_ln, b_it, b_if, b_itt, b_iff, p_dSeq, p_eqB, p_neB, len_eT, len_eR, len_eV, isNone_eO, seq_eT, seq_eR, seq_eV, seq_eL, eO_some, eO_none, len_eL, p_dOrT, ↓p_eqN, ↓p_neN, ↓p_ltN, ↓p_leN, ↓p_gtN, ↓p_geN]))).trans q1
  exact run_rt rfl (by simp only [bnd_some, bnd_none, p_dc, p_dv, lk_z, lk_s, st_z, st_s, un_z, un_s, wipe_n, wipe_c, p_d2, p_d1, p_dnil, p_dcons, p_dL, p_asB, p_asI, p_asL, p_asSeqL, p_asSeqT, p_bV, p_dB, p_bAnd, p_bOr, p_bNot, p_dIf, p_dAnd, p_dOr, p_dNot, p_dCh, p_bYes, p_gN, p_gT, p_gsNil, p_gsCons, p_dNx, p_dRet, p_dSet, p_dIfS, p_dAsg, p_dPar, p_dAug, p_dApp, p_dSetIx, p_nLst, p_nRep, p_nOf, p_dSetN, p_dParN1, p_dParNN, p_iSeq, p_iRng1, p_iRng2, p_oNo, p_oIx, p_dSl, p_asIx, p_opTup, p_opLst, p_lenT, p_lenL, p_lenS, p_tupT, p_tupL, p_add, p_sub, p_mul, p_lt, p_le, p_gt, p_ge, p_eqI, p_neI, p_isN, p_isnN, p_isB, p_isnB, p_isNone_n, p_isNone_i, p_isNone_t, p_isNone_l, p_appL, p_appT, b_mc, b_mn, b_ac, b_an, b_rs, b_rz, b_lc, b_ln, b_it, b_if, b_itt, b_iff, p_dSeq, p_eqB, p_neB, len_eT, len_eR, len_eV, isNone_eO, seq_eT, seq_eR, seq_eV, seq_eL, eO_some, eO_none, len_eL, p_dOrT, ↓p_eqN, ↓p_neN, ↓p_ltN, ↓p_leN, ↓p_gtN, ↓p_geN, Nat.reduceSub, Nat.zero_le, f, q2.2]; rfl)
theorem single_mends_m (h : Tab m w T) {V : Nat → Nat → Option (List Nat)} (hV : ∀ p ∈ kp m w T, isReal m w (wo T [p]) = true → m_entry_values [eT m w (wo T [p]), .int p.1, .int p.2] = some (eOL (V p.1 p.2))) :
    m_single_mends [eT m w T] = some (.lst (((kp m w T).filter fun p => isReal m w (wo T [p])).map fun p => .tup [.int p.1, .int p.2, eOL (V p.1 p.2)])) := by
  have kpm := known_places_m h
  have kl := kp_len1 h
  obtain ⟨ρ', q1, ag, q2⟩ := for_agTP (g := gT (gsCons (gN 2) (gsCons (gN 3) gsNil))) (b := m_single_mends_b1) (ws := [1, 2, 3, 4]) (ρ := [some (eT m w T), some (.lst []), none, none, none]) eP
    (fun pre ρ' => lk ρ' 1 = some (.lst ((pre.filter fun p => isReal m w (wo T [p])).map fun p => .tup [.int p.1, .int p.2, eOL (V p.1 p.2)]))) (kp m w T) rfl (by
      rintro pre p r e ρ' ag h1
      have hp : p ∈ kp m w T := by rw [e]; simp
      have hlen : ρ'.length = 5 := ag.1
      have h0 := ag.lk 0 (by decide) (x := some (eT m w T)) rfl
      have wm := without_m h (S := [p]) (dS := .lst [.tup [.int p.1, .int p.2]]) fun q => in_lPs q [p]
      have ir := is_real_m (h.wo [p])
      have pl : pre.length ≤ 10000 := by
        have := congrArg List.length e
        simp at this
        omega
      have hl : ((pre.filter fun p => isReal m w (wo T [p])).map fun p => D.tup [.int p.1, .int p.2, eOL (V p.1 p.2)]).length < 16777216 := by
        rw [List.length_map]
        have := List.length_filter_le (fun p => isReal m w (wo T [p])) pre
        omega
      refine ⟨st (st ρ' 2 (.int p.1)) 3 (.int p.2), by simp only [eP, bnd_some, bnd_none, p_dc, p_dv, lk_z, lk_s, st_z, st_s, un_z, un_s, wipe_n, wipe_c, p_d2, p_d1, p_dnil, p_dcons, p_dL, p_asB, p_asI, p_asL, p_asSeqL, p_asSeqT, p_bV, p_dB, p_bAnd, p_bOr, p_bNot, p_dIf, p_dAnd, p_dOr, p_dNot, p_dCh, p_bYes, p_gN, p_gT, p_gsNil, p_gsCons, p_dNx, p_dRet, p_dSet, p_dIfS, p_dAsg, p_dPar, p_dAug, p_dApp, p_dSetIx, p_nLst, p_nRep, p_nOf, p_dSetN, p_dParN1, p_dParNN, p_iSeq, p_iRng1, p_iRng2, p_oNo, p_oIx, p_dSl, p_asIx, p_opTup, p_opLst, p_lenT, p_lenL, p_lenS, p_tupT, p_tupL, p_add, p_sub, p_mul, p_lt, p_le, p_gt, p_ge, p_eqI, p_neI, p_isN, p_isnN, p_isB, p_isnB, p_isNone_n, p_isNone_i, p_isNone_t, p_isNone_l, p_appL, p_appT, b_mc, b_mn, b_ac, b_an, b_rs, b_rz, b_lc, b_ln, b_it, b_if, b_itt, b_iff, p_dSeq, p_eqB, p_neB, len_eT, len_eR, len_eV, isNone_eO, seq_eT, seq_eR, seq_eV, seq_eL, eO_some, eO_none, len_eL, p_dOrT, ↓p_eqN, ↓p_neN, ↓p_ltN, ↓p_leN, ↓p_gtN, ↓p_geN], ?_⟩
      cases z : isReal m w (wo T [p]) with
      | true =>
        have ev := hV p hp z
        rw [z] at ir
        refine ⟨st (st (st (st ρ' 2 (.int p.1)) 3 (.int p.2)) 4 (eT m w (wo T [p]))) 1 (.lst (((pre.filter fun p => isReal m w (wo T [p])).map fun p => .tup [.int p.1, .int p.2, eOL (V p.1 p.2)]) ++ [.tup [.int p.1, .int p.2, eOL (V p.1 p.2)]])), ?_, (((ag.st (by decide)).st (by decide)).st (by decide)).st (by decide), ?_⟩
        · simp only [m_single_mends_b1, bnd_some, bnd_none, p_dc, p_dv, lk_z, lk_s, st_z, st_s, un_z, un_s, wipe_n, wipe_c, p_d2, p_d1, p_dnil, p_dcons, p_dL, p_asB, p_asI, p_asL, p_asSeqL, p_asSeqT, p_bV, p_dB, p_bAnd, p_bOr, p_bNot, p_dIf, p_dAnd, p_dOr, p_dNot, p_dCh, p_bYes, p_gN, p_gT, p_gsNil, p_gsCons, p_dNx, p_dRet, p_dSet, p_dIfS, p_dAsg, p_dPar, p_dAug, p_dApp, p_dSetIx, p_nLst, p_nRep, p_nOf, p_dSetN, p_dParN1, p_dParNN, p_iSeq, p_iRng1, p_iRng2, p_oNo, p_oIx, p_dSl, p_asIx, p_opTup, p_opLst, p_lenT, p_lenL, p_lenS, p_tupT, p_tupL, p_add, p_sub, p_mul, p_lt, p_le, p_gt, p_ge, p_eqI, p_neI, p_isN, p_isnN, p_isB, p_isnB, p_isNone_n, p_isNone_i, p_isNone_t, p_isNone_l, p_appL, p_appT, b_mc, b_mn, b_ac, b_an, b_rs, b_rz, b_lc, b_ln, b_it, b_if, b_itt, b_iff, p_dSeq, p_eqB, p_neB, len_eT, len_eR, len_eV, isNone_eO, seq_eT, seq_eR, seq_eV, seq_eL, eO_some, eO_none, len_eL, p_dOrT, ↓p_eqN, ↓p_neN, ↓p_ltN, ↓p_leN, ↓p_gtN, ↓p_geN, lk_st_o, lk_st_i, len_st, Nat.reduceBEq, Nat.reduceLT, hlen, h0, h1, Nat.reduceAdd, Nat.reduceLeDiff, wm, ir, ev, if_pos hl]
        · rw [lk_st_i (by simp only [len_st, hlen, Nat.reduceLT]), List.filter_append, List.map_append]
          simp [z]
      | false =>
        rw [z] at ir
        refine ⟨st (st (st ρ' 2 (.int p.1)) 3 (.int p.2)) 4 (eT m w (wo T [p])), ?_, ((ag.st (by decide)).st (by decide)).st (by decide), ?_⟩
        · simp only [m_single_mends_b1, bnd_some, bnd_none, p_dc, p_dv, lk_z, lk_s, st_z, st_s, un_z, un_s, wipe_n, wipe_c, p_d2, p_d1, p_dnil, p_dcons, p_dL, p_asB, p_asI, p_asL, p_asSeqL, p_asSeqT, p_bV, p_dB, p_bAnd, p_bOr, p_bNot, p_dIf, p_dAnd, p_dOr, p_dNot, p_dCh, p_bYes, p_gN, p_gT, p_gsNil, p_gsCons, p_dNx, p_dRet, p_dSet, p_dIfS, p_dAsg, p_dPar, p_dAug, p_dApp, p_dSetIx, p_nLst, p_nRep, p_nOf, p_dSetN, p_dParN1, p_dParNN, p_iSeq, p_iRng1, p_iRng2, p_oNo, p_oIx, p_dSl, p_asIx, p_opTup, p_opLst, p_lenT, p_lenL, p_lenS, p_tupT, p_tupL, p_add, p_sub, p_mul, p_lt, p_le, p_gt, p_ge, p_eqI, p_neI, p_isN, p_isnN, p_isB, p_isnB, p_isNone_n, p_isNone_i, p_isNone_t, p_isNone_l, p_appL, p_appT, b_mc, b_mn, b_ac, b_an, b_rs, b_rz, b_lc, b_ln, b_it, b_if, b_itt, b_iff, p_dSeq, p_eqB, p_neB, len_eT, len_eR, len_eV, isNone_eO, seq_eT, seq_eR, seq_eV, seq_eL, eO_some, eO_none, len_eL, p_dOrT, ↓p_eqN, ↓p_neN, ↓p_ltN, ↓p_leN, ↓p_gtN, ↓p_geN, lk_st_o, lk_st_i, len_st, Nat.reduceBEq, Nat.reduceLT, hlen, h0, h1, Nat.reduceAdd, Nat.reduceLeDiff, wm, ir]
        · simp only [lk_st_o, Nat.reduceBEq, h1]
          rw [List.filter_append]
          simp [z])
  have f := (for_eq (it := iSeq (dL m_known_places (dcons (dv 0) dnil))) (ρ := [some (eT m w T), some (.lst []), none, none, none]) (by simp only [bnd_some, bnd_none, p_dc, p_dv, lk_z, lk_s, st_z, st_s, un_z, un_s, wipe_n, wipe_c, p_d2, p_d1, p_dnil, p_dcons, p_dL, p_asB, p_asI, p_asL, p_asSeqL, p_asSeqT, p_bV, p_dB, p_bAnd, p_bOr, p_bNot, p_dIf, p_dAnd, p_dOr, p_dNot, p_dCh, p_bYes, p_gN, p_gT, p_gsNil, p_gsCons, p_dNx, p_dRet, p_dSet, p_dIfS, p_dAsg, p_dPar, p_dAug, p_dApp, p_dSetIx, p_nLst, p_nRep, p_nOf, p_dSetN, p_dParN1, p_dParNN, p_iSeq, p_iRng1, p_iRng2, p_oNo, p_oIx, p_dSl, p_asIx, p_opTup, p_opLst, p_lenT, p_lenL, p_lenS, p_tupT, p_tupL, p_add, p_sub, p_mul, p_lt, p_le, p_gt, p_ge, p_eqI, p_neI, p_isN, p_isnN, p_isB, p_isnB, p_isNone_n, p_isNone_i, p_isNone_t, p_isNone_l, p_appL, p_appT, b_mc, b_mn, b_ac, b_an, b_rs, b_rz, b_lc, b_ln, b_it, b_if, b_itt, b_iff, p_dSeq, p_eqB, p_neB, len_eT, len_eR, len_eV, isNone_eO, seq_eT, seq_eR, seq_eV, seq_eL, eO_some, eO_none, len_eL, p_dOrT, ↓p_eqN, ↓p_neN, ↓p_ltN, ↓p_leN, ↓p_gtN, ↓p_geN, kpm])).trans q1
  exact run_rt rfl (by simp only [bnd_some, bnd_none, p_dc, p_dv, lk_z, lk_s, st_z, st_s, un_z, un_s, wipe_n, wipe_c, p_d2, p_d1, p_dnil, p_dcons, p_dL, p_asB, p_asI, p_asL, p_asSeqL, p_asSeqT, p_bV, p_dB, p_bAnd, p_bOr, p_bNot, p_dIf, p_dAnd, p_dOr, p_dNot, p_dCh, p_bYes, p_gN, p_gT, p_gsNil, p_gsCons, p_dNx, p_dRet, p_dSet, p_dIfS, p_dAsg, p_dPar, p_dAug, p_dApp, p_dSetIx, p_nLst, p_nRep, p_nOf, p_dSetN, p_dParN1, p_dParNN, p_iSeq, p_iRng1, p_iRng2, p_oNo, p_oIx, p_dSl, p_asIx, p_opTup, p_opLst, p_lenT, p_lenL, p_lenS, p_tupT, p_tupL, p_add, p_sub, p_mul, p_lt, p_le, p_gt, p_ge, p_eqI, p_neI, p_isN, p_isnN, p_isB, p_isnB, p_isNone_n, p_isNone_i, p_isNone_t, p_isNone_l, p_appL, p_appT, b_mc, b_mn, b_ac, b_an, b_rs, b_rz, b_lc, b_ln, b_it, b_if, b_itt, b_iff, p_dSeq, p_eqB, p_neB, len_eT, len_eR, len_eV, isNone_eO, seq_eT, seq_eR, seq_eV, seq_eL, eO_some, eO_none, len_eL, p_dOrT, ↓p_eqN, ↓p_neN, ↓p_ltN, ↓p_leN, ↓p_gtN, ↓p_geN, Nat.reduceSub, Nat.zero_le, f, q2])
end
end Mi
namespace Mi
open DL
theorem DvM.wo {M : Nat} {T : Nat → Nat → Option Nat} (h : DvM M T) (S : List (Nat × Nat)) : DvM M (wo T S) := ⟨h.pos, h.le, fun i j e he => h.dvd i j e (wo_some he).1⟩
open Classical in
theorem choose_P {α : Type} {P : α → Prop} {Q : α → Option (List Nat) → Prop} (h : ∀ p, P p → ∃ v, Q p v) : ∃ V : α → Option (List Nat), ∀ p, P p → Q p (V p) := by
  refine ⟨fun p => if z : _ then Classical.choose (h p z) else none, fun p hp => ?_⟩
  show Q p (if z : P p then Classical.choose (h p z) else none)
  rw [dif_pos hp]
  exact Classical.choose_spec (h p hp)
section
variable {m w M : Nat} {T : Nat → Nat → Option Nat}
theorem mends_any (h : Tab m w T) (hM : DvM M T) (hM2 : M ≤ 16777216) : ∃ V : Nat × Nat → Option (List Nat), ∀ p, (p ∈ kp m w T ∧ isReal m w (wo T [p]) = true) →
    (∃ A B, SureA m w (wo T [p]) A B ∧ EvL m w (wo T [p]) A B p.1 p.2 (V p)) ∧ m_entry_values [eT m w (wo T [p]), .int p.1, .int p.2] = some (eOL (V p)) := by
  refine choose_P (P := fun p => p ∈ kp m w T ∧ isReal m w (wo T [p]) = true) (Q := fun p v => (∃ A B, SureA m w (wo T [p]) A B ∧ EvL m w (wo T [p]) A B p.1 p.2 v) ∧ m_entry_values [eT m w (wo T [p]), .int p.1, .int p.2] = some (eOL v)) fun p hp => ?_
  obtain ⟨e, he, p1, p2⟩ := kp_some hp.1
  obtain ⟨A, B, hs, _, _, _, ev⟩ := entry_values_m (h.wo [p]) (hM.wo [p]) hp.2 fun n h0 hd => Nat.le_trans (divs_len_le n) (Nat.le_trans (Nat.le_of_dvd hM.pos hd) hM2)
  obtain ⟨v, h1, _, h3⟩ := ev p.1 p.2 p1 p2
  exact ⟨v, ⟨A, B, hs, h1⟩, h3⟩
end
end Mi
namespace Mi
open DL
theorem kp9 {m w : Nat} {T : Nat → Nat → Option Nat} (hm : m ≤ 3) (hw : w ≤ 3) : (kp m w T).length ≤ 9 := Nat.le_trans (kp_len w T m) (Nat.mul_le_mul hm hw)
end Mi
namespace Mi
open DL
section
variable {m w M : Nat} {T : Nat → Nat → Option Nat} {A B : Nat → Nat} {p : Nat}
def Loc (m w : Nat) (T : Nat → Nat → Option Nat) (p : Nat) (x : Nat → Nat) : Prop := ∀ i j, i < m → j < w → ∀ e, T i j = some e → max (x i) (x (m + j)) = ex p e
end
end Mi
namespace Mi
open DL
end Mi
namespace Mi
open DL
end Mi
namespace Mi
open DL
end Mi
namespace Mi
open DL
end Mi
namespace Mi
open DL
end Mi
namespace Mi
open DL
section
variable {m w M : Nat} {T : Nat → Nat → Option Nat} {A B R C : Nat → Nat}
theorem law_turned_m (h : Tab m w T) : m_law_turned [eT m w T] = some (eT w m (fun j i => T i j)) := by
  have hm := h.m0
  have hm1 := h.m1
  have hw1 := h.w1
  have c2 : m_law_turned_c2 [some (eT m w T), none, none] = some (.lst ((List.range w).map fun j => eR m fun i => T i j)) := by
    unfold m_law_turned_c2
    rw [comp_all (fun j : Nat => D.int j) (fun j => eR m fun i => T i j) (List.range w) (by simp only [bnd_some, bnd_none, p_dc, p_dv, lk_z, lk_s, st_z, st_s, un_z, un_s, wipe_n, wipe_c, p_d2, p_d1, p_dnil, p_dcons, p_dL, p_asB, p_asI, p_asL, p_asSeqL, p_asSeqT, p_bV, p_dB, p_bAnd, p_bOr, p_bNot, p_dIf, p_dAnd, p_dOr, p_dNot, p_dCh, p_bYes, p_gN, p_gT, p_gsNil, p_gsCons, p_dNx, p_dRet, p_dSet, p_dIfS, p_dAsg, p_dPar, p_dAug, p_dApp, p_dSetIx, p_nLst, p_nRep, p_nOf, p_dSetN, p_dParN1, p_dParNN, p_iSeq, p_iRng1, p_iRng2, p_oNo, p_oIx, p_dSl, p_asIx, p_opTup, p_opLst, p_lenT, p_lenL, p_lenS, p_tupT, p_tupL, p_add, p_sub, p_mul, p_lt, p_le, p_gt, p_ge, p_eqI, p_neI, p_isN, p_isnN, p_isB, p_isnB, p_isNone_n, p_isNone_i, p_isNone_t, p_isNone_l, p_appL, p_appT, b_mc, b_mn, b_ac, b_an, b_rs, b_rz, b_lc, b_ln, b_it, b_if, b_itt, b_iff, p_dSeq, p_eqB, p_neB, len_eT, len_eR, len_eV, isNone_eO, seq_eT, seq_eR, seq_eV, seq_eL, eO_some, eO_none, len_eL, p_dOrT, ↓p_eqN, ↓p_neN, ↓p_ltN, ↓p_leN, ↓p_gtN, ↓p_geN, ix_eT0 hm, rng1 (n := w) (by omega)]) (by simp; omega) (by
      intro j hj
      have hj := List.mem_range.mp hj
      have c1 : m_law_turned_c1 [some (eT m w T), some (.int j), none] = some (.lst ((List.range m).map fun i => eO (T i j))) := by
        unfold m_law_turned_c1
        rw [comp_all (fun i : Nat => eR w (T i)) (fun i => eO (T i j)) (List.range m) (by simp only [bnd_some, bnd_none, p_dc, p_dv, lk_z, lk_s, st_z, st_s, un_z, un_s, wipe_n, wipe_c, p_d2, p_d1, p_dnil, p_dcons, p_dL, p_asB, p_asI, p_asL, p_asSeqL, p_asSeqT, p_bV, p_dB, p_bAnd, p_bOr, p_bNot, p_dIf, p_dAnd, p_dOr, p_dNot, p_dCh, p_bYes, p_gN, p_gT, p_gsNil, p_gsCons, p_dNx, p_dRet, p_dSet, p_dIfS, p_dAsg, p_dPar, p_dAug, p_dApp, p_dSetIx, p_nLst, p_nRep, p_nOf, p_dSetN, p_dParN1, p_dParNN, p_iSeq, p_iRng1, p_iRng2, p_oNo, p_oIx, p_dSl, p_asIx, p_opTup, p_opLst, p_lenT, p_lenL, p_lenS, p_tupT, p_tupL, p_add, p_sub, p_mul, p_lt, p_le, p_gt, p_ge, p_eqI, p_neI, p_isN, p_isnN, p_isB, p_isnB, p_isNone_n, p_isNone_i, p_isNone_t, p_isNone_l, p_appL, p_appT, b_mc, b_mn, b_ac, b_an, b_rs, b_rz, b_lc, b_ln, b_it, b_if, b_itt, b_iff, p_dSeq, p_eqB, p_neB, len_eT, len_eR, len_eV, isNone_eO, seq_eT, seq_eR, seq_eV, seq_eL, eO_some, eO_none, len_eL, p_dOrT, ↓p_eqN, ↓p_neN, ↓p_ltN, ↓p_leN, ↓p_gtN, ↓p_geN]) (by simp; omega) (by
          intro i hi
          have ix := ix_eR (T := T i) hj
          refine ⟨_, rfl, ?_⟩
          simp only [bnd_some, bnd_none, p_dc, p_dv, lk_z, lk_s, st_z, st_s, un_z, un_s, wipe_n, wipe_c, p_d2, p_d1, p_dnil, p_dcons, p_dL, p_asB, p_asI, p_asL, p_asSeqL, p_asSeqT, p_bV, p_dB, p_bAnd, p_bOr, p_bNot, p_dIf, p_dAnd, p_dOr, p_dNot, p_dCh, p_bYes, p_gN, p_gT, p_gsNil, p_gsCons, p_dNx, p_dRet, p_dSet, p_dIfS, p_dAsg, p_dPar, p_dAug, p_dApp, p_dSetIx, p_nLst, p_nRep, p_nOf, p_dSetN, p_dParN1, p_dParNN, p_iSeq, p_iRng1, p_iRng2, p_oNo, p_oIx, p_dSl, p_asIx, p_opTup, p_opLst, p_lenT, p_lenL, p_lenS, p_tupT, p_tupL, p_add, p_sub, p_mul, p_lt, p_le, p_gt, p_ge, p_eqI, p_neI, p_isN, p_isnN, p_isB, p_isnB, p_isNone_n, p_isNone_i, p_isNone_t, p_isNone_l, p_appL, p_appT, b_mc, b_mn, b_ac, b_an, b_rs, b_rz, b_lc, b_ln, b_it, b_if, b_itt, b_iff, p_dSeq, p_eqB, p_neB, len_eT, len_eR, len_eV, isNone_eO, seq_eT, seq_eR, seq_eV, seq_eL, eO_some, eO_none, len_eL, p_dOrT, ↓p_eqN, ↓p_neN, ↓p_ltN, ↓p_leN, ↓p_gtN, ↓p_geN, ix])]
      refine ⟨_, rfl, ?_⟩
      simp only [bnd_some, bnd_none, p_dc, p_dv, lk_z, lk_s, st_z, st_s, un_z, un_s, wipe_n, wipe_c, p_d2, p_d1, p_dnil, p_dcons, p_dL, p_asB, p_asI, p_asL, p_asSeqL, p_asSeqT, p_bV, p_dB, p_bAnd, p_bOr, p_bNot, p_dIf, p_dAnd, p_dOr, p_dNot, p_dCh, p_bYes, p_gN, p_gT, p_gsNil, p_gsCons, p_dNx, p_dRet, p_dSet, p_dIfS, p_dAsg, p_dPar, p_dAug, p_dApp, p_dSetIx, p_nLst, p_nRep, p_nOf, p_dSetN, p_dParN1, p_dParNN, p_iSeq, p_iRng1, p_iRng2, p_oNo, p_oIx, p_dSl, p_asIx, p_opTup, p_opLst, p_lenT, p_lenL, p_lenS, p_tupT, p_tupL, p_add, p_sub, p_mul, p_lt, p_le, p_gt, p_ge, p_eqI, p_neI, p_isN, p_isnN, p_isB, p_isnB, p_isNone_n, p_isNone_i, p_isNone_t, p_isNone_l, p_appL, p_appT, b_mc, b_mn, b_ac, b_an, b_rs, b_rz, b_lc, b_ln, b_it, b_if, b_itt, b_iff, p_dSeq, p_eqB, p_neB, len_eT, len_eR, len_eV, isNone_eO, seq_eT, seq_eR, seq_eV, seq_eL, eO_some, eO_none, len_eL, p_dOrT, ↓p_eqN, ↓p_neN, ↓p_ltN, ↓p_leN, ↓p_gtN, ↓p_geN, c1]
      rfl)]
  refine run_rt rfl ?_
  simp only [bnd_some, bnd_none, p_dc, p_dv, lk_z, lk_s, st_z, st_s, un_z, un_s, wipe_n, wipe_c, p_d2, p_d1, p_dnil, p_dcons, p_dL, p_asB, p_asI, p_asL, p_asSeqL, p_asSeqT, p_bV, p_dB, p_bAnd, p_bOr, p_bNot, p_dIf, p_dAnd, p_dOr, p_dNot, p_dCh, p_bYes, p_gN, p_gT, p_gsNil, p_gsCons, p_dNx, p_dRet, p_dSet, p_dIfS, p_dAsg, p_dPar, p_dAug, p_dApp, p_dSetIx, p_nLst, p_nRep, p_nOf, p_dSetN, p_dParN1, p_dParNN, p_iSeq, p_iRng1, p_iRng2, p_oNo, p_oIx, p_dSl, p_asIx, p_opTup, p_opLst, p_lenT, p_lenL, p_lenS, p_tupT, p_tupL, p_add, p_sub, p_mul, p_lt, p_le, p_gt, p_ge, p_eqI, p_neI, p_isN, p_isnN, p_isB, p_isnB, p_isNone_n, p_isNone_i, p_isNone_t, p_isNone_l, p_appL, p_appT, b_mc, b_mn, b_ac, b_an, b_rs, b_rz, b_lc, b_ln, b_it, b_if, b_itt, b_iff, p_dSeq, p_eqB, p_neB, len_eT, len_eR, len_eV, isNone_eO, seq_eT, seq_eR, seq_eV, seq_eL, eO_some, eO_none, len_eL, p_dOrT, ↓p_eqN, ↓p_neN, ↓p_ltN, ↓p_leN, ↓p_gtN, ↓p_geN, Nat.reduceSub, c2]
  rfl
theorem DvM.tr (hM : DvM M T) : DvM M (fun j i => T i j) := ⟨hM.pos, hM.le, fun j i e he => hM.dvd i j e he⟩
end
end Mi
namespace Mi
open DL
end Mi
namespace Mi
open DL
end Mi
namespace Mi
open DL
end Mi
namespace Mi
open DL
end Mi
namespace Mi
open DL
end Mi
namespace Mi
open DL
end Mi
namespace Mi
open DL
end Mi
namespace Mi
open DL
end Mi
namespace Mi
open DL
end Mi
namespace Mi
open DL
end Mi
namespace Mi
open DL
end Mi
namespace Mi
open DL
end Mi
namespace Mi
open DL
section
variable {m m' w M : Nat} {T : Nat → Nat → Option Nat} {A B A' B' : Nat → Nat}
theorem DvM.map (hM : DvM M T) (f : Nat → Nat) : DvM M (fun i j => T (f i) j) := ⟨hM.pos, hM.le, fun i j e he => hM.dvd (f i) j e he⟩
theorem mem_kp_tr {i j : Nat} : (j, i) ∈ kp w m (fun j i => T i j) ↔ (i, j) ∈ kp m w T := by
  rw [mem_kp, mem_kp]
  constructor
  · rintro ⟨a, b, c⟩; exact ⟨b, a, c⟩
  · rintro ⟨a, b, c⟩; exact ⟨b, a, c⟩
theorem SureA.tr (h : SureA m w T A B) : SureA w m (fun j i => T i j) B A := by
  refine ⟨fun j d => ?_, fun i d => ?_⟩
  · rw [h.col j d]
    constructor
    · rintro z p ⟨j', i'⟩ ⟨hp, hq⟩ e hl
      exact z p (i', j') ⟨hp, mem_kp_tr.mp hq⟩ e hl
    · rintro z p ⟨i', j'⟩ ⟨hp, hq⟩ e hl
      exact z p (j', i') ⟨hp, mem_kp_tr.mpr hq⟩ e hl
  · rw [h.row i d]
    constructor
    · rintro z p ⟨j', i'⟩ ⟨hp, hq⟩ e hl
      exact z p (i', j') ⟨hp, mem_kp_tr.mp hq⟩ e hl
    · rintro z p ⟨i', j'⟩ ⟨hp, hq⟩ e hl
      exact z p (j', i') ⟨hp, mem_kp_tr.mpr hq⟩ e hl
theorem Cov.tr (hc : Cov m w T) : Cov w m (fun j i => T i j) := ⟨fun j hj => hc.col j hj, fun i hi => hc.row i hi⟩
theorem Cov.map {f : Nat → Nat} (hc : Cov m w T) (hf : ∀ i, i < m' → f i < m) (hs : ∀ i, i < m → ∃ k, k < m' ∧ f k = i) : Cov m' w (fun i j => T (f i) j) := ⟨fun i hi => hc.row (f i) (hf i hi), fun j hj => by
  obtain ⟨i, hi, e, he⟩ := hc.col j hj
  obtain ⟨k, hk, rfl⟩ := hs i hi
  exact ⟨k, hk, e, he⟩⟩
end
end Mi
namespace Mi
open DL
end Mi
namespace Mi
open DL
end Mi
namespace Mi
open DL
end Mi
namespace Mi
open DL
end Mi
namespace Mi
open DL
end Mi
namespace Mi
open DL
end Mi
namespace Mi
open DL
end Mi
namespace Mi
open DL
end Mi
namespace Mi
open DL
def hS : Nat → (Nat → Int) → Int
  | 0, f => f 0
  | r + 1, f => hS r f + hS r fun c => f (c + 1)
def fR (c : Nat) : Int := if c = 0 then 0 else if c % 2 = 1 then 1 else -1
def ringN (ps : List Nat) (x : Nat) : Nat := (ps.filter fun p => decide (x % p = 0)).length
def upTo (P : Nat → Bool) (T : Nat) : Nat := ((List.range T).filter P).length
theorem upTo_succ (P : Nat → Bool) (T : Nat) : upTo P (T + 1) = upTo P T + if P T = true then 1 else 0 := by
  unfold upTo
  rw [List.range_succ, List.filter_append, List.length_append]
  by_cases z : P T = true
  · rw [if_pos z]
    have : [T].filter P = [T] := by rw [List.filter_cons, if_pos z]; rfl
    rw [this]
    rfl
  · rw [if_neg z]
    have : [T].filter P = [] := by rw [List.filter_cons, if_neg z]; rfl
    rw [this]
    rfl
end Mi
namespace Mi
open DL
def eB (ps : List Nat) : D := .bell (ps.map fun p : Nat => (p : Int))
def anyR (ps : List Nat) (x : Nat) : Bool := decide (ringN ps x ≠ 0)
end Mi
namespace Mi
open DL
end Mi
namespace Mi
open DL
end Mi
namespace Mi
open DL
end Mi
namespace Mi
open DL
end Mi
namespace Mi
open DL
end Mi
namespace Mi
open DL
end Mi
namespace Mi
open DL
end Mi
namespace Mi
open DL
/-- t: the time with the index idx among all times at which a bell rings -/
def RingAt (ps : List Nat) (idx t : Nat) : Prop := idx < upTo (anyR ps) (t + 1) ∧ upTo (anyR ps) t ≤ idx
end Mi
namespace Mi
open DL
end Mi
namespace Mi
open DL
end Mi
namespace Mi
open DL
end Mi
namespace Mi
open DL
end Mi
namespace Mi
open DL
section
variable {m w M : Nat} {T : Nat → Nat → Option Nat}
theorem ok_eOL (n : Nat) (v : Option (List Nat)) : okD (n + 2) (eOL v) = true := by
  cases v with
  | none => rfl
  | some l => exact okDs_map (n := n + 1) _ l fun _ _ => rfl
theorem eq_eOL (v : Option (List Nat)) : eqD (eOL v) (eOL v) = true := by
  cases v with
  | none => rfl
  | some l =>
    have := eq_eL l l
    rw [decide_eq_true rfl] at this
    exact this
def eMd (p : Nat × Nat) (v : Option (List Nat)) : D := .tup [.int p.1, .int p.2, eOL v]
theorem eq_eMd (p : Nat × Nat) (v : Option (List Nat)) : eqD (eMd p v) (eMd p v) = true := by
  show eqDs [.int p.1, .int p.2, eOL v] [.int p.1, .int p.2, eOL v] = true
  simp only [eqDs, eq_eOL, eqD, decide_true, Bool.and_true, beq_self_eq_true]
end
end Mi
namespace Mi
open DL
end Mi
namespace Mi
open DL
theorem RingAt.any {ps : List Nat} {idx t : Nat} (h : RingAt ps idx t) : anyR ps t = true ∧ upTo (anyR ps) (t + 1) = idx + 1 ∧ upTo (anyR ps) t = idx := by
  obtain ⟨h1, h2⟩ := h
  have := upTo_succ (anyR ps) t
  cases z : anyR ps t with
  | true =>
    rw [z, if_pos rfl] at this
    exact ⟨rfl, by omega, by omega⟩
  | false =>
    rw [z, if_neg Bool.false_ne_true] at this
    omega
def ringL (ps : List Nat) (x : Nat) : List Nat := (List.range ps.length).filter fun a => decide (x % ps.getD a 0 = 0)
end Mi
namespace Mi
open DL
end Mi
namespace Mi
open DL
theorem valI_put (kvs : KVI) (k : List Int) (v : Int) (k' : List Int) : valI (putI kvs k v) k' = if k' = k then some v else valI kvs k' := by
  have gen : ∀ L : KVI, (L.map fun p => if p.1 = k then (p.1, v) else p).find? (fun p => decide (p.1 = k')) = (L.find? fun p => decide (p.1 = k')).map fun p => if p.1 = k then (p.1, v) else p := by
    intro L
    induction L with
    | nil => rfl
    | cons p r ih =>
      have e1 : (if p.1 = k then (p.1, v) else p).1 = p.1 := by split <;> rfl
      rw [List.map_cons, List.find?_cons, List.find?_cons, e1]
      cases decide (p.1 = k') with
      | true => rfl
      | false => exact ih
  unfold putI
  split
  · rename_i h
    unfold valI
    rw [gen]
    by_cases z : k' = k
    · rw [if_pos z]
      obtain ⟨p, hp, e⟩ := List.any_eq_true.mp h
      have e := of_decide_eq_true e
      have fs : (kvs.find? fun p => decide (p.1 = k')).isSome = true := List.find?_isSome.mpr ⟨p, hp, decide_eq_true (by rw [z]; exact e)⟩
      obtain ⟨q, hq⟩ := Option.isSome_iff_exists.mp fs
      have hq2 : q.1 = k' := of_decide_eq_true (List.find?_some (p := fun p : List Int × Int => decide (p.1 = k')) hq)
      rw [hq]
      show some (if q.1 = k then (q.1, v) else q).2 = _
      rw [if_pos (by rw [hq2, z])]
    · rw [if_neg z]
      cases hq : kvs.find? fun p => decide (p.1 = k') with
      | none => rfl
      | some q =>
        have hq2 : q.1 = k' := of_decide_eq_true (List.find?_some (p := fun p : List Int × Int => decide (p.1 = k')) hq)
        show some (if q.1 = k then (q.1, v) else q).2 = some q.2
        rw [if_neg (by rw [hq2]; exact z)]
  · rename_i h
    unfold valI
    rw [List.find?_append]
    by_cases z : k' = k
    · rw [if_pos z]
      have : kvs.find? (fun p => decide (p.1 = k')) = none := List.find?_eq_none.mpr fun p hp e => h (List.any_eq_true.mpr ⟨p, hp, by rw [← z]; exact e⟩)
      rw [this]
      subst z
      simp [List.find?_cons]
    · rw [if_neg z]
      have : ([(k, v)] : KVI).find? (fun p => decide (p.1 = k')) = none := List.find?_eq_none.mpr fun p hp e => by
        rw [List.mem_singleton.mp hp] at e
        exact z (of_decide_eq_true e).symm
      rw [this, Option.or_none]
abbrev ki (S : List Nat) : List Int := S.map fun n : Nat => (n : Int)
theorem ki_inj : ∀ {a b : List Nat}, ki a = ki b → a = b
  | [], [], _ => rfl
  | [], _ :: _, h => by cases h
  | _ :: _, [], h => by cases h
  | x :: a, y :: b, h => by
    rw [ki, ki, List.map_cons, List.map_cons, List.cons.injEq] at h
    rw [ki_inj (a := a) (b := b) h.2, Int.ofNat.inj h.1]
/-- what the dict holds behind j times -/
def Firsts (ps : List Nat) (low j : Nat) (kvs : KVI) : Prop := kvs.length ≤ j ∧ ∀ S : List Nat, (valI kvs (ki S) = none ∧ ∀ i, i < j → ringL ps (low + i) ≠ S) ∨ ∃ i, i < j ∧ valI kvs (ki S) = some ((low + i : Nat) : Int) ∧ ringL ps (low + i) = S ∧ ∀ i', i' < i → ringL ps (low + i') ≠ S
theorem putI_len (kvs : KVI) (k : List Int) (v : Int) : (putI kvs k v).length ≤ kvs.length + 1 := by
  unfold putI
  split
  · rw [List.length_map]; omega
  · rw [List.length_append]; simp
theorem Firsts.step {ps : List Nat} {low j : Nat} {kvs : KVI} (h : Firsts ps low j kvs) : Firsts ps low (j + 1) (putI kvs (ki (ringL ps (low + j))) ((valI kvs (ki (ringL ps (low + j)))).getD ((low + j : Nat) : Int))) := by
  refine ⟨Nat.le_trans (putI_len _ _ _) (by have := h.1; omega), fun S => ?_⟩
  rw [valI_put]
  by_cases z : ki S = ki (ringL ps (low + j))
  · rw [if_pos z]
    have z := ki_inj z
    subst z
    right
    rcases h.2 (ringL ps (low + j)) with ⟨h1, h2⟩ | ⟨i, h1, h2, h3, h4⟩
    · rw [h1]
      exact ⟨j, Nat.lt_succ_self _, rfl, rfl, h2⟩
    · rw [h2]
      exact ⟨i, by omega, rfl, h3, h4⟩
  · rw [if_neg z]
    have zn : ringL ps (low + j) ≠ S := fun e => z (by rw [e])
    rcases h.2 S with ⟨h1, h2⟩ | ⟨i, h1, h2, h3, h4⟩
    · refine .inl ⟨h1, fun i hi => ?_⟩
      by_cases e : i = j
      · rw [e]; exact zn
      · exact h2 i (by omega)
    · exact .inr ⟨i, by omega, h2, h3, h4⟩
end Mi
namespace Mi
open DL
end Mi
namespace Mi
open DL
theorem with_entry_eq : m_law_with_entry = m_law_with := rfl
section
variable {m w M : Nat} {T : Nat → Nat → Option Nat} {r c : Nat}
theorem divs_asc (n : Nat) : (divs n).Pairwise (· < ·) := by
  unfold divs
  refine List.pairwise_map.mpr ((List.Pairwise.filter _ List.pairwise_lt_range).imp fun {a b} (z : a < b) => ?_)
  omega
theorem rowE_pos (hM : DvM M T) {i : Nat} (hi : i < m) : ∀ e ∈ rowE m w T i, 0 < e ∧ e ≤ 1000000000000000000 := fun e he => by
  obtain ⟨j, _, h⟩ := (mem_rowE hi).mp he
  have := hM.bd h
  omega
theorem due_row (h : Tab m w T) {x8 x9 x7 : Nat} {ρ : Rho} {it : DFs} (hit : it ρ = some ((kp m w T).map (eK T))) (r : Nat) (t : DB)
    (ht : ∀ p ∈ kp m w T, t (st (st (st (wipeR ρ [8, 9, 7]) 8 (.int p.1)) 9 (.int p.2)) 7 (eO (T p.1 p.2))) = some (decide (p.1 = r))) (hl : ρ.length = 10) :
    dComp it (gT (gsCons (gN 8) (gsCons (gN 9) (gsCons (gN 7) gsNil)))) t (dv 7) [8, 9, 7] ρ = some (eL (rowE m w T r)) := by
  rw [comp_if (eK T) (fun p => decide (p.1 = r)) (fun p => D.int ((T p.1 p.2).getD 0 : Nat)) (kp m w T) hit (by have := kp_len1 h; omega) (by
    intro p hp
    obtain ⟨e, he, _, _⟩ := kp_some hp
    refine ⟨_, by simp only [eK, bnd_some, bnd_none, p_dc, p_dv, lk_z, lk_s, st_z, st_s, un_z, un_s, wipe_n, wipe_c, p_d2, p_d1, p_dnil, p_dcons, p_dL, p_asB, p_asI, p_asL, p_asSeqL, p_asSeqT, p_bV, p_dB, p_bAnd, p_bOr, p_bNot, p_dIf, p_dAnd, p_dOr, p_dNot, p_dCh, p_bYes, p_gN, p_gT, p_gsNil, p_gsCons, p_dNx, p_dRet, p_dSet, p_dIfS, p_dAsg, p_dPar, p_dAug, p_dApp, p_dSetIx, p_nLst, p_nRep, p_nOf, p_dSetN, p_dParN1, p_dParNN, p_iSeq, p_iRng1, p_iRng2, p_oNo, p_oIx, p_dSl, p_asIx, p_opTup, p_opLst, p_lenT, p_lenL, p_lenS, p_tupT, p_tupL, p_add, p_sub, p_mul, p_lt, p_le, p_gt, p_ge, p_eqI, p_neI, p_isN, p_isnN, p_isB, p_isnB, p_isNone_n, p_isNone_i, p_isNone_t, p_isNone_l, p_appL, p_appT, b_mc, b_mn, b_ac, b_an, b_rs, b_rz, b_lc, b_ln, b_it, b_if, b_itt, b_iff, p_dSeq, p_eqB, p_neB, len_eT, len_eR, len_eV, isNone_eO, seq_eT, seq_eR, seq_eV, seq_eL, eO_some, eO_none, len_eL, p_dOrT, ↓p_eqN, ↓p_neN, ↓p_ltN, ↓p_leN, ↓p_gtN, ↓p_geN], ht p hp, fun _ => ?_⟩
    show lk (st _ 7 (eO (T p.1 p.2))) 7 = _
    rw [lk_st_i (by simp only [len_st, len_wipeR, hl, Nat.reduceLT]), he]
    rfl)]
  unfold eL rowE
  rw [List.map_map]
  rfl
theorem law_due_m (h : Tab m w T) (hM : DvM M T) (hM2 : M ≤ 16777216) (hre : isReal m w T = true) {A B : Nat → Nat} (hs : SureA m w T A B) (hr : r < m) (hc : c < w) (hn : T r c = none) {l : List Nat} (hv : EvL m w T A B r c (some l)) :
    m_law_due [eT m w T, .int (r : Nat), .int (c : Nat)] = some (eL l) := by
  have kn := known_m h
  have lt := law_turned_m h
  have ht := h.tr
  have knt := known_m ht
  have hMt := hM.tr
  obtain ⟨g1, g2, bw⟩ : 0 < gR w T r ∧ 0 < gC m T c ∧ BwL (Nat.lcm (A r) (B c)) (Nat.lcm (gR w T r) (gC m T c)) l := by
    rcases hv with ⟨e, he, _⟩ | ⟨_, a, b, c⟩
    · rw [hn] at he; cases he
    · exact ⟨a, b, c⟩
  have d1 : gR w T r ∣ M := gRow_M hM (fun j e he => hM.dvd r j e he) g1
  have d2 : gC m T c ∣ M := gRow_M hM (fun i e he => hM.dvd i c e he) g2
  have ev := ev_real hM hre hs hr hc hn hv
  have cr := common_m (rowE_pos (w := w) hM hr)
  rw [comL_row hr] at cr
  have cc := common_m (rowE_pos (w := m) hMt hc)
  rw [comL_row hc] at cc
  have cr : m_law_common [eL (rowE m w T r)] = some (.int (gR w T r : Nat)) := cr
  have cc : m_law_common [eL (rowE w m (fun j i => T i j) c)] = some (.int (gC m T c : Nat)) := cc
  have b1 := Nat.le_of_dvd hM.pos d1
  have b2 := Nat.le_of_dvd hM.pos d2
  have lm := llcm_m g1 (b := gC m T c) (by omega) (Nat.lt_of_le_of_lt (Nat.gcd_le_left _ g1) (by omega))
  have tM : Nat.lcm (gR w T r) (gC m T c) ∣ M := Nat.lcm_dvd d1 d2
  have t0 : 0 < Nat.lcm (gR w T r) (gC m T c) := Nat.lcm_pos g1 g2
  have b3 := Nat.le_of_dvd hM.pos tM
  have dl := divs_len_le (Nat.lcm (gR w T r) (gC m T c))
  have dv' := divisors_m (n := Nat.lcm (gR w T r) (gC m T c)) (by omega) (by omega)
  have c1 : m_law_due_c1 [some (eT m w T), some (.int (r : Nat)), some (.int (c : Nat)), none, none, none, none, none, none, none] = some (eL (rowE m w T r)) := by
    unfold m_law_due_c1
    refine due_row (x8 := 0) (x9 := 0) (x7 := 0) h (by simp only [bnd_some, bnd_none, p_dc, p_dv, lk_z, lk_s, st_z, st_s, un_z, un_s, wipe_n, wipe_c, p_d2, p_d1, p_dnil, p_dcons, p_dL, p_asB, p_asI, p_asL, p_asSeqL, p_asSeqT, p_bV, p_dB, p_bAnd, p_bOr, p_bNot, p_dIf, p_dAnd, p_dOr, p_dNot, p_dCh, p_bYes, p_gN, p_gT, p_gsNil, p_gsCons, p_dNx, p_dRet, p_dSet, p_dIfS, p_dAsg, p_dPar, p_dAug, p_dApp, p_dSetIx, p_nLst, p_nRep, p_nOf, p_dSetN, p_dParN1, p_dParNN, p_iSeq, p_iRng1, p_iRng2, p_oNo, p_oIx, p_dSl, p_asIx, p_opTup, p_opLst, p_lenT, p_lenL, p_lenS, p_tupT, p_tupL, p_add, p_sub, p_mul, p_lt, p_le, p_gt, p_ge, p_eqI, p_neI, p_isN, p_isnN, p_isB, p_isnB, p_isNone_n, p_isNone_i, p_isNone_t, p_isNone_l, p_appL, p_appT, b_mc, b_mn, b_ac, b_an, b_rs, b_rz, b_lc, b_ln, b_it, b_if, b_itt, b_iff, p_dSeq, p_eqB, p_neB, len_eT, len_eR, len_eV, isNone_eO, seq_eT, seq_eR, seq_eV, seq_eL, eO_some, eO_none, len_eL, p_dOrT, ↓p_eqN, ↓p_neN, ↓p_ltN, ↓p_leN, ↓p_gtN, ↓p_geN, kn]) r _ (fun p hp => ?_) rfl
    have eq := p_eqN p.1 r
    obtain ⟨e, he, _, _⟩ := kp_some hp
    simp only [bnd_some, bnd_none, p_dc, p_dv, lk_z, lk_s, st_z, st_s, un_z, un_s, wipe_n, wipe_c, p_d2, p_d1, p_dnil, p_dcons, p_dL, p_asB, p_asI, p_asL, p_asSeqL, p_asSeqT, p_bV, p_dB, p_bAnd, p_bOr, p_bNot, p_dIf, p_dAnd, p_dOr, p_dNot, p_dCh, p_bYes, p_gN, p_gT, p_gsNil, p_gsCons, p_dNx, p_dRet, p_dSet, p_dIfS, p_dAsg, p_dPar, p_dAug, p_dApp, p_dSetIx, p_nLst, p_nRep, p_nOf, p_dSetN, p_dParN1, p_dParNN, p_iSeq, p_iRng1, p_iRng2, p_oNo, p_oIx, p_dSl, p_asIx, p_opTup, p_opLst, p_lenT, p_lenL, p_lenS, p_tupT, p_tupL, p_add, p_sub, p_mul, p_lt, p_le, p_gt, p_ge, p_eqI, p_neI, p_isN, p_isnN, p_isB, p_isnB, p_isNone_n, p_isNone_i, p_isNone_t, p_isNone_l, p_appL, p_appT, b_mc, b_mn, b_ac, b_an, b_rs, b_rz, b_lc, b_ln, b_it, b_if, b_itt, b_iff, p_dSeq, p_eqB, p_neB, len_eT, len_eR, len_eV, isNone_eO, seq_eT, seq_eR, seq_eV, seq_eL, eO_some, eO_none, len_eL, p_dOrT, ↓p_eqN, ↓p_neN, ↓p_ltN, ↓p_leN, ↓p_gtN, ↓p_geN, ↓eq]
  have c2 : m_law_due_c2 [some (eT m w T), some (.int (r : Nat)), some (.int (c : Nat)), some (.int (gR w T r : Nat)), some (eT w m fun j i => T i j), none, none, none, none, none] = some (eL (rowE w m (fun j i => T i j) c)) := by
    unfold m_law_due_c2
    refine due_row (x8 := 0) (x9 := 0) (x7 := 0) ht (by simp only [bnd_some, bnd_none, p_dc, p_dv, lk_z, lk_s, st_z, st_s, un_z, un_s, wipe_n, wipe_c, p_d2, p_d1, p_dnil, p_dcons, p_dL, p_asB, p_asI, p_asL, p_asSeqL, p_asSeqT, p_bV, p_dB, p_bAnd, p_bOr, p_bNot, p_dIf, p_dAnd, p_dOr, p_dNot, p_dCh, p_bYes, p_gN, p_gT, p_gsNil, p_gsCons, p_dNx, p_dRet, p_dSet, p_dIfS, p_dAsg, p_dPar, p_dAug, p_dApp, p_dSetIx, p_nLst, p_nRep, p_nOf, p_dSetN, p_dParN1, p_dParNN, p_iSeq, p_iRng1, p_iRng2, p_oNo, p_oIx, p_dSl, p_asIx, p_opTup, p_opLst, p_lenT, p_lenL, p_lenS, p_tupT, p_tupL, p_add, p_sub, p_mul, p_lt, p_le, p_gt, p_ge, p_eqI, p_neI, p_isN, p_isnN, p_isB, p_isnB, p_isNone_n, p_isNone_i, p_isNone_t, p_isNone_l, p_appL, p_appT, b_mc, b_mn, b_ac, b_an, b_rs, b_rz, b_lc, b_ln, b_it, b_if, b_itt, b_iff, p_dSeq, p_eqB, p_neB, len_eT, len_eR, len_eV, isNone_eO, seq_eT, seq_eR, seq_eV, seq_eL, eO_some, eO_none, len_eL, p_dOrT, ↓p_eqN, ↓p_neN, ↓p_ltN, ↓p_leN, ↓p_gtN, ↓p_geN, knt]) c _ (fun p hp => ?_) rfl
    have eq := p_eqN p.1 c
    simp only [bnd_some, bnd_none, p_dc, p_dv, lk_z, lk_s, st_z, st_s, un_z, un_s, wipe_n, wipe_c, p_d2, p_d1, p_dnil, p_dcons, p_dL, p_asB, p_asI, p_asL, p_asSeqL, p_asSeqT, p_bV, p_dB, p_bAnd, p_bOr, p_bNot, p_dIf, p_dAnd, p_dOr, p_dNot, p_dCh, p_bYes, p_gN, p_gT, p_gsNil, p_gsCons, p_dNx, p_dRet, p_dSet, p_dIfS, p_dAsg, p_dPar, p_dAug, p_dApp, p_dSetIx, p_nLst, p_nRep, p_nOf, p_dSetN, p_dParN1, p_dParNN, p_iSeq, p_iRng1, p_iRng2, p_oNo, p_oIx, p_dSl, p_asIx, p_opTup, p_opLst, p_lenT, p_lenL, p_lenS, p_tupT, p_tupL, p_add, p_sub, p_mul, p_lt, p_le, p_gt, p_ge, p_eqI, p_neI, p_isN, p_isnN, p_isB, p_isnB, p_isNone_n, p_isNone_i, p_isNone_t, p_isNone_l, p_appL, p_appT, b_mc, b_mn, b_ac, b_an, b_rs, b_rz, b_lc, b_ln, b_it, b_if, b_itt, b_iff, p_dSeq, p_eqB, p_neB, len_eT, len_eR, len_eV, isNone_eO, seq_eT, seq_eR, seq_eV, seq_eL, eO_some, eO_none, len_eL, p_dOrT, ↓p_eqN, ↓p_neN, ↓p_ltN, ↓p_leN, ↓p_gtN, ↓p_geN, ↓eq]
  have c3 : m_law_due_c3 [some (eT m w T), some (.int (r : Nat)), some (.int (c : Nat)), some (.int (gR w T r : Nat)), some (eT w m fun j i => T i j), some (.int (gC m T c : Nat)), some (.int (Nat.lcm (gR w T r) (gC m T c) : Nat)), none, none, none] = some (eL l) := by
    unfold m_law_due_c3
    rw [comp_if (fun d : Nat => D.int d) (fun d => isReal m w (put T r c d)) (fun d => D.int d) (divs (Nat.lcm (gR w T r) (gC m T c))) (by simp only [bnd_some, bnd_none, p_dc, p_dv, lk_z, lk_s, st_z, st_s, un_z, un_s, wipe_n, wipe_c, p_d2, p_d1, p_dnil, p_dcons, p_dL, p_asB, p_asI, p_asL, p_asSeqL, p_asSeqT, p_bV, p_dB, p_bAnd, p_bOr, p_bNot, p_dIf, p_dAnd, p_dOr, p_dNot, p_dCh, p_bYes, p_gN, p_gT, p_gsNil, p_gsCons, p_dNx, p_dRet, p_dSet, p_dIfS, p_dAsg, p_dPar, p_dAug, p_dApp, p_dSetIx, p_nLst, p_nRep, p_nOf, p_dSetN, p_dParN1, p_dParNN, p_iSeq, p_iRng1, p_iRng2, p_oNo, p_oIx, p_dSl, p_asIx, p_opTup, p_opLst, p_lenT, p_lenL, p_lenS, p_tupT, p_tupL, p_add, p_sub, p_mul, p_lt, p_le, p_gt, p_ge, p_eqI, p_neI, p_isN, p_isnN, p_isB, p_isnB, p_isNone_n, p_isNone_i, p_isNone_t, p_isNone_l, p_appL, p_appT, b_mc, b_mn, b_ac, b_an, b_rs, b_rz, b_lc, b_ln, b_it, b_if, b_itt, b_iff, p_dSeq, p_eqB, p_neB, len_eT, len_eR, len_eV, isNone_eO, seq_eT, seq_eR, seq_eV, seq_eL, eO_some, eO_none, len_eL, p_dOrT, ↓p_eqN, ↓p_neN, ↓p_ltN, ↓p_leN, ↓p_gtN, ↓p_geN, dv']) (by omega) (by
      intro d hd
      have hd := (mem_divs t0).mp hd
      have d0 := Nat.pos_of_dvd_of_pos hd t0
      have d3 := Nat.le_of_dvd t0 hd
      have lw := law_with_m (T := T) (n := d) h.m1 h.w1 hr hc
      rw [← with_entry_eq] at lw
      have lr := law_real_m (h.put (r := r) (c := c) d0 (by omega))
      refine ⟨_, rfl, ?_, fun _ => rfl⟩
      simp only [bnd_some, bnd_none, p_dc, p_dv, lk_z, lk_s, st_z, st_s, un_z, un_s, wipe_n, wipe_c, p_d2, p_d1, p_dnil, p_dcons, p_dL, p_asB, p_asI, p_asL, p_asSeqL, p_asSeqT, p_bV, p_dB, p_bAnd, p_bOr, p_bNot, p_dIf, p_dAnd, p_dOr, p_dNot, p_dCh, p_bYes, p_gN, p_gT, p_gsNil, p_gsCons, p_dNx, p_dRet, p_dSet, p_dIfS, p_dAsg, p_dPar, p_dAug, p_dApp, p_dSetIx, p_nLst, p_nRep, p_nOf, p_dSetN, p_dParN1, p_dParNN, p_iSeq, p_iRng1, p_iRng2, p_oNo, p_oIx, p_dSl, p_asIx, p_opTup, p_opLst, p_lenT, p_lenL, p_lenS, p_tupT, p_tupL, p_add, p_sub, p_mul, p_lt, p_le, p_gt, p_ge, p_eqI, p_neI, p_isN, p_isnN, p_isB, p_isnB, p_isNone_n, p_isNone_i, p_isNone_t, p_isNone_l, p_appL, p_appT, b_mc, b_mn, b_ac, b_an, b_rs, b_rz, b_lc, b_ln, b_it, b_if, b_itt, b_iff, p_dSeq, p_eqB, p_neB, len_eT, len_eR, len_eV, isNone_eO, seq_eT, seq_eR, seq_eV, seq_eL, eO_some, eO_none, len_eL, p_dOrT, ↓p_eqN, ↓p_neN, ↓p_ltN, ↓p_leN, ↓p_gtN, ↓p_geN, lw, lr])]
    unfold eL
    refine congrArg (fun l => some (D.lst (l.map fun n : Nat => D.int n))) (asc_ext ?_ ev.1 fun d => ?_)
    · exact (divs_asc _).filter _
    · rw [List.mem_filter, mem_divs t0, ev.2 d]
      constructor
      · rintro ⟨a, b⟩
        exact ⟨Nat.pos_of_dvd_of_pos a t0, b⟩
      · rintro ⟨a, b⟩
        exact ⟨((bw.2 d).mp ((ev.2 d).mpr ⟨a, b⟩)).2, b⟩
  refine run_rt rfl ?_
  simp only [bnd_some, bnd_none, p_dc, p_dv, lk_z, lk_s, st_z, st_s, un_z, un_s, wipe_n, wipe_c, p_d2, p_d1, p_dnil, p_dcons, p_dL, p_asB, p_asI, p_asL, p_asSeqL, p_asSeqT, p_bV, p_dB, p_bAnd, p_bOr, p_bNot, p_dIf, p_dAnd, p_dOr, p_dNot, p_dCh, p_bYes, p_gN, p_gT, p_gsNil, p_gsCons, p_dNx, p_dRet, p_dSet, p_dIfS, p_dAsg, p_dPar, p_dAug, p_dApp, p_dSetIx, p_nLst, p_nRep, p_nOf, p_dSetN, p_dParN1, p_dParNN, p_iSeq, p_iRng1, p_iRng2, p_oNo, p_oIx, p_dSl, p_asIx, p_opTup, p_opLst, p_lenT, p_lenL, p_lenS, p_tupT, p_tupL, p_add, p_sub, p_mul, p_lt, p_le, p_gt, p_ge, p_eqI, p_neI, p_isN, p_isnN, p_isB, p_isnB, p_isNone_n, p_isNone_i, p_isNone_t, p_isNone_l, p_appL, p_appT, b_mc, b_mn, b_ac, b_an, b_rs, b_rz, b_lc, b_ln, b_it, b_if, b_itt, b_iff, p_dSeq, p_eqB, p_neB, len_eT, len_eR, len_eV, isNone_eO, seq_eT, seq_eR, seq_eV, seq_eL, eO_some, eO_none, len_eL, p_dOrT, ↓p_eqN, ↓p_neN, ↓p_ltN, ↓p_leN, ↓p_gtN, ↓p_geN, Nat.reduceSub, c1, cr, lt, c2, cc, lm, c3]
/-- alone in its row or column -/
def aloneB (m w : Nat) (T : Nat → Nat → Option Nat) (r c : Nat) : Bool := ((kp m w T).filter fun p => decide (p ≠ (r, c))).all (fun p => decide (p.1 ≠ r)) || ((kp m w T).filter fun p => decide (p ≠ (r, c))).all fun p => decide (p.2 ≠ c)
theorem law_alone_m (h : Tab m w T) : m_law_alone [eT m w T, .int (r : Nat), .int (c : Nat)] = some (.bl (aloneB m w T r c)) := by
  have kn := known_m h
  have kl := kp_len1 h
  have c1 : m_law_alone_c1 [some (eT m w T), some (.int (r : Nat)), some (.int (c : Nat)), none, none, none, none] = some (.lst (((kp m w T).filter fun p => decide (p ≠ (r, c))).map eP)) := by
    unfold m_law_alone_c1
    refine comp_if (eK T) (fun p => decide (p ≠ (r, c))) eP (kp m w T) (by simp only [bnd_some, bnd_none, p_dc, p_dv, lk_z, lk_s, st_z, st_s, un_z, un_s, wipe_n, wipe_c, p_d2, p_d1, p_dnil, p_dcons, p_dL, p_asB, p_asI, p_asL, p_asSeqL, p_asSeqT, p_bV, p_dB, p_bAnd, p_bOr, p_bNot, p_dIf, p_dAnd, p_dOr, p_dNot, p_dCh, p_bYes, p_gN, p_gT, p_gsNil, p_gsCons, p_dNx, p_dRet, p_dSet, p_dIfS, p_dAsg, p_dPar, p_dAug, p_dApp, p_dSetIx, p_nLst, p_nRep, p_nOf, p_dSetN, p_dParN1, p_dParNN, p_iSeq, p_iRng1, p_iRng2, p_oNo, p_oIx, p_dSl, p_asIx, p_opTup, p_opLst, p_lenT, p_lenL, p_lenS, p_tupT, p_tupL, p_add, p_sub, p_mul, p_lt, p_le, p_gt, p_ge, p_eqI, p_neI, p_isN, p_isnN, p_isB, p_isnB, p_isNone_n, p_isNone_i, p_isNone_t, p_isNone_l, p_appL, p_appT, b_mc, b_mn, b_ac, b_an, b_rs, b_rz, b_lc, b_ln, b_it, b_if, b_itt, b_iff, p_dSeq, p_eqB, p_neB, len_eT, len_eR, len_eV, isNone_eO, seq_eT, seq_eR, seq_eV, seq_eL, eO_some, eO_none, len_eL, p_dOrT, ↓p_eqN, ↓p_neN, ↓p_ltN, ↓p_leN, ↓p_gtN, ↓p_geN, kn]) (by omega) ?_
    intro p _
    have ne : opNe (.tup [.int (p.1 : Nat), .int (p.2 : Nat)]) (.tup [.int (r : Nat), .int (c : Nat)]) = some (.bl (decide (p ≠ (r, c)))) := by
      show opNe (eP p) (eP (r, c)) = _
      rw [opNe_ok (ok_eP 59 _) (ok_eP 59 _), eq_eP]
      simp
    refine ⟨_, by simp only [eK, bnd_some, bnd_none, p_dc, p_dv, lk_z, lk_s, st_z, st_s, un_z, un_s, wipe_n, wipe_c, p_d2, p_d1, p_dnil, p_dcons, p_dL, p_asB, p_asI, p_asL, p_asSeqL, p_asSeqT, p_bV, p_dB, p_bAnd, p_bOr, p_bNot, p_dIf, p_dAnd, p_dOr, p_dNot, p_dCh, p_bYes, p_gN, p_gT, p_gsNil, p_gsCons, p_dNx, p_dRet, p_dSet, p_dIfS, p_dAsg, p_dPar, p_dAug, p_dApp, p_dSetIx, p_nLst, p_nRep, p_nOf, p_dSetN, p_dParN1, p_dParNN, p_iSeq, p_iRng1, p_iRng2, p_oNo, p_oIx, p_dSl, p_asIx, p_opTup, p_opLst, p_lenT, p_lenL, p_lenS, p_tupT, p_tupL, p_add, p_sub, p_mul, p_lt, p_le, p_gt, p_ge, p_eqI, p_neI, p_isN, p_isnN, p_isB, p_isnB, p_isNone_n, p_isNone_i, p_isNone_t, p_isNone_l, p_appL, p_appT, b_mc, b_mn, b_ac, b_an, b_rs, b_rz, b_lc, b_ln, b_it, b_if, b_itt, b_iff, p_dSeq, p_eqB, p_neB, len_eT, len_eR, len_eV, isNone_eO, seq_eT, seq_eR, seq_eV, seq_eL, eO_some, eO_none, len_eL, p_dOrT, ↓p_eqN, ↓p_neN, ↓p_ltN, ↓p_leN, ↓p_gtN, ↓p_geN]; rfl, ?_, fun _ => ?_⟩
    · simp only [bnd_some, bnd_none, p_dc, p_dv, lk_z, lk_s, st_z, st_s, un_z, un_s, wipe_n, wipe_c, p_d2, p_d1, p_dnil, p_dcons, p_dL, p_asB, p_asI, p_asL, p_asSeqL, p_asSeqT, p_bV, p_dB, p_bAnd, p_bOr, p_bNot, p_dIf, p_dAnd, p_dOr, p_dNot, p_dCh, p_bYes, p_gN, p_gT, p_gsNil, p_gsCons, p_dNx, p_dRet, p_dSet, p_dIfS, p_dAsg, p_dPar, p_dAug, p_dApp, p_dSetIx, p_nLst, p_nRep, p_nOf, p_dSetN, p_dParN1, p_dParNN, p_iSeq, p_iRng1, p_iRng2, p_oNo, p_oIx, p_dSl, p_asIx, p_opTup, p_opLst, p_lenT, p_lenL, p_lenS, p_tupT, p_tupL, p_add, p_sub, p_mul, p_lt, p_le, p_gt, p_ge, p_eqI, p_neI, p_isN, p_isnN, p_isB, p_isnB, p_isNone_n, p_isNone_i, p_isNone_t, p_isNone_l, p_appL, p_appT, b_mc, b_mn, b_ac, b_an, b_rs, b_rz, b_lc, b_ln, b_it, b_if, b_itt, b_iff, p_dSeq, p_eqB, p_neB, len_eT, len_eR, len_eV, isNone_eO, seq_eT, seq_eR, seq_eV, seq_eL, eO_some, eO_none, len_eL, p_dOrT, ↓p_eqN, ↓p_neN, ↓p_ltN, ↓p_leN, ↓p_gtN, ↓p_geN, Nat.reduceAdd, Nat.reduceLeDiff, ↓ne]
    · simp only [bnd_some, bnd_none, p_dc, p_dv, lk_z, lk_s, st_z, st_s, un_z, un_s, wipe_n, wipe_c, p_d2, p_d1, p_dnil, p_dcons, p_dL, p_asB, p_asI, p_asL, p_asSeqL, p_asSeqT, p_bV, p_dB, p_bAnd, p_bOr, p_bNot, p_dIf, p_dAnd, p_dOr, p_dNot, p_dCh, p_bYes, p_gN, p_gT, p_gsNil, p_gsCons, p_dNx, p_dRet, p_dSet, p_dIfS, p_dAsg, p_dPar, p_dAug, p_dApp, p_dSetIx, p_nLst, p_nRep, p_nOf, p_dSetN, p_dParN1, p_dParNN, p_iSeq, p_iRng1, p_iRng2, p_oNo, p_oIx, p_dSl, p_asIx, p_opTup, p_opLst, p_lenT, p_lenL, p_lenS, p_tupT, p_tupL, p_add, p_sub, p_mul, p_lt, p_le, p_gt, p_ge, p_eqI, p_neI, p_isN, p_isnN, p_isB, p_isnB, p_isNone_n, p_isNone_i, p_isNone_t, p_isNone_l, p_appL, p_appT, b_mc, b_mn, b_ac, b_an, b_rs, b_rz, b_lc, b_ln, b_it, b_if, b_itt, b_iff, p_dSeq, p_eqB, p_neB, len_eT, len_eR, len_eV, isNone_eO, seq_eT, seq_eR, seq_eV, seq_eL, eO_some, eO_none, len_eL, p_dOrT, ↓p_eqN, ↓p_neN, ↓p_ltN, ↓p_leN, ↓p_gtN, ↓p_geN, Nat.reduceAdd, Nat.reduceLeDiff]
      rfl
  have fl : ((kp m w T).filter fun p => decide (p ≠ (r, c))).length ≤ 10000 := Nat.le_trans (List.length_filter_le _ _) kl
  unfold aloneB
  generalize ((kp m w T).filter fun p => decide (p ≠ (r, c))) = L at c1 fl
  have c2 : m_law_alone_c2 [some (eT m w T), some (.int (r : Nat)), some (.int (c : Nat)), some (.lst (L.map eP)), none, none, none] = some (.lst ((L.filter fun p => decide (p.1 = r)).map fun _ => .int 1)) := by
    unfold m_law_alone_c2
    refine comp_if eP (fun p => decide (p.1 = r)) _ L (by simp only [bnd_some, bnd_none, p_dc, p_dv, lk_z, lk_s, st_z, st_s, un_z, un_s, wipe_n, wipe_c, p_d2, p_d1, p_dnil, p_dcons, p_dL, p_asB, p_asI, p_asL, p_asSeqL, p_asSeqT, p_bV, p_dB, p_bAnd, p_bOr, p_bNot, p_dIf, p_dAnd, p_dOr, p_dNot, p_dCh, p_bYes, p_gN, p_gT, p_gsNil, p_gsCons, p_dNx, p_dRet, p_dSet, p_dIfS, p_dAsg, p_dPar, p_dAug, p_dApp, p_dSetIx, p_nLst, p_nRep, p_nOf, p_dSetN, p_dParN1, p_dParNN, p_iSeq, p_iRng1, p_iRng2, p_oNo, p_oIx, p_dSl, p_asIx, p_opTup, p_opLst, p_lenT, p_lenL, p_lenS, p_tupT, p_tupL, p_add, p_sub, p_mul, p_lt, p_le, p_gt, p_ge, p_eqI, p_neI, p_isN, p_isnN, p_isB, p_isnB, p_isNone_n, p_isNone_i, p_isNone_t, p_isNone_l, p_appL, p_appT, b_mc, b_mn, b_ac, b_an, b_rs, b_rz, b_lc, b_ln, b_it, b_if, b_itt, b_iff, p_dSeq, p_eqB, p_neB, len_eT, len_eR, len_eV, isNone_eO, seq_eT, seq_eR, seq_eV, seq_eL, eO_some, eO_none, len_eL, p_dOrT, ↓p_eqN, ↓p_neN, ↓p_ltN, ↓p_leN, ↓p_gtN, ↓p_geN]) (by omega) ?_
    intro p _
    have eq := p_eqN p.1 r
    refine ⟨_, by simp only [eP, bnd_some, bnd_none, p_dc, p_dv, lk_z, lk_s, st_z, st_s, un_z, un_s, wipe_n, wipe_c, p_d2, p_d1, p_dnil, p_dcons, p_dL, p_asB, p_asI, p_asL, p_asSeqL, p_asSeqT, p_bV, p_dB, p_bAnd, p_bOr, p_bNot, p_dIf, p_dAnd, p_dOr, p_dNot, p_dCh, p_bYes, p_gN, p_gT, p_gsNil, p_gsCons, p_dNx, p_dRet, p_dSet, p_dIfS, p_dAsg, p_dPar, p_dAug, p_dApp, p_dSetIx, p_nLst, p_nRep, p_nOf, p_dSetN, p_dParN1, p_dParNN, p_iSeq, p_iRng1, p_iRng2, p_oNo, p_oIx, p_dSl, p_asIx, p_opTup, p_opLst, p_lenT, p_lenL, p_lenS, p_tupT, p_tupL, p_add, p_sub, p_mul, p_lt, p_le, p_gt, p_ge, p_eqI, p_neI, p_isN, p_isnN, p_isB, p_isnB, p_isNone_n, p_isNone_i, p_isNone_t, p_isNone_l, p_appL, p_appT, b_mc, b_mn, b_ac, b_an, b_rs, b_rz, b_lc, b_ln, b_it, b_if, b_itt, b_iff, p_dSeq, p_eqB, p_neB, len_eT, len_eR, len_eV, isNone_eO, seq_eT, seq_eR, seq_eV, seq_eL, eO_some, eO_none, len_eL, p_dOrT, ↓p_eqN, ↓p_neN, ↓p_ltN, ↓p_leN, ↓p_gtN, ↓p_geN]; rfl, ?_, fun _ => rfl⟩
    simp only [bnd_some, bnd_none, p_dc, p_dv, lk_z, lk_s, st_z, st_s, un_z, un_s, wipe_n, wipe_c, p_d2, p_d1, p_dnil, p_dcons, p_dL, p_asB, p_asI, p_asL, p_asSeqL, p_asSeqT, p_bV, p_dB, p_bAnd, p_bOr, p_bNot, p_dIf, p_dAnd, p_dOr, p_dNot, p_dCh, p_bYes, p_gN, p_gT, p_gsNil, p_gsCons, p_dNx, p_dRet, p_dSet, p_dIfS, p_dAsg, p_dPar, p_dAug, p_dApp, p_dSetIx, p_nLst, p_nRep, p_nOf, p_dSetN, p_dParN1, p_dParNN, p_iSeq, p_iRng1, p_iRng2, p_oNo, p_oIx, p_dSl, p_asIx, p_opTup, p_opLst, p_lenT, p_lenL, p_lenS, p_tupT, p_tupL, p_add, p_sub, p_mul, p_lt, p_le, p_gt, p_ge, p_eqI, p_neI, p_isN, p_isnN, p_isB, p_isnB, p_isNone_n, p_isNone_i, p_isNone_t, p_isNone_l, p_appL, p_appT, b_mc, b_mn, b_ac, b_an, b_rs, b_rz, b_lc, b_ln, b_it, b_if, b_itt, b_iff, p_dSeq, p_eqB, p_neB, len_eT, len_eR, len_eV, isNone_eO, seq_eT, seq_eR, seq_eV, seq_eL, eO_some, eO_none, len_eL, p_dOrT, ↓p_eqN, ↓p_neN, ↓p_ltN, ↓p_leN, ↓p_gtN, ↓p_geN, ↓eq]
  have c3 : m_law_alone_c3 [some (eT m w T), some (.int (r : Nat)), some (.int (c : Nat)), some (.lst (L.map eP)), none, none, none] = some (.lst ((L.filter fun p => decide (p.2 = c)).map fun _ => .int 1)) := by
    unfold m_law_alone_c3
    refine comp_if eP (fun p => decide (p.2 = c)) _ L (by simp only [bnd_some, bnd_none, p_dc, p_dv, lk_z, lk_s, st_z, st_s, un_z, un_s, wipe_n, wipe_c, p_d2, p_d1, p_dnil, p_dcons, p_dL, p_asB, p_asI, p_asL, p_asSeqL, p_asSeqT, p_bV, p_dB, p_bAnd, p_bOr, p_bNot, p_dIf, p_dAnd, p_dOr, p_dNot, p_dCh, p_bYes, p_gN, p_gT, p_gsNil, p_gsCons, p_dNx, p_dRet, p_dSet, p_dIfS, p_dAsg, p_dPar, p_dAug, p_dApp, p_dSetIx, p_nLst, p_nRep, p_nOf, p_dSetN, p_dParN1, p_dParNN, p_iSeq, p_iRng1, p_iRng2, p_oNo, p_oIx, p_dSl, p_asIx, p_opTup, p_opLst, p_lenT, p_lenL, p_lenS, p_tupT, p_tupL, p_add, p_sub, p_mul, p_lt, p_le, p_gt, p_ge, p_eqI, p_neI, p_isN, p_isnN, p_isB, p_isnB, p_isNone_n, p_isNone_i, p_isNone_t, p_isNone_l, p_appL, p_appT, b_mc, b_mn, b_ac, b_an, b_rs, b_rz, b_lc, b_ln, b_it, b_if, b_itt, b_iff, p_dSeq, p_eqB, p_neB, len_eT, len_eR, len_eV, isNone_eO, seq_eT, seq_eR, seq_eV, seq_eL, eO_some, eO_none, len_eL, p_dOrT, ↓p_eqN, ↓p_neN, ↓p_ltN, ↓p_leN, ↓p_gtN, ↓p_geN]) (by omega) ?_
    intro p _
    have eq := p_eqN p.2 c
    refine ⟨_, by simp only [eP, bnd_some, bnd_none, p_dc, p_dv, lk_z, lk_s, st_z, st_s, un_z, un_s, wipe_n, wipe_c, p_d2, p_d1, p_dnil, p_dcons, p_dL, p_asB, p_asI, p_asL, p_asSeqL, p_asSeqT, p_bV, p_dB, p_bAnd, p_bOr, p_bNot, p_dIf, p_dAnd, p_dOr, p_dNot, p_dCh, p_bYes, p_gN, p_gT, p_gsNil, p_gsCons, p_dNx, p_dRet, p_dSet, p_dIfS, p_dAsg, p_dPar, p_dAug, p_dApp, p_dSetIx, p_nLst, p_nRep, p_nOf, p_dSetN, p_dParN1, p_dParNN, p_iSeq, p_iRng1, p_iRng2, p_oNo, p_oIx, p_dSl, p_asIx, p_opTup, p_opLst, p_lenT, p_lenL, p_lenS, p_tupT, p_tupL, p_add, p_sub, p_mul, p_lt, p_le, p_gt, p_ge, p_eqI, p_neI, p_isN, p_isnN, p_isB, p_isnB, p_isNone_n, p_isNone_i, p_isNone_t, p_isNone_l, p_appL, p_appT, b_mc, b_mn, b_ac, b_an, b_rs, b_rz, b_lc, b_ln, b_it, b_if, b_itt, b_iff, p_dSeq, p_eqB, p_neB, len_eT, len_eR, len_eV, isNone_eO, seq_eT, seq_eR, seq_eV, seq_eL, eO_some, eO_none, len_eL, p_dOrT, ↓p_eqN, ↓p_neN, ↓p_ltN, ↓p_leN, ↓p_gtN, ↓p_geN]; rfl, ?_, fun _ => rfl⟩
    simp only [bnd_some, bnd_none, p_dc, p_dv, lk_z, lk_s, st_z, st_s, un_z, un_s, wipe_n, wipe_c, p_d2, p_d1, p_dnil, p_dcons, p_dL, p_asB, p_asI, p_asL, p_asSeqL, p_asSeqT, p_bV, p_dB, p_bAnd, p_bOr, p_bNot, p_dIf, p_dAnd, p_dOr, p_dNot, p_dCh, p_bYes, p_gN, p_gT, p_gsNil, p_gsCons, p_dNx, p_dRet, p_dSet, p_dIfS, p_dAsg, p_dPar, p_dAug, p_dApp, p_dSetIx, p_nLst, p_nRep, p_nOf, p_dSetN, p_dParN1, p_dParNN, p_iSeq, p_iRng1, p_iRng2, p_oNo, p_oIx, p_dSl, p_asIx, p_opTup, p_opLst, p_lenT, p_lenL, p_lenS, p_tupT, p_tupL, p_add, p_sub, p_mul, p_lt, p_le, p_gt, p_ge, p_eqI, p_neI, p_isN, p_isnN, p_isB, p_isnB, p_isNone_n, p_isNone_i, p_isNone_t, p_isNone_l, p_appL, p_appT, b_mc, b_mn, b_ac, b_an, b_rs, b_rz, b_lc, b_ln, b_it, b_if, b_itt, b_iff, p_dSeq, p_eqB, p_neB, len_eT, len_eR, len_eV, isNone_eO, seq_eT, seq_eR, seq_eV, seq_eL, eO_some, eO_none, len_eL, p_dOrT, ↓p_eqN, ↓p_neN, ↓p_ltN, ↓p_leN, ↓p_gtN, ↓p_geN, ↓eq]
  have e1 := eq_empty (L.filter fun p => decide (p.1 = r))
  have e2 := eq_empty (L.filter fun p => decide (p.2 = c))
  have i1 : (L.filter fun p => decide (p.1 = r)).isEmpty = L.all fun p => decide (p.1 ≠ r) := by
    rw [Bool.eq_iff_iff, List.isEmpty_iff, List.filter_eq_nil_iff, List.all_eq_true]
    simp
  have i2 : (L.filter fun p => decide (p.2 = c)).isEmpty = L.all fun p => decide (p.2 ≠ c) := by
    rw [Bool.eq_iff_iff, List.isEmpty_iff, List.filter_eq_nil_iff, List.all_eq_true]
    simp
  rw [i1] at e1
  rw [i2] at e2
  refine run_rt rfl ?_
  cases z : L.all fun p => decide (p.1 ≠ r) with
  | true =>
    rw [z] at e1
    simp only [bnd_some, bnd_none, p_dc, p_dv, lk_z, lk_s, st_z, st_s, un_z, un_s, wipe_n, wipe_c, p_d2, p_d1, p_dnil, p_dcons, p_dL, p_asB, p_asI, p_asL, p_asSeqL, p_asSeqT, p_bV, p_dB, p_bAnd, p_bOr, p_bNot, p_dIf, p_dAnd, p_dOr, p_dNot, p_dCh, p_bYes, p_gN, p_gT, p_gsNil, p_gsCons, p_dNx, p_dRet, p_dSet, p_dIfS, p_dAsg, p_dPar, p_dAug, p_dApp, p_dSetIx, p_nLst, p_nRep, p_nOf, p_dSetN, p_dParN1, p_dParNN, p_iSeq, p_iRng1, p_iRng2, p_oNo, p_oIx, p_dSl, p_asIx, p_opTup, p_opLst, p_lenT, p_lenL, p_lenS, p_tupT, p_tupL, p_add, p_sub, p_mul, p_lt, p_le, p_gt, p_ge, p_eqI, p_neI, p_isN, p_isnN, p_isB, p_isnB, p_isNone_n, p_isNone_i, p_isNone_t, p_isNone_l, p_appL, p_appT, b_mc, b_mn, b_ac, b_an, b_rs, b_rz, b_lc, b_ln, b_it, b_if, b_itt, b_iff, p_dSeq, p_eqB, p_neB, len_eT, len_eR, len_eV, isNone_eO, seq_eT, seq_eR, seq_eV, seq_eL, eO_some, eO_none, len_eL, p_dOrT, ↓p_eqN, ↓p_neN, ↓p_ltN, ↓p_leN, ↓p_gtN, ↓p_geN, Nat.reduceSub, c1, c2, Nat.zero_le, ↓e1, if_true, Bool.true_or]
  | false =>
    rw [z] at e1
    simp only [bnd_some, bnd_none, p_dc, p_dv, lk_z, lk_s, st_z, st_s, un_z, un_s, wipe_n, wipe_c, p_d2, p_d1, p_dnil, p_dcons, p_dL, p_asB, p_asI, p_asL, p_asSeqL, p_asSeqT, p_bV, p_dB, p_bAnd, p_bOr, p_bNot, p_dIf, p_dAnd, p_dOr, p_dNot, p_dCh, p_bYes, p_gN, p_gT, p_gsNil, p_gsCons, p_dNx, p_dRet, p_dSet, p_dIfS, p_dAsg, p_dPar, p_dAug, p_dApp, p_dSetIx, p_nLst, p_nRep, p_nOf, p_dSetN, p_dParN1, p_dParNN, p_iSeq, p_iRng1, p_iRng2, p_oNo, p_oIx, p_dSl, p_asIx, p_opTup, p_opLst, p_lenT, p_lenL, p_lenS, p_tupT, p_tupL, p_add, p_sub, p_mul, p_lt, p_le, p_gt, p_ge, p_eqI, p_neI, p_isN, p_isnN, p_isB, p_isnB, p_isNone_n, p_isNone_i, p_isNone_t, p_isNone_l, p_appL, p_appT, b_mc, b_mn, b_ac, b_an, b_rs, b_rz, b_lc, b_ln, b_it, b_if, b_itt, b_iff, p_dSeq, p_eqB, p_neB, len_eT, len_eR, len_eV, isNone_eO, seq_eT, seq_eR, seq_eV, seq_eL, eO_some, eO_none, len_eL, p_dOrT, ↓p_eqN, ↓p_neN, ↓p_ltN, ↓p_leN, ↓p_gtN, ↓p_geN, Nat.reduceSub, c1, c2, c3, Nat.zero_le, ↓e1, ↓e2, if_false, Bool.false_eq_true, Bool.false_or]
theorem gR_zero (hM : DvM M T) {f : Nat → Option Nat} (hf : ∀ j e, f j = some e → 0 < e) {n : Nat} : gRow n f = 0 ↔ ∀ j, j < n → f j = none := by
  constructor
  · intro h j hj
    cases q : f j with
    | none => rfl
    | some e =>
      have := gRow_dvd hj q
      rw [h] at this
      have := hf j e q
      have := Nat.eq_zero_of_zero_dvd ‹0 ∣ e›
      omega
  · intro h
    apply Nat.eq_zero_of_not_pos
    intro z
    obtain ⟨j, hj, e, he⟩ := gR_known z
    rw [h j hj] at he
    cases he
theorem alone_iff (hM : DvM M T) (hr : r < m) (hc : c < w) : aloneB m w T r c = decide (gR w (wo T [(r, c)]) r = 0 ∨ gC m (wo T [(r, c)]) c = 0) := by
  have pos : ∀ i j e, wo T [(r, c)] i j = some e → 0 < e := fun i j e he => (hM.bd (wo_some he).1).1
  have z1 : gR w (wo T [(r, c)]) r = 0 ↔ ∀ j, j < w → wo T [(r, c)] r j = none := gR_zero hM fun j e he => pos r j e he
  have z2 : gC m (wo T [(r, c)]) c = 0 ↔ ∀ i, i < m → wo T [(r, c)] i c = none := gR_zero (f := fun i => wo T [(r, c)] i c) hM fun i e he => pos i c e he
  have wn : ∀ i j, wo T [(r, c)] i j = none ↔ ((i, j) = (r, c) ∨ T i j = none) := fun i j => by
    unfold wo
    by_cases q : (i, j) ∈ [(r, c)]
    · rw [if_pos q]; exact ⟨fun _ => .inl (List.mem_singleton.mp q), fun _ => rfl⟩
    · rw [if_neg q]
      constructor
      · exact fun e => .inr e
      · rintro (e | e)
        · exact absurd (List.mem_singleton.mpr e) q
        · exact e
  rw [Bool.eq_iff_iff, decide_eq_true_eq, z1, z2]
  unfold aloneB
  rw [Bool.or_eq_true, List.all_eq_true, List.all_eq_true]
  have a1 : (∀ x ∈ (kp m w T).filter fun p => decide (p ≠ (r, c)), decide (x.1 ≠ r) = true) ↔ ∀ j, j < w → wo T [(r, c)] r j = none := by
    constructor
    · intro h j hj
      rw [wn]
      by_cases q : (r, j) = (r, c)
      · exact .inl q
      · right
        cases e : T r j with
        | none => rfl
        | some v =>
          have := h (r, j) (List.mem_filter.mpr ⟨mem_kp.mpr ⟨hr, hj, by show (T r j).isSome = true; rw [e]; rfl⟩, decide_eq_true q⟩)
          exact absurd rfl (of_decide_eq_true this)
    · intro h x hx
      obtain ⟨h1, h2⟩ := List.mem_filter.mp hx
      refine decide_eq_true fun e => ?_
      obtain ⟨v, hv, p1, p2⟩ := kp_some h1
      rw [e] at hv
      rcases (wn r x.2).mp (h x.2 p2) with q | q
      · exact of_decide_eq_true h2 (Prod.ext (by rw [e]) (Prod.mk.inj q).2)
      · rw [q] at hv; cases hv
  have a2 : (∀ x ∈ (kp m w T).filter fun p => decide (p ≠ (r, c)), decide (x.2 ≠ c) = true) ↔ ∀ i, i < m → wo T [(r, c)] i c = none := by
    constructor
    · intro h i hi
      rw [wn]
      by_cases q : (i, c) = (r, c)
      · exact .inl q
      · right
        cases e : T i c with
        | none => rfl
        | some v =>
          have := h (i, c) (List.mem_filter.mpr ⟨mem_kp.mpr ⟨hi, hc, by show (T i c).isSome = true; rw [e]; rfl⟩, decide_eq_true q⟩)
          exact absurd rfl (of_decide_eq_true this)
    · intro h x hx
      obtain ⟨h1, h2⟩ := List.mem_filter.mp hx
      refine decide_eq_true fun e => ?_
      obtain ⟨v, hv, p1, p2⟩ := kp_some h1
      rw [e] at hv
      rcases (wn x.1 c).mp (h x.1 p1) with q | q
      · exact of_decide_eq_true h2 (Prod.ext (Prod.mk.inj q).1 (by rw [e]))
      · rw [q] at hv; cases hv
  rw [a1, a2]
end
end Mi
namespace Mi
open DL
section
variable {m w M : Nat} {T : Nat → Nat → Option Nat}
theorem mendE_eMd (p : Nat × Nat) (v : Option (List Nat)) (hv : ∀ l, v = some l → l.length ≤ 1000000) : mendE (eMd p v) = true := by
  cases v with
  | none => rfl
  | some l =>
    show (decide ((l.map fun n => D.int (n : Nat)).length ≤ 1000000) && (asInts (l.map fun n => D.int (n : Nat))).isSome) = true
    rw [asInts_map, List.length_map, decide_eq_true (hv l rfl)]
    rfl
theorem k23_b2 (h : Tab m w T) (hM : DvM M T) (hM2 : M ≤ 1000000) (hm : m ≤ 3) (hw : w ≤ 3) {ρ : Rho} (hl : ρ.length = 15) (h6 : lk ρ 6 = some (eT m w T)) : ∃ ρ', m_k23_b2 ρ = some (.nx ρ') ∧ Ag [7, 8, 9, 10, 11, 12, 13, 14] ρ ρ' := by
  have kn := known_m h
  have k9 : (kp m w T).length ≤ 9 := kp9 hm hw
  obtain ⟨V, hV⟩ := mends_any h hM (by omega)
  have sm := single_mends_m (V := fun i j => V (i, j)) h fun p hp hr => (hV p ⟨hp, hr⟩).2
  have sm : m_single_mends [eT m w T] = some (.lst (((kp m w T).filter fun p => isReal m w (wo T [p])).map fun p => eMd p (V p))) := sm
  have vlen : ∀ p, p ∈ kp m w T → isReal m w (wo T [p]) = true → ∀ l, V p = some l → l.length ≤ 1000000 := fun p hp hr l hl => by
    obtain ⟨A, B, s, ev⟩ := (hV p ⟨hp, hr⟩).1
    obtain ⟨e, he, p1, p2⟩ := kp_some hp
    rw [hl] at ev
    have hn : wo T [p] p.1 p.2 = none := by unfold wo; rw [if_pos (by simp)]
    have er := ev_real (hM.wo [p]) hr s p1 p2 hn ev
    rcases ev with ⟨e, he, _⟩ | ⟨_, g1, g2, bw⟩
    · rw [hn] at he; cases he
    · have d1 : gR w (wo T [p]) p.1 ∣ M := gRow_M (hM.wo [p]) (fun j e he => (hM.wo [p]).dvd _ j e he) g1
      have d2 : gC m (wo T [p]) p.2 ∣ M := gRow_M (hM.wo [p]) (fun i e he => (hM.wo [p]).dvd i _ e he) g2
      have nd : l.Nodup := er.1.imp fun {a b} (z : a < b) => by omega
      have := List.Nodup.length_le_of_subset nd fun d hd => (mem_divs hM.pos).mpr (Nat.dvd_trans ((bw.2 d).mp hd).2 (Nat.lcm_dvd d1 d2))
      have := divs_len_le M
      omega
  generalize hρ : st ρ 7 (.lst []) = ρ1
  have l1 : ρ1.length = 15 := by rw [← hρ]; simp only [len_st, hl]
  have a6 : lk ρ1 6 = some (eT m w T) := by rw [← hρ]; simp only [lk_st_o, Nat.reduceBEq, h6]
  have a7 : lk ρ1 7 = some (.lst []) := by rw [← hρ]; rw [lk_st_i (by omega)]
  have ag1 : Ag [7, 8, 9, 10, 11, 12, 13, 14] ρ ρ1 := by rw [← hρ]; exact (Ag.refl _ ρ).st (by decide)
  obtain ⟨ρ2, q1, ag2, q2⟩ := for_agTP (g := gT (gsCons (gN 8) (gsCons (gN 9) (gsCons (gN 10) gsNil)))) (b := m_k23_b1) (ws := [7, 8, 9, 10, 11, 12]) (ρ := ρ1) (eK T)
    (fun pre ρ' => lk ρ' 7 = some (.lst ((pre.filter fun p => isReal m w (wo T [p])).map fun p => eMd p (V p)))) (kp m w T) a7 (by
      rintro pre p r e ρ' ag h1
      have hp : p ∈ kp m w T := by rw [e]; simp
      obtain ⟨v, hv, p1, p2⟩ := kp_some hp
      have hlen : ρ'.length = 15 := by rw [ag.1, l1]
      have b6 := ag.lk 6 (by decide) a6
      have wm := law_without_m h (S := [p]) (dS := .lst [.tup [.int p.1, .int p.2]]) fun q => in_lPs q [p]
      have lr := law_real_m (h.wo [p])
      have pl : pre.length ≤ 9 := by
        have := congrArg List.length e
        simp at this
        omega
      have hl2 : ((pre.filter fun p => isReal m w (wo T [p])).map fun p => eMd p (V p)).length < 16777216 := by
        rw [List.length_map]
        have := List.length_filter_le (fun p => isReal m w (wo T [p])) pre
        omega
      refine ⟨st (st (st ρ' 8 (.int p.1)) 9 (.int p.2)) 10 (eO (T p.1 p.2)), by simp only [eK, bnd_some, bnd_none, p_dc, p_dv, lk_z, lk_s, st_z, st_s, un_z, un_s, wipe_n, wipe_c, p_d2, p_d1, p_dnil, p_dcons, p_dL, p_asB, p_asI, p_asL, p_asSeqL, p_asSeqT, p_bV, p_dB, p_bAnd, p_bOr, p_bNot, p_dIf, p_dAnd, p_dOr, p_dNot, p_dCh, p_bYes, p_gN, p_gT, p_gsNil, p_gsCons, p_dNx, p_dRet, p_dSet, p_dIfS, p_dAsg, p_dPar, p_dAug, p_dApp, p_dSetIx, p_nLst, p_nRep, p_nOf, p_dSetN, p_dParN1, p_dParNN, p_iSeq, p_iRng1, p_iRng2, p_oNo, p_oIx, p_dSl, p_asIx, p_opTup, p_opLst, p_lenT, p_lenL, p_lenS, p_tupT, p_tupL, p_add, p_sub, p_mul, p_lt, p_le, p_gt, p_ge, p_eqI, p_neI, p_isN, p_isnN, p_isB, p_isnB, p_isNone_n, p_isNone_i, p_isNone_t, p_isNone_l, p_appL, p_appT, b_mc, b_mn, b_ac, b_an, b_rs, b_rz, b_lc, b_ln, b_it, b_if, b_itt, b_iff, p_dSeq, p_eqB, p_neB, len_eT, len_eR, len_eV, isNone_eO, seq_eT, seq_eR, seq_eV, seq_eL, eO_some, eO_none, len_eL, p_dOrT, ↓p_eqN, ↓p_neN, ↓p_ltN, ↓p_leN, ↓p_gtN, ↓p_geN], ?_⟩
      generalize hσ : st (st (st ρ' 8 (.int p.1)) 9 (.int p.2)) 10 (eO (T p.1 p.2)) = σ
      have sl : σ.length = 15 := by rw [← hσ]; simp only [len_st, hlen]
      have c6 : lk σ 6 = some (eT m w T) := by rw [← hσ]; simp only [lk_st_o, Nat.reduceBEq, b6]
      have c7 : lk σ 7 = some (.lst ((pre.filter fun p => isReal m w (wo T [p])).map fun p => eMd p (V p))) := by rw [← hσ]; simp only [lk_st_o, Nat.reduceBEq, h1]
      have c8 : lk σ 8 = some (.int p.1) := by rw [← hσ]; simp only [lk_st_o, lk_st_i, len_st, Nat.reduceBEq, Nat.reduceLT, hlen]
      have c9 : lk σ 9 = some (.int p.2) := by rw [← hσ]; simp only [lk_st_o, lk_st_i, len_st, Nat.reduceBEq, Nat.reduceLT, hlen]
      have agσ : Ag [7, 8, 9, 10, 11, 12] ρ1 σ := by rw [← hσ]; exact (((ag.st (by decide)).st (by decide)).st (by decide))
      cases z : isReal m w (wo T [p]) with
      | false =>
        rw [z] at lr
        refine ⟨st σ 11 (eT m w (wo T [p])), ?_, agσ.st (by decide), ?_⟩
        · simp only [m_k23_b1, bnd_some, bnd_none, p_dc, p_dv, lk_z, lk_s, st_z, st_s, un_z, un_s, wipe_n, wipe_c, p_d2, p_d1, p_dnil, p_dcons, p_dL, p_asB, p_asI, p_asL, p_asSeqL, p_asSeqT, p_bV, p_dB, p_bAnd, p_bOr, p_bNot, p_dIf, p_dAnd, p_dOr, p_dNot, p_dCh, p_bYes, p_gN, p_gT, p_gsNil, p_gsCons, p_dNx, p_dRet, p_dSet, p_dIfS, p_dAsg, p_dPar, p_dAug, p_dApp, p_dSetIx, p_nLst, p_nRep, p_nOf, p_dSetN, p_dParN1, p_dParNN, p_iSeq, p_iRng1, p_iRng2, p_oNo, p_oIx, p_dSl, p_asIx, p_opTup, p_opLst, p_lenT, p_lenL, p_lenS, p_tupT, p_tupL, p_add, p_sub, p_mul, p_lt, p_le, p_gt, p_ge, p_eqI, p_neI, p_isN, p_isnN, p_isB, p_isnB, p_isNone_n, p_isNone_i, p_isNone_t, p_isNone_l, p_appL, p_appT, b_mc, b_mn, b_ac, b_an, b_rs, b_rz, b_lc, b_ln, b_it, b_if, b_itt, b_iff, p_dSeq, p_eqB, p_neB, len_eT, len_eR, len_eV, isNone_eO, seq_eT, seq_eR, seq_eV, seq_eL, eO_some, eO_none, len_eL, p_dOrT, ↓p_eqN, ↓p_neN, ↓p_ltN, ↓p_leN, ↓p_gtN, ↓p_geN, c6, c8, c9, wm, lk_st_i, sl, Nat.reduceLT, lr, Nat.reduceAdd, Nat.reduceLeDiff, Bool.false_eq_true, if_false]
        · rw [lk_st_o (by decide), c7, List.filter_append]
          simp [z]
      | true =>
        rw [z] at lr
        have la := law_alone_m h (r := p.1) (c := p.2)
        have al := alone_iff (m := m) (w := w) hM (r := p.1) (c := p.2) p1 p2
        have ep : (p.1, p.2) = p := rfl
        rw [ep] at al
        obtain ⟨A, B, s, ev⟩ := (hV p ⟨hp, z⟩).1
        have hn : wo T [p] p.1 p.2 = none := by unfold wo; rw [if_pos (by simp)]
        have end1 : (pre ++ [p]).filter (fun p => isReal m w (wo T [p])) = pre.filter (fun p => isReal m w (wo T [p])) ++ [p] := by
          rw [List.filter_append]
          simp [z]
        have val : (dIf (bV (dv 12)) (dc .non) (dL m_law_due (dcons (dv 11) (dcons (dv 8) (dcons (dv 9) dnil))))) (st (st σ 11 (eT m w (wo T [p]))) 12 (.bl (aloneB m w T p.1 p.2))) = some (eOL (V p)) := by
          cases hVp : V p with
          | none =>
            rw [hVp] at ev
            have ta : aloneB m w T p.1 p.2 = true := by rw [al]; exact decide_eq_true ev.2
            rw [ta]
            simp only [bnd_some, bnd_none, p_dc, p_dv, lk_z, lk_s, st_z, st_s, un_z, un_s, wipe_n, wipe_c, p_d2, p_d1, p_dnil, p_dcons, p_dL, p_asB, p_asI, p_asL, p_asSeqL, p_asSeqT, p_bV, p_dB, p_bAnd, p_bOr, p_bNot, p_dIf, p_dAnd, p_dOr, p_dNot, p_dCh, p_bYes, p_gN, p_gT, p_gsNil, p_gsCons, p_dNx, p_dRet, p_dSet, p_dIfS, p_dAsg, p_dPar, p_dAug, p_dApp, p_dSetIx, p_nLst, p_nRep, p_nOf, p_dSetN, p_dParN1, p_dParNN, p_iSeq, p_iRng1, p_iRng2, p_oNo, p_oIx, p_dSl, p_asIx, p_opTup, p_opLst, p_lenT, p_lenL, p_lenS, p_tupT, p_tupL, p_add, p_sub, p_mul, p_lt, p_le, p_gt, p_ge, p_eqI, p_neI, p_isN, p_isnN, p_isB, p_isnB, p_isNone_n, p_isNone_i, p_isNone_t, p_isNone_l, p_appL, p_appT, b_mc, b_mn, b_ac, b_an, b_rs, b_rz, b_lc, b_ln, b_it, b_if, b_itt, b_iff, p_dSeq, p_eqB, p_neB, len_eT, len_eR, len_eV, isNone_eO, seq_eT, seq_eR, seq_eV, seq_eL, eO_some, eO_none, len_eL, p_dOrT, ↓p_eqN, ↓p_neN, ↓p_ltN, ↓p_leN, ↓p_gtN, ↓p_geN, lk_st_i, len_st, sl, Nat.reduceLT, if_true]
            rfl
          | some l =>
            rw [hVp] at ev
            have g12 : 0 < gR w (wo T [p]) p.1 ∧ 0 < gC m (wo T [p]) p.2 := by
              rcases ev with ⟨e, he, _⟩ | ⟨_, a, b, _⟩
              · rw [hn] at he; cases he
              · exact ⟨a, b⟩
            have ta : aloneB m w T p.1 p.2 = false := by rw [al]; exact decide_eq_false (by omega)
            have ld := law_due_m (h.wo [p]) (hM.wo [p]) (by omega) z s p1 p2 hn ev
            rw [ta]
            simp only [bnd_some, bnd_none, p_dc, p_dv, lk_z, lk_s, st_z, st_s, un_z, un_s, wipe_n, wipe_c, p_d2, p_d1, p_dnil, p_dcons, p_dL, p_asB, p_asI, p_asL, p_asSeqL, p_asSeqT, p_bV, p_dB, p_bAnd, p_bOr, p_bNot, p_dIf, p_dAnd, p_dOr, p_dNot, p_dCh, p_bYes, p_gN, p_gT, p_gsNil, p_gsCons, p_dNx, p_dRet, p_dSet, p_dIfS, p_dAsg, p_dPar, p_dAug, p_dApp, p_dSetIx, p_nLst, p_nRep, p_nOf, p_dSetN, p_dParN1, p_dParNN, p_iSeq, p_iRng1, p_iRng2, p_oNo, p_oIx, p_dSl, p_asIx, p_opTup, p_opLst, p_lenT, p_lenL, p_lenS, p_tupT, p_tupL, p_add, p_sub, p_mul, p_lt, p_le, p_gt, p_ge, p_eqI, p_neI, p_isN, p_isnN, p_isB, p_isnB, p_isNone_n, p_isNone_i, p_isNone_t, p_isNone_l, p_appL, p_appT, b_mc, b_mn, b_ac, b_an, b_rs, b_rz, b_lc, b_ln, b_it, b_if, b_itt, b_iff, p_dSeq, p_eqB, p_neB, len_eT, len_eR, len_eV, isNone_eO, seq_eT, seq_eR, seq_eV, seq_eL, eO_some, eO_none, len_eL, p_dOrT, ↓p_eqN, ↓p_neN, ↓p_ltN, ↓p_leN, ↓p_gtN, ↓p_geN, lk_st_i, lk_st_o, len_st, sl, Nat.reduceLT, Nat.reduceBEq, c8, c9, ld, if_false, Bool.false_eq_true]
            rfl
        refine ⟨st (st (st σ 11 (eT m w (wo T [p]))) 12 (.bl (aloneB m w T p.1 p.2))) 7 (.lst (((pre.filter fun p => isReal m w (wo T [p])).map fun p => eMd p (V p)) ++ [eMd p (V p)])), ?_, ((agσ.st (by decide)).st (by decide)).st (by decide), ?_⟩
        · generalize hτ : st (st σ 11 (eT m w (wo T [p]))) 12 (.bl (aloneB m w T p.1 p.2)) = τ at val
          have t8 : lk τ 8 = some (.int p.1) := by rw [← hτ]; simp only [lk_st_o, Nat.reduceBEq, c8]
          have t9 : lk τ 9 = some (.int p.2) := by rw [← hτ]; simp only [lk_st_o, Nat.reduceBEq, c9]
          have t7 : lk τ 7 = some (.lst ((pre.filter fun p => isReal m w (wo T [p])).map fun p => eMd p (V p))) := by rw [← hτ]; simp only [lk_st_o, Nat.reduceBEq, c7]
          have ap : dApp 7 (dL opTup (dcons (dv 8) (dcons (dv 9) (dcons (dIf (bV (dv 12)) (dc .non) (dL m_law_due (dcons (dv 11) (dcons (dv 8) (dcons (dv 9) dnil))))) dnil)))) τ = some (.nx (st τ 7 (.lst (((pre.filter fun p => isReal m w (wo T [p])).map fun p => eMd p (V p)) ++ [eMd p (V p)])))) := by
            generalize (dIf (bV (dv 12)) (dc .non) (dL m_law_due (dcons (dv 11) (dcons (dv 8) (dcons (dv 9) dnil))))) = ff at val
            simp only [bnd_some, bnd_none, p_dc, p_dv, lk_z, lk_s, st_z, st_s, un_z, un_s, wipe_n, wipe_c, p_d2, p_d1, p_dnil, p_dcons, p_dL, p_asB, p_asI, p_asL, p_asSeqL, p_asSeqT, p_bV, p_dB, p_bAnd, p_bOr, p_bNot, p_dIf, p_dAnd, p_dOr, p_dNot, p_dCh, p_bYes, p_gN, p_gT, p_gsNil, p_gsCons, p_dNx, p_dRet, p_dSet, p_dIfS, p_dAsg, p_dPar, p_dAug, p_dApp, p_dSetIx, p_nLst, p_nRep, p_nOf, p_dSetN, p_dParN1, p_dParNN, p_iSeq, p_iRng1, p_iRng2, p_oNo, p_oIx, p_dSl, p_asIx, p_opTup, p_opLst, p_lenT, p_lenL, p_lenS, p_tupT, p_tupL, p_add, p_sub, p_mul, p_lt, p_le, p_gt, p_ge, p_eqI, p_neI, p_isN, p_isnN, p_isB, p_isnB, p_isNone_n, p_isNone_i, p_isNone_t, p_isNone_l, p_appL, p_appT, b_mc, b_mn, b_ac, b_an, b_rs, b_rz, b_lc, b_ln, b_it, b_if, b_itt, b_iff, p_dSeq, p_eqB, p_neB, len_eT, len_eR, len_eV, isNone_eO, seq_eT, seq_eR, seq_eV, seq_eL, eO_some, eO_none, len_eL, p_dOrT, ↓p_eqN, ↓p_neN, ↓p_ltN, ↓p_leN, ↓p_gtN, ↓p_geN, t8, t9, val, t7, Nat.reduceAdd, Nat.reduceLeDiff, if_pos hl2]
            rfl
          have pre1 : (dSet 11 (dL m_law_without (dcons (dv 6) (dcons (dL opLst (dcons (dL opTup (dcons (dv 8) (dcons (dv 9) dnil))) dnil)) dnil)))) σ = some (.nx (st σ 11 (eT m w (wo T [p])))) := by
            simp only [bnd_some, bnd_none, p_dc, p_dv, lk_z, lk_s, st_z, st_s, un_z, un_s, wipe_n, wipe_c, p_d2, p_d1, p_dnil, p_dcons, p_dL, p_asB, p_asI, p_asL, p_asSeqL, p_asSeqT, p_bV, p_dB, p_bAnd, p_bOr, p_bNot, p_dIf, p_dAnd, p_dOr, p_dNot, p_dCh, p_bYes, p_gN, p_gT, p_gsNil, p_gsCons, p_dNx, p_dRet, p_dSet, p_dIfS, p_dAsg, p_dPar, p_dAug, p_dApp, p_dSetIx, p_nLst, p_nRep, p_nOf, p_dSetN, p_dParN1, p_dParNN, p_iSeq, p_iRng1, p_iRng2, p_oNo, p_oIx, p_dSl, p_asIx, p_opTup, p_opLst, p_lenT, p_lenL, p_lenS, p_tupT, p_tupL, p_add, p_sub, p_mul, p_lt, p_le, p_gt, p_ge, p_eqI, p_neI, p_isN, p_isnN, p_isB, p_isnB, p_isNone_n, p_isNone_i, p_isNone_t, p_isNone_l, p_appL, p_appT, b_mc, b_mn, b_ac, b_an, b_rs, b_rz, b_lc, b_ln, b_it, b_if, b_itt, b_iff, p_dSeq, p_eqB, p_neB, len_eT, len_eR, len_eV, isNone_eO, seq_eT, seq_eR, seq_eV, seq_eL, eO_some, eO_none, len_eL, p_dOrT, ↓p_eqN, ↓p_neN, ↓p_ltN, ↓p_leN, ↓p_gtN, ↓p_geN, c6, c8, c9, wm, Nat.reduceAdd, Nat.reduceLeDiff]
          have pre2 : (bV (dL m_law_real (dcons (dv 11) dnil))) (st σ 11 (eT m w (wo T [p]))) = some true := by
            simp only [bnd_some, bnd_none, p_dc, p_dv, lk_z, lk_s, st_z, st_s, un_z, un_s, wipe_n, wipe_c, p_d2, p_d1, p_dnil, p_dcons, p_dL, p_asB, p_asI, p_asL, p_asSeqL, p_asSeqT, p_bV, p_dB, p_bAnd, p_bOr, p_bNot, p_dIf, p_dAnd, p_dOr, p_dNot, p_dCh, p_bYes, p_gN, p_gT, p_gsNil, p_gsCons, p_dNx, p_dRet, p_dSet, p_dIfS, p_dAsg, p_dPar, p_dAug, p_dApp, p_dSetIx, p_nLst, p_nRep, p_nOf, p_dSetN, p_dParN1, p_dParNN, p_iSeq, p_iRng1, p_iRng2, p_oNo, p_oIx, p_dSl, p_asIx, p_opTup, p_opLst, p_lenT, p_lenL, p_lenS, p_tupT, p_tupL, p_add, p_sub, p_mul, p_lt, p_le, p_gt, p_ge, p_eqI, p_neI, p_isN, p_isnN, p_isB, p_isnB, p_isNone_n, p_isNone_i, p_isNone_t, p_isNone_l, p_appL, p_appT, b_mc, b_mn, b_ac, b_an, b_rs, b_rz, b_lc, b_ln, b_it, b_if, b_itt, b_iff, p_dSeq, p_eqB, p_neB, len_eT, len_eR, len_eV, isNone_eO, seq_eT, seq_eR, seq_eV, seq_eL, eO_some, eO_none, len_eL, p_dOrT, ↓p_eqN, ↓p_neN, ↓p_ltN, ↓p_leN, ↓p_gtN, ↓p_geN, lk_st_i, sl, Nat.reduceLT, lr]
          have pre3 : (dSet 12 (dL m_law_alone (dcons (dv 6) (dcons (dv 8) (dcons (dv 9) dnil))))) (st σ 11 (eT m w (wo T [p]))) = some (.nx τ) := by
            rw [← hτ]
            simp only [bnd_some, bnd_none, p_dc, p_dv, lk_z, lk_s, st_z, st_s, un_z, un_s, wipe_n, wipe_c, p_d2, p_d1, p_dnil, p_dcons, p_dL, p_asB, p_asI, p_asL, p_asSeqL, p_asSeqT, p_bV, p_dB, p_bAnd, p_bOr, p_bNot, p_dIf, p_dAnd, p_dOr, p_dNot, p_dCh, p_bYes, p_gN, p_gT, p_gsNil, p_gsCons, p_dNx, p_dRet, p_dSet, p_dIfS, p_dAsg, p_dPar, p_dAug, p_dApp, p_dSetIx, p_nLst, p_nRep, p_nOf, p_dSetN, p_dParN1, p_dParNN, p_iSeq, p_iRng1, p_iRng2, p_oNo, p_oIx, p_dSl, p_asIx, p_opTup, p_opLst, p_lenT, p_lenL, p_lenS, p_tupT, p_tupL, p_add, p_sub, p_mul, p_lt, p_le, p_gt, p_ge, p_eqI, p_neI, p_isN, p_isnN, p_isB, p_isnB, p_isNone_n, p_isNone_i, p_isNone_t, p_isNone_l, p_appL, p_appT, b_mc, b_mn, b_ac, b_an, b_rs, b_rz, b_lc, b_ln, b_it, b_if, b_itt, b_iff, p_dSeq, p_eqB, p_neB, len_eT, len_eR, len_eV, isNone_eO, seq_eT, seq_eR, seq_eV, seq_eL, eO_some, eO_none, len_eL, p_dOrT, ↓p_eqN, ↓p_neN, ↓p_ltN, ↓p_leN, ↓p_gtN, ↓p_geN, lk_st_o, Nat.reduceBEq, c6, c8, c9, la]
          unfold m_k23_b1
          rw [p_dSeq, pre1]
          show dIfS _ _ _ _ = _
          unfold dIfS
          rw [pre2]
          show dSeq _ _ _ = _
          rw [p_dSeq, pre3]
          exact ap
        · rw [lk_st_i (by simp only [len_st, sl, Nat.reduceLT]), end1, List.map_append]
          rfl)
  have f1 := (for_eq (it := iSeq (dL m_law_known (dcons (dv 6) dnil))) (ρ := ρ1) (by simp only [bnd_some, bnd_none, p_dc, p_dv, lk_z, lk_s, st_z, st_s, un_z, un_s, wipe_n, wipe_c, p_d2, p_d1, p_dnil, p_dcons, p_dL, p_asB, p_asI, p_asL, p_asSeqL, p_asSeqT, p_bV, p_dB, p_bAnd, p_bOr, p_bNot, p_dIf, p_dAnd, p_dOr, p_dNot, p_dCh, p_bYes, p_gN, p_gT, p_gsNil, p_gsCons, p_dNx, p_dRet, p_dSet, p_dIfS, p_dAsg, p_dPar, p_dAug, p_dApp, p_dSetIx, p_nLst, p_nRep, p_nOf, p_dSetN, p_dParN1, p_dParNN, p_iSeq, p_iRng1, p_iRng2, p_oNo, p_oIx, p_dSl, p_asIx, p_opTup, p_opLst, p_lenT, p_lenL, p_lenS, p_tupT, p_tupL, p_add, p_sub, p_mul, p_lt, p_le, p_gt, p_ge, p_eqI, p_neI, p_isN, p_isnN, p_isB, p_isnB, p_isNone_n, p_isNone_i, p_isNone_t, p_isNone_l, p_appL, p_appT, b_mc, b_mn, b_ac, b_an, b_rs, b_rz, b_lc, b_ln, b_it, b_if, b_itt, b_iff, p_dSeq, p_eqB, p_neB, len_eT, len_eR, len_eV, isNone_eO, seq_eT, seq_eR, seq_eV, seq_eL, eO_some, eO_none, len_eL, p_dOrT, ↓p_eqN, ↓p_neN, ↓p_ltN, ↓p_leN, ↓p_gtN, ↓p_geN, a6, kn])).trans q1
  have l2 : ρ2.length = 15 := by rw [ag2.1, l1]
  have b6 := ag2.lk 6 (by decide) a6
  have fl : ((kp m w T).filter fun p => isReal m w (wo T [p])).length ≤ 9 := Nat.le_trans (List.length_filter_le _ _) k9
  have me : ∀ p ∈ (kp m w T).filter fun p => isReal m w (wo T [p]), mendE (eMd p (V p)) = true := fun p hp => by
    obtain ⟨h1, h2⟩ := List.mem_filter.mp hp
    exact mendE_eMd p _ (vlen p h1 h2)
  generalize hL : ((kp m w T).filter fun p => isReal m w (wo T [p])) = L at sm q2 fl me
  have okL : okD 60 (.lst (L.map fun p => eMd p (V p))) = true := by
    refine okDs_map (n := 59) _ L fun p _ => ?_
    show okDs 58 [.int p.1, .int p.2, eOL (V p)] = true
    simp only [okDs, ok_eOL 56 (V p), Bool.and_true]
    rfl
  have eqL : ∀ L : List (Nat × Nat), eqDs (L.map fun p => eMd p (V p)) (L.map fun p => eMd p (V p)) = true := by
    intro L
    induction L with
    | nil => rfl
    | cons p L ih =>
      rw [List.map_cons]
      show (eqD _ _ && eqDs _ _) = true
      rw [eq_eMd, ih]
      rfl
  have nL : opNe (.lst (L.map fun p => eMd p (V p))) (.lst (L.map fun p => eMd p (V p))) = some (.bl false) := by
    rw [opNe_ok okL okL]
    have : eqD (.lst (L.map fun p => eMd p (V p))) (.lst (L.map fun p => eMd p (V p))) = true := eqL L
    rw [this]
    rfl
  have mo : mendOk (.lst (L.map fun p => eMd p (V p))) = true := by
    show (decide ((L.map fun p => eMd p (V p)).length ≤ 100000) && (L.map fun p => eMd p (V p)).all mendE) = true
    rw [List.length_map, decide_eq_true (by omega), Bool.true_and, List.all_eq_true]
    intro x hx
    obtain ⟨p, hp, rfl⟩ := List.mem_map.mp hx
    exact me p hp
  have okt : okTs [eT m w T] = true := by
    show (okT (eT m w T) && true) = true
    rw [okT_eT]
    rfl
  have dm : dMend 13 7 [13, 8, 9, 14] m_single_mends (dcons (dv 6) dnil) ρ2 = some (.nx (wipeR ρ2 [13, 8, 9, 14])) := by
    have e1 : dcons (dv 6) dnil ρ2 = some [eT m w T] := by simp only [bnd_some, bnd_none, p_dc, p_dv, lk_z, lk_s, st_z, st_s, un_z, un_s, wipe_n, wipe_c, p_d2, p_d1, p_dnil, p_dcons, p_dL, p_asB, p_asI, p_asL, p_asSeqL, p_asSeqT, p_bV, p_dB, p_bAnd, p_bOr, p_bNot, p_dIf, p_dAnd, p_dOr, p_dNot, p_dCh, p_bYes, p_gN, p_gT, p_gsNil, p_gsCons, p_dNx, p_dRet, p_dSet, p_dIfS, p_dAsg, p_dPar, p_dAug, p_dApp, p_dSetIx, p_nLst, p_nRep, p_nOf, p_dSetN, p_dParN1, p_dParNN, p_iSeq, p_iRng1, p_iRng2, p_oNo, p_oIx, p_dSl, p_asIx, p_opTup, p_opLst, p_lenT, p_lenL, p_lenS, p_tupT, p_tupL, p_add, p_sub, p_mul, p_lt, p_le, p_gt, p_ge, p_eqI, p_neI, p_isN, p_isnN, p_isB, p_isnB, p_isNone_n, p_isNone_i, p_isNone_t, p_isNone_l, p_appL, p_appT, b_mc, b_mn, b_ac, b_an, b_rs, b_rz, b_lc, b_ln, b_it, b_if, b_itt, b_iff, p_dSeq, p_eqB, p_neB, len_eT, len_eR, len_eV, isNone_eO, seq_eT, seq_eR, seq_eV, seq_eL, eO_some, eO_none, len_eL, p_dOrT, ↓p_eqN, ↓p_neN, ↓p_ltN, ↓p_leN, ↓p_gtN, ↓p_geN, b6]
    unfold dMend
    rw [e1]
    show (if okTs [eT m w T] = true ∧ _ then _ else none) = _
    rw [if_pos ⟨okt, by simp only [List.all_cons, List.all_nil, l2]; decide⟩, sm]
    show (if mendOk _ = true then _ else none) = _
    rw [if_pos mo, q2]
    show ((opNe _ _).bind _) = _
    rw [nL]
    rfl
  have ag3 : Ag [7, 8, 9, 10, 11, 12, 13, 14] ρ2 (wipeR ρ2 [13, 8, 9, 14]) := by
    refine ⟨len_wipeR _ _, fun j hj => ?_⟩
    show lk (un (un (un (un ρ2 14) 9) 8) 13) j = _
    have : j ≠ 14 ∧ j ≠ 9 ∧ j ≠ 8 ∧ j ≠ 13 := by
      refine ⟨fun e => hj ?_, fun e => hj ?_, fun e => hj ?_, fun e => hj ?_⟩ <;> rw [e] <;> decide
    rw [lk_un_ne this.2.2.2, lk_un_ne this.2.2.1, lk_un_ne this.2.1, lk_un_ne this.1]
  have c6 : lk (wipeR ρ2 [13, 8, 9, 14]) 6 = some (eT m w T) := ag3.lk 6 (by decide) b6
  have c7 : lk (wipeR ρ2 [13, 8, 9, 14]) 7 = some (.lst (L.map fun p => eMd p (V p))) := by
    show lk (un (un (un (un ρ2 14) 9) 8) 13) 7 = _
    rw [lk_un_ne (by decide), lk_un_ne (by decide), lk_un_ne (by decide), lk_un_ne (by decide)]
    exact q2
  generalize wipeR ρ2 [13, 8, 9, 14] = ρ3 at dm ag3 c6 c7
  refine ⟨ρ3, ?_, (ag1.trans (ag2.mono (by decide))).trans ag3⟩
  have s0 : dSetN 7 (nLst dnil) ρ = some (.nx ρ1) := by
    rw [← hρ]
    rfl
  unfold m_k23_b2
  rw [p_dSeq, s0]
  show dSeq _ _ ρ1 = _
  rw [p_dSeq, f1]
  show dSeq _ _ ρ2 = _
  rw [p_dSeq, dm]
  simp only [bnd_some, bnd_none, p_dc, p_dv, lk_z, lk_s, st_z, st_s, un_z, un_s, wipe_n, wipe_c, p_d2, p_d1, p_dnil, p_dcons, p_dL, p_asB, p_asI, p_asL, p_asSeqL, p_asSeqT, p_bV, p_dB, p_bAnd, p_bOr, p_bNot, p_dIf, p_dAnd, p_dOr, p_dNot, p_dCh, p_bYes, p_gN, p_gT, p_gsNil, p_gsCons, p_dNx, p_dRet, p_dSet, p_dIfS, p_dAsg, p_dPar, p_dAug, p_dApp, p_dSetIx, p_nLst, p_nRep, p_nOf, p_dSetN, p_dParN1, p_dParNN, p_iSeq, p_iRng1, p_iRng2, p_oNo, p_oIx, p_dSl, p_asIx, p_opTup, p_opLst, p_lenT, p_lenL, p_lenS, p_tupT, p_tupL, p_add, p_sub, p_mul, p_lt, p_le, p_gt, p_ge, p_eqI, p_neI, p_isN, p_isnN, p_isB, p_isnB, p_isNone_n, p_isNone_i, p_isNone_t, p_isNone_l, p_appL, p_appT, b_mc, b_mn, b_ac, b_an, b_rs, b_rz, b_lc, b_ln, b_it, b_if, b_itt, b_iff, p_dSeq, p_eqB, p_neB, len_eT, len_eR, len_eV, isNone_eO, seq_eT, seq_eR, seq_eV, seq_eL, eO_some, eO_none, len_eL, p_dOrT, ↓p_eqN, ↓p_neN, ↓p_ltN, ↓p_leN, ↓p_gtN, ↓p_geN, c6, c7, sm, ↓nL, Bool.false_eq_true, if_false]
end
theorem k23_b3 {ns : List Int} (hns : ns.length ≤ 63) {i : Nat} (hi : i < 5) {ρ : Rho} (hl : ρ.length = 15) (h0 : lk ρ 0 = some (.scr ns)) (h1 : lk ρ 1 = some (.int i)) :
    ∃ ρ', m_k23_b3 ρ = some (.nx ρ') ∧ Ag [1, 2, 3, 4, 5, 6, 7, 8, 9, 10, 11, 12, 13, 14] ρ ρ' := by
  obtain ⟨ds, hd, _, hds⟩ := digits_m hns (i := i) (count := 60) (base := 27720) (by omega) (by decide) (by decide) (by decide)
  have hds : m_law_digits [.scr ns, .int i, .int 60, .int 27720] = some (eL ds) := hds
  obtain ⟨m, m0, m3, em⟩ := size3 (ds.getD 50 0)
  obtain ⟨w, w0, w3, ew⟩ := size3 (ds.getD 51 0)
  have d50 : opIx (eL ds) (.int 50) = some (.int (ds.getD 50 0)) := ix_eL (k := 50) (by omega)
  have d51 : opIx (eL ds) (.int 51) = some (.int (ds.getD 51 0)) := ix_eL (k := 51) (by omega)
  obtain ⟨R, C, hR, hC, hnum⟩ := numbers_m (ds := ds) (by omega) (show m ≤ 5 by omega) (show w ≤ 5 by omega)
  have bR : ∀ i, 0 < R i ∧ R i ≤ 1000000000 := fun i => by have := someL_pos (hR i); omega
  have bC : ∀ i, 0 < C i ∧ C i ≤ 1000000000 := fun i => by have := someL_pos (hC i); omega
  have tab := table_m (m := m) (w := w) (by omega) (by omega) bR bC
  have s20 : opSl (some 20) none (eL ds) = some (eL (ds.drop 20)) := sl_eL (k := 20) (by omega)
  have s25 : opSl (some 25) none (eL ds) = some (eL (ds.drop 25)) := sl_eL (k := 25) (by omega)
  have s30 : opSl (some 30) none (eL ds) = some (eL (ds.drop 30)) := sl_eL (k := 30) (by omega)
  have l1 := dvm_lcm hR hC
  have tl := l1.tab m0 (by omega : m ≤ 100) w0 (by omega : w ≤ 100)
  obtain ⟨hid, hh⟩ := hidden_m (ds := ds.drop 20) (often := 3) tl (by rw [List.length_drop]; omega) (by decide)
  have hh : m_law_hidden [eT m w fun i j => some (Nat.lcm (R i) (C j)), eL (ds.drop 20), .int 3] = some (eT m w fun i j => if hid i j = true then none else some (Nat.lcm (R i) (C j))) := hh
  have g1 := (l1.hid hid).up (N := 2160) (by decide) (by decide) (by decide)
  obtain ⟨hid2, hh2⟩ := hidden_m (ds := ds.drop 25) (often := 7) tl (by rw [List.length_drop]; omega) (by decide)
  have hh2 : m_law_hidden [eT m w fun i j => some (Nat.lcm (R i) (C j)), eL (ds.drop 25), .int 7] = some (eT m w fun i j => if hid2 i j = true then none else some (Nat.lcm (R i) (C j))) := hh2
  have l2 := l1.hid hid2
  generalize (fun i j => if hid i j = true then none else some (Nat.lcm (R i) (C j))) = U at hh g1
  generalize (fun i j => if hid2 i j = true then none else some (Nat.lcm (R i) (C j))) = U2 at hh2 l2
  have tU := l2.tab m0 (by omega : m ≤ 100) w0 (by omega : w ≤ 100)
  obtain ⟨S, sS, hS⟩ := spoilt_m (ds := ds.drop 30) tU (by rw [List.length_drop]; omega)
  have g2 := l2.spo sS
  generalize hρ : st (st (st (st ρ 2 (eL ds)) 3 (eV m R)) 4 (eV w C)) 5 (eT m w (fun i j => some (Nat.lcm (R i) (C j)))) = ρ1
  have ll1 : ρ1.length = 15 := by rw [← hρ]; simp only [len_st, hl]
  have ag1 : Ag [1, 2, 3, 4, 5, 6, 7, 8, 9, 10, 11, 12, 13, 14] ρ ρ1 := by
    rw [← hρ]
    exact ((((Ag.refl _ ρ).st (by decide)).st (by decide)).st (by decide)).st (by decide)
  have a2 : lk ρ1 2 = some (eL ds) := by rw [← hρ]; simp only [lk_st_o, lk_st_i, len_st, Nat.reduceBEq, Nat.reduceLT, hl]
  have a5 : lk ρ1 5 = some (eT m w (fun i j => some (Nat.lcm (R i) (C j)))) := by rw [← hρ]; simp only [lk_st_o, lk_st_i, len_st, Nat.reduceBEq, Nat.reduceLT, hl]
  obtain ⟨ρ2, q1, ag2⟩ := for_agL (b := m_k23_b2) (i := 6) (ws := [6, 7, 8, 9, 10, 11, 12, 13, 14]) (ρ := ρ1) (eT m w) [U, S] (by decide) (by omega) (by
    intro T hT ρ' ag e
    have hT2 : DvM 2160 T := by
      simp only [List.mem_cons, List.not_mem_nil, or_false] at hT
      rcases hT with e | e <;> rw [e] <;> assumption
    obtain ⟨ρ'', q, ag'⟩ := k23_b2 (hT2.tab m0 (by omega : m ≤ 100) w0 (by omega : w ≤ 100)) hT2 (by decide) m3 w3 (by rw [ag.1, ll1]) e
    exact ⟨ρ'', q, ag.trans (ag'.mono (by decide))⟩)
  have q1 : forL (gN 6) m_k23_b2 [eT m w U, eT m w S] ρ1 = some (.nx ρ2) := q1
  refine ⟨ρ2, ?_, ag1.trans (ag2.mono (by decide))⟩
  have f1 := (for_eq (it := (iSeq (dL opTup (dcons (dL m_law_hidden (dcons (dv 5) (dcons (dSl (dv 2) (oIx (dc (.int 20))) oNo) (dcons (dc (.int 3)) dnil)))) (dcons (dL m_law_spoilt (dcons (dL m_law_hidden (dcons (dv 5) (dcons (dSl (dv 2) (oIx (dc (.int 25))) oNo) (dcons (dc (.int 7)) dnil)))) (dcons (dSl (dv 2) (oIx (dc (.int 30))) oNo) dnil))) dnil))))) (ρ := ρ1) (by simp only [bnd_some, bnd_none, p_dc, p_dv, lk_z, lk_s, st_z, st_s, un_z, un_s, wipe_n, wipe_c, p_d2, p_d1, p_dnil, p_dcons, p_dL, p_asB, p_asI, p_asL, p_asSeqL, p_asSeqT, p_bV, p_dB, p_bAnd, p_bOr, p_bNot, p_dIf, p_dAnd, p_dOr, p_dNot, p_dCh, p_bYes, p_gN, p_gT, p_gsNil, p_gsCons, p_dNx, p_dRet, p_dSet, p_dIfS, p_dAsg, p_dPar, p_dAug, p_dApp, p_dSetIx, p_nLst, p_nRep, p_nOf, p_dSetN, p_dParN1, p_dParNN, p_iSeq, p_iRng1, p_iRng2, p_oNo, p_oIx, p_dSl, p_asIx, p_opTup, p_opLst, p_lenT, p_lenL, p_lenS, p_tupT, p_tupL, p_add, p_sub, p_mul, p_lt, p_le, p_gt, p_ge, p_eqI, p_neI, p_isN, p_isnN, p_isB, p_isnB, p_isNone_n, p_isNone_i, p_isNone_t, p_isNone_l, p_appL, p_appT, b_mc, b_mn, b_ac, b_an, b_rs, b_rz, b_lc, b_ln, b_it, b_if, b_itt, b_iff, p_dSeq, p_eqB, p_neB, len_eT, len_eR, len_eV, isNone_eO, seq_eT, seq_eR, seq_eV, seq_eL, eO_some, eO_none, len_eL, p_dOrT, ↓p_eqN, ↓p_neN, ↓p_ltN, ↓p_leN, ↓p_gtN, ↓p_geN, a5, a2, s20, s25, s30, hh, hh2, hS, Nat.reduceAdd, Nat.reduceLeDiff])).trans q1
  simp only [m_k23_b3, bnd_some, bnd_none, p_dc, p_dv, lk_z, lk_s, st_z, st_s, un_z, un_s, wipe_n, wipe_c, p_d2, p_d1, p_dnil, p_dcons, p_dL, p_asB, p_asI, p_asL, p_asSeqL, p_asSeqT, p_bV, p_dB, p_bAnd, p_bOr, p_bNot, p_dIf, p_dAnd, p_dOr, p_dNot, p_dCh, p_bYes, p_gN, p_gT, p_gsNil, p_gsCons, p_dNx, p_dRet, p_dSet, p_dIfS, p_dAsg, p_dPar, p_dAug, p_dApp, p_dSetIx, p_nLst, p_nRep, p_nOf, p_dSetN, p_dParN1, p_dParNN, p_iSeq, p_iRng1, p_iRng2, p_oNo, p_oIx, p_dSl, p_asIx, p_opTup, p_opLst, p_lenT, p_lenL, p_lenS, p_tupT, p_tupL, p_add, p_sub, p_mul, p_lt, p_le, p_gt, p_ge, p_eqI, p_neI, p_isN, p_isnN, p_isB, p_isnB, p_isNone_n, p_isNone_i, p_isNone_t, p_isNone_l, p_appL, p_appT, b_mc, b_mn, b_ac, b_an, b_rs, b_rz, b_lc, b_ln, b_it, b_if, b_itt, b_iff, p_dSeq, p_eqB, p_neB, len_eT, len_eR, len_eV, isNone_eO, seq_eT, seq_eR, seq_eV, seq_eL, eO_some, eO_none, len_eL, p_dOrT, ↓p_eqN, ↓p_neN, ↓p_ltN, ↓p_leN, ↓p_gtN, ↓p_geN, lk_st_o, lk_st_i, lk_un_o, len_st, len_un, Nat.reduceBEq, Nat.reduceLT, hl, h0, h1, hds, d50, d51, em, ew, Nat.reduceAdd, Nat.reduceLeDiff, hnum, tab, hρ, f1]
theorem k23_g1 : m_single_mends [.tup [.tup [.int 4, .int 1], .tup [.int 1, .int 1]]] = some (.lst [.tup [.int 0, .int 0, .lst [.int 1]], .tup [.int 0, .int 1, .lst [.int 4]], .tup [.int 1, .int 0, .lst [.int 4]]]) := sameO_eq (by decide +kernel)
theorem k23_g2 : m_single_mends [.tup [.tup [.int 6, .non], .tup [.non, .int 5]]] = some (.lst [.tup [.int 0, .int 0, .non], .tup [.int 1, .int 1, .non]]) := sameO_eq (by decide +kernel)
theorem k23_g3 : m_single_mends [.tup [.tup [.non]]] = some (.lst []) := sameO_eq (by decide +kernel)
theorem plain_k23 (ns : List Int) (h : ns.length ≤ 63) : m_k23 [.scr ns] = some (.bl true) := by
  obtain ⟨ρ', q1, ag⟩ := for_ag (b := m_k23_b3) (i := 1) (n := 5) (ws := [1, 2, 3, 4, 5, 6, 7, 8, 9, 10, 11, 12, 13, 14]) (ρ := some (.scr ns) :: List.replicate 14 none) (fun i : Nat => D.int i) (by decide) (by simp) (by
    intro k hk ρ' ag e
    obtain ⟨ρ'', q, ag'⟩ := k23_b3 h hk (by rw [ag.1]; rfl) (ag.lk 0 (by decide) rfl) e
    exact ⟨ρ'', q, ag.trans ag'⟩)
  have r5 : opRng1 [.int 5] = some ((List.range 5).map fun i : Nat => D.int i) := rng1 (n := 5) (by decide)
  have f := (for_eq (it := iRng1 (dcons (dc (.int 5)) dnil)) (ρ := some (.scr ns) :: List.replicate 14 none) (by simp only [bnd_some, bnd_none, p_dc, p_dv, lk_z, lk_s, st_z, st_s, un_z, un_s, wipe_n, wipe_c, p_d2, p_d1, p_dnil, p_dcons, p_dL, p_asB, p_asI, p_asL, p_asSeqL, p_asSeqT, p_bV, p_dB, p_bAnd, p_bOr, p_bNot, p_dIf, p_dAnd, p_dOr, p_dNot, p_dCh, p_bYes, p_gN, p_gT, p_gsNil, p_gsCons, p_dNx, p_dRet, p_dSet, p_dIfS, p_dAsg, p_dPar, p_dAug, p_dApp, p_dSetIx, p_nLst, p_nRep, p_nOf, p_dSetN, p_dParN1, p_dParNN, p_iSeq, p_iRng1, p_iRng2, p_oNo, p_oIx, p_dSl, p_asIx, p_opTup, p_opLst, p_lenT, p_lenL, p_lenS, p_tupT, p_tupL, p_add, p_sub, p_mul, p_lt, p_le, p_gt, p_ge, p_eqI, p_neI, p_isN, p_isnN, p_isB, p_isnB, p_isNone_n, p_isNone_i, p_isNone_t, p_isNone_l, p_appL, p_appT, b_mc, b_mn, b_ac, b_an, b_rs, b_rz, b_lc, b_ln, b_it, b_if, b_itt, b_iff, p_dSeq, p_eqB, p_neB, len_eT, len_eR, len_eV, isNone_eO, seq_eT, seq_eR, seq_eV, seq_eL, eO_some, eO_none, len_eL, p_dOrT, ↓p_eqN, ↓p_neN, ↓p_ltN, ↓p_leN, ↓p_gtN, ↓p_geN, r5])).trans q1
  refine run_rt rfl ?_
  have f : dFor (iRng1 (dcons (dc (.int 5)) dnil)) (gN 1) m_k23_b3 ([D.scr ns].map some ++ List.replicate (15 - 1) none) = some (.nx ρ') := f
  have e1 : opNe (.lst [.tup [.int 0, .int 0, .lst [.int 1]], .tup [.int 0, .int 1, .lst [.int 4]], .tup [.int 1, .int 0, .lst [.int 4]]]) (.lst [.tup [.int 0, .int 0, .lst [.int 1]], .tup [.int 0, .int 1, .lst [.int 4]], .tup [.int 1, .int 0, .lst [.int 4]]]) = some (.bl false) := sameO_eq (by decide +kernel)
  have e2 : opEq (.lst [.tup [.int 0, .int 0, .non], .tup [.int 1, .int 1, .non]]) (.lst [.tup [.int 0, .int 0, .non], .tup [.int 1, .int 1, .non]]) = some (.bl true) := sameO_eq (by decide +kernel)
  have e3 : opEq (.lst []) (.lst []) = some (.bl true) := rfl
  rw [p_dSeq, f]
  simp only [bnd_some, bnd_none, p_dc, p_dv, lk_z, lk_s, st_z, st_s, un_z, un_s, wipe_n, wipe_c, p_d2, p_d1, p_dnil, p_dcons, p_dL, p_asB, p_asI, p_asL, p_asSeqL, p_asSeqT, p_bV, p_dB, p_bAnd, p_bOr, p_bNot, p_dIf, p_dAnd, p_dOr, p_dNot, p_dCh, p_bYes, p_gN, p_gT, p_gsNil, p_gsCons, p_dNx, p_dRet, p_dSet, p_dIfS, p_dAsg, p_dPar, p_dAug, p_dApp, p_dSetIx, p_nLst, p_nRep, p_nOf, p_dSetN, p_dParN1, p_dParNN, p_iSeq, p_iRng1, p_iRng2, p_oNo, p_oIx, p_dSl, p_asIx, p_opTup, p_opLst, p_lenT, p_lenL, p_lenS, p_tupT, p_tupL, p_add, p_sub, p_mul, p_lt, p_le, p_gt, p_ge, p_eqI, p_neI, p_isN, p_isnN, p_isB, p_isnB, p_isNone_n, p_isNone_i, p_isNone_t, p_isNone_l, p_appL, p_appT, b_mc, b_mn, b_ac, b_an, b_rs, b_rz, b_lc, b_ln, b_it, b_if, b_itt, b_iff, p_dSeq, p_eqB, p_neB, len_eT, len_eR, len_eV, isNone_eO, seq_eT, seq_eR, seq_eV, seq_eL, eO_some, eO_none, len_eL, p_dOrT, ↓p_eqN, ↓p_neN, ↓p_ltN, ↓p_leN, ↓p_gtN, ↓p_geN, Nat.reduceAdd, Nat.reduceLeDiff, Nat.zero_le, k23_g1, k23_g2, k23_g3, e1, e2, e3, if_true, if_false, Bool.false_eq_true]
end Mi
namespace My
open PySem PySem.Spec PyProof.Rows L2 DL Mi
def topS (i : Nat) : Stmt := PySem.Challenge.pw_meetperiods_k23_whole_single_mends.main.body.getD i (.Pass ⟨0, 0, 0, 0⟩)
abbrev s_gcd : Stmt := topS 1
abbrev N_gcd : List Str := ["one", "other"]
theorem sc_gcd : FnScope N_gcd ["one", "other"] (defScope s_gcd) := ⟨rfl, rfl, rfl, by decide +kernel, rfl, by decide +kernel, by decide +kernel⟩
abbrev s_lcm : Stmt := topS 2
abbrev N_lcm : List Str := ["one", "other"]
theorem sc_lcm : FnScope N_lcm ["one", "other"] (defScope s_lcm) := ⟨rfl, rfl, rfl, by decide +kernel, rfl, by decide +kernel, by decide +kernel⟩
abbrev s_prime_factors : Stmt := topS 3
abbrev N_prime_factors : List Str := ["number", "found", "trial"]
theorem sc_prime_factors : FnScope N_prime_factors ["number"] (defScope s_prime_factors) := ⟨rfl, rfl, rfl, by decide +kernel, rfl, by decide +kernel, by decide +kernel⟩
abbrev s_exponent : Stmt := topS 4
abbrev N_exponent : List Str := ["prime", "number", "found"]
theorem sc_exponent : FnScope N_exponent ["prime", "number"] (defScope s_exponent) := ⟨rfl, rfl, rfl, by decide +kernel, rfl, by decide +kernel, by decide +kernel⟩
abbrev s_power : Stmt := topS 5
abbrev N_power : List Str := ["prime", "times", "found", "turn"]
theorem sc_power : FnScope N_power ["prime", "times"] (defScope s_power) := ⟨rfl, rfl, rfl, by decide +kernel, rfl, by decide +kernel, by decide +kernel⟩
abbrev s_between : Stmt := topS 6
abbrev N_between : List Str := ["low", "high", "found", "prime", "times", "one", "number"]
theorem sc_between : FnScope N_between ["low", "high"] (defScope s_between) := ⟨rfl, rfl, rfl, by decide +kernel, rfl, by decide +kernel, by decide +kernel⟩
abbrev s_turned : Stmt := topS 8
abbrev N_turned : List Str := ["table", "column", "row"]
theorem sc_turned : FnScope N_turned ["table"] (defScope s_turned) := ⟨rfl, rfl, rfl, by decide +kernel, rfl, by decide +kernel, by decide +kernel⟩
abbrev s_row_divisor : Stmt := topS 9
abbrev N_row_divisor : List Str := ["row", "found", "entry"]
theorem sc_row_divisor : FnScope N_row_divisor ["row"] (defScope s_row_divisor) := ⟨rfl, rfl, rfl, by decide +kernel, rfl, by decide +kernel, by decide +kernel⟩
abbrev s_greatest : Stmt := topS 10
abbrev N_greatest : List Str := ["table", "row"]
theorem sc_greatest : FnScope N_greatest ["table"] (defScope s_greatest) := ⟨rfl, rfl, rfl, by decide +kernel, rfl, by decide +kernel, by decide +kernel⟩
abbrev s_known_places : Stmt := topS 11
abbrev N_known_places : List Str := ["table", "found", "row", "column"]
theorem sc_known_places : FnScope N_known_places ["table"] (defScope s_known_places) := ⟨rfl, rfl, rfl, by decide +kernel, rfl, by decide +kernel, by decide +kernel⟩
abbrev s_is_real : Stmt := topS 12
abbrev N_is_real : List Str := ["table", "rows", "columns", "row", "column"]
theorem sc_is_real : FnScope N_is_real ["table"] (defScope s_is_real) := ⟨rfl, rfl, rfl, by decide +kernel, rfl, by decide +kernel, by decide +kernel⟩
abbrev s_without : Stmt := topS 13
abbrev N_without : List Str := ["table", "places", "rows", "row", "line", "column"]
theorem sc_without : FnScope N_without ["table", "places"] (defScope s_without) := ⟨rfl, rfl, rfl, by decide +kernel, rfl, by decide +kernel, by decide +kernel⟩
abbrev s_all_primes : Stmt := topS 15
abbrev N_all_primes : List Str := ["table", "found", "row", "column", "prime"]
theorem sc_all_primes : FnScope N_all_primes ["table"] (defScope s_all_primes) := ⟨rfl, rfl, rfl, by decide +kernel, rfl, by decide +kernel, by decide +kernel⟩
abbrev s_sure : Stmt := topS 16
abbrev N_sure : List Str := ["table", "rows", "columns", "tops", "sides", "prime", "row", "column", "times"]
theorem sc_sure : FnScope N_sure ["table"] (defScope s_sure) := ⟨rfl, rfl, rfl, by decide +kernel, rfl, by decide +kernel, by decide +kernel⟩
abbrev s_entry_values : Stmt := topS 17
abbrev N_entry_values : List Str := ["table", "row", "column", "tops", "sides", "rows", "columns"]
theorem sc_entry_values : FnScope N_entry_values ["table", "row", "column"] (defScope s_entry_values) := ⟨rfl, rfl, rfl, by decide +kernel, rfl, by decide +kernel, by decide +kernel⟩
abbrev s_single_mends : Stmt := topS 19
abbrev N_single_mends : List Str := ["table", "found", "row", "column", "other"]
theorem sc_single_mends : FnScope N_single_mends ["table"] (defScope s_single_mends) := ⟨rfl, rfl, rfl, by decide +kernel, rfl, by decide +kernel, by decide +kernel⟩
abbrev s__law_cell : Stmt := topS 21
abbrev N__law_cell : List Str := ["script", "index"]
theorem sc__law_cell : FnScope N__law_cell ["script", "index"] (defScope s__law_cell) := ⟨rfl, rfl, rfl, by decide +kernel, rfl, by decide +kernel, by decide +kernel⟩
abbrev s__law_digits : Stmt := topS 22
abbrev N__law_digits : List Str := ["script", "index", "count", "base", "primes", "cell", "rest", "digits", "k", "mixed"]
theorem sc__law_digits : FnScope N__law_digits ["script", "index", "count", "base"] (defScope s__law_digits) := ⟨rfl, rfl, rfl, by decide +kernel, rfl, by decide +kernel, by decide +kernel⟩
abbrev s__law_gcd : Stmt := topS 23
abbrev N__law_gcd : List Str := ["one", "other"]
theorem sc__law_gcd : FnScope N__law_gcd ["one", "other"] (defScope s__law_gcd) := ⟨rfl, rfl, rfl, by decide +kernel, rfl, by decide +kernel, by decide +kernel⟩
abbrev s__law_lcm : Stmt := topS 24
abbrev N__law_lcm : List Str := ["one", "other"]
theorem sc__law_lcm : FnScope N__law_lcm ["one", "other"] (defScope s__law_lcm) := ⟨rfl, rfl, rfl, by decide +kernel, rfl, by decide +kernel, by decide +kernel⟩
abbrev s__law_divisors : Stmt := topS 25
abbrev N__law_divisors : List Str := ["number", "one"]
theorem sc__law_divisors : FnScope N__law_divisors ["number"] (defScope s__law_divisors) := ⟨rfl, rfl, rfl, by decide +kernel, rfl, by decide +kernel, by decide +kernel⟩
abbrev s__law_numbers : Stmt := topS 26
abbrev N__law_numbers : List Str := ["digits", "many", "wide", "some", "size", "rows", "k"]
theorem sc__law_numbers : FnScope N__law_numbers ["digits", "many", "wide"] (defScope s__law_numbers) := ⟨rfl, rfl, rfl, by decide +kernel, rfl, by decide +kernel, by decide +kernel⟩
abbrev s__law_table : Stmt := topS 27
abbrev N__law_table : List Str := ["rows", "columns", "one", "other"]
theorem sc__law_table : FnScope N__law_table ["rows", "columns"] (defScope s__law_table) := ⟨rfl, rfl, rfl, by decide +kernel, rfl, by decide +kernel, by decide +kernel⟩
abbrev s__law_hidden : Stmt := topS 28
abbrev N__law_hidden : List Str := ["table", "digits", "often", "rows", "k", "row", "line", "entry"]
theorem sc__law_hidden : FnScope N__law_hidden ["table", "digits", "often"] (defScope s__law_hidden) := ⟨rfl, rfl, rfl, by decide +kernel, rfl, by decide +kernel, by decide +kernel⟩
abbrev s__law_spoilt : Stmt := topS 29
abbrev N__law_spoilt : List Str := ["table", "digits", "rows", "row", "column"]
theorem sc__law_spoilt : FnScope N__law_spoilt ["table", "digits"] (defScope s__law_spoilt) := ⟨rfl, rfl, rfl, by decide +kernel, rfl, by decide +kernel, by decide +kernel⟩
abbrev s__law_known : Stmt := topS 30
abbrev N__law_known : List Str := ["table", "found", "row", "line", "column", "entry"]
theorem sc__law_known : FnScope N__law_known ["table"] (defScope s__law_known) := ⟨rfl, rfl, rfl, by decide +kernel, rfl, by decide +kernel, by decide +kernel⟩
abbrev s__law_fits : Stmt := topS 31
abbrev N__law_fits : List Str := ["table", "rows", "columns", "row", "column", "entry"]
theorem sc__law_fits : FnScope N__law_fits ["table", "rows", "columns"] (defScope s__law_fits) := ⟨rfl, rfl, rfl, by decide +kernel, rfl, by decide +kernel, by decide +kernel⟩
abbrev s__law_common : Stmt := topS 32
abbrev N__law_common : List Str := ["entries", "found", "entry"]
theorem sc__law_common : FnScope N__law_common ["entries"] (defScope s__law_common) := ⟨rfl, rfl, rfl, by decide +kernel, rfl, by decide +kernel, by decide +kernel⟩
abbrev s__law_real : Stmt := topS 33
abbrev N__law_real : List Str := ["table", "known", "rows", "columns", "row", "column", "at", "entry"]
theorem sc__law_real : FnScope N__law_real ["table"] (defScope s__law_real) := ⟨rfl, rfl, rfl, by decide +kernel, rfl, by decide +kernel, by decide +kernel⟩
abbrev s__law_turned : Stmt := topS 34
abbrev N__law_turned : List Str := ["table", "column", "row"]
theorem sc__law_turned : FnScope N__law_turned ["table"] (defScope s__law_turned) := ⟨rfl, rfl, rfl, by decide +kernel, rfl, by decide +kernel, by decide +kernel⟩
abbrev s__law_without : Stmt := topS 35
abbrev N__law_without : List Str := ["table", "places", "rows", "row", "line", "column", "entry"]
theorem sc__law_without : FnScope N__law_without ["table", "places"] (defScope s__law_without) := ⟨rfl, rfl, rfl, by decide +kernel, rfl, by decide +kernel, by decide +kernel⟩
abbrev s__law_with_entry : Stmt := topS 36
abbrev N__law_with_entry : List Str := ["table", "row", "column", "entry", "line"]
theorem sc__law_with_entry : FnScope N__law_with_entry ["table", "row", "column", "entry"] (defScope s__law_with_entry) := ⟨rfl, rfl, rfl, by decide +kernel, rfl, by decide +kernel, by decide +kernel⟩
abbrev s__law_alone : Stmt := topS 37
abbrev N__law_alone : List Str := ["table", "row", "column", "known", "at", "far", "entry"]
theorem sc__law_alone : FnScope N__law_alone ["table", "row", "column"] (defScope s__law_alone) := ⟨rfl, rfl, rfl, by decide +kernel, rfl, by decide +kernel, by decide +kernel⟩
abbrev s__law_due : Stmt := topS 38
abbrev N__law_due : List Str := ["table", "row", "column", "one", "turned_so", "side", "top", "entry", "at", "far"]
theorem sc__law_due : FnScope N__law_due ["table", "row", "column"] (defScope s__law_due) := ⟨rfl, rfl, rfl, by decide +kernel, rfl, by decide +kernel, by decide +kernel⟩
abbrev s_law : Stmt := topS 39
abbrev N_law : List Str := ["script", "index", "digits", "rows", "columns", "whole", "table", "due", "row", "column", "entry", "other", "alone", "found", "values"]
theorem sc_law : FnScope N_law ["script"] (defScope s_law) := ⟨rfl, rfl, rfl, by decide +kernel, rfl, by decide +kernel, by decide +kernel⟩
structure Bi (mg : Str → Option Value) : Prop where
  all_ : mg "all" = none
  enumerate_ : mg "enumerate" = none
  len_ : mg "len" = none
  list_ : mg "list" = none
  range_ : mg "range" = none
  sorted_ : mg "sorted" = none
  tuple_ : mg "tuple" = none
section
variable {P : Program} {w : World} {K : PySem.W.Frag} {mg : Str → Option Value} {base : Heap} {C : Addr}
theorem ok_gcd {f : Addr} {fd : FuncData} (F : Fun K "gcd" "gcd" s_gcd f fd) (B : Bi mg) : FnOk P w K mg base CX0 1 f fd ["one", "other"] (spD K C m_gcd) :=
  have nd := sc_gcd.nd
  fnD (k := 0) F sc_gcd (by decide) fun cdv A outer s H E hr =>
    (dss_cons (ds_while PassesOwn.never (dt_cmp (od_gt hr.units0) (de_var 1) de_int) (dss_one (ds_par 0 1 rfl nd (de_var 1) (de_op od_mod (de_var 0) (de_var 1)))))
      (dss_one (ds_ret (de_var 0))))
theorem ok_lcm {f : Addr} {fd : FuncData} (F : Fun K "lcm" "lcm" s_lcm f fd) (B : Bi mg) (c_gcd : Cal P w K mg base C 1 "gcd" ["one", "other"] m_gcd) : FnOk P w K mg base CX0 2 f fd ["one", "other"] (spD K C m_lcm) :=
  have nd := sc_lcm.nd
  fnD (k := 1) F sc_lcm (by decide) fun cdv A outer s H E hr =>
    (dss_one (ds_ret (de_op od_mul (de_op od_fdiv (de_var 0) (de_call c_gcd hr (by rfl) (da_cons (de_var 0) (da_cons (de_var 1) da_nil)))) (de_var 1))))
theorem ok_prime_factors {f : Addr} {fd : FuncData} (F : Fun K "prime_factors" "prime_factors" s_prime_factors f fd) (B : Bi mg) : FnOk P w K mg base CX0 1 f fd ["number"] (spD K C m_prime_factors) :=
  have nd := sc_prime_factors.nd
  fnD (k := 0) F sc_prime_factors (by decide) fun cdv A outer s H E hr =>
    (dss_cons (ds_parN1 1 2 rfl nd (dn_lst da_nil) de_int)
      (dss_cons (ds_while PassesOwn.never (dt_cmp od_le (de_op od_mul (de_var 2) (de_var 2)) (de_var 0)) (dss_cons (ds_if (dt_cmp (od_eq hr.units) (de_op od_mod (de_var 0) (de_var 2)) de_int) (dss_cons (ds_app 1 (de_var 2))
      (dss_one (ds_while PassesOwn.never (dt_cmp (od_eq hr.units) (de_op od_mod (de_var 0) (de_var 2)) de_int) (dss_one (ds_set 0 nd (de_op od_fdiv (de_var 0) (de_var 2))))))) dss_nil)
      (dss_one (ds_aug 2 nd de_int))))
      (dss_one (ds_frz (O1 := []) 1 (ds_ret (de_if (dt_cmp (od_gt hr.units0) (de_var 0) de_int) (de_op od_add (de_var 1) (de_lst (da_cons (de_var 0) da_nil))) (de_var 1)))))))
theorem ok_exponent {f : Addr} {fd : FuncData} (F : Fun K "exponent" "exponent" s_exponent f fd) (B : Bi mg) : FnOk P w K mg base CX0 1 f fd ["prime", "number"] (spD K C m_exponent) :=
  have nd := sc_exponent.nd
  fnD (k := 0) F sc_exponent (by decide) fun cdv A outer s H E hr =>
    (dss_cons (ds_set 2 nd de_int)
      (dss_cons (ds_while PassesOwn.never (dt_cmp (od_eq hr.units) (de_op od_mod (de_var 1) (de_var 0)) de_int) (dss_one (ds_par 1 2 rfl nd (de_op od_fdiv (de_var 1) (de_var 0)) (de_op od_add (de_var 2) de_int))))
      (dss_one (ds_ret (de_var 2)))))
theorem ok_power {f : Addr} {fd : FuncData} (F : Fun K "power" "power" s_power f fd) (B : Bi mg) : FnOk P w K mg base CX0 1 f fd ["prime", "times"] (spD K C m_power) :=
  have nd := sc_power.nd
  fnD (k := 0) F sc_power (by decide) fun cdv A outer s H E hr =>
    (dss_cons (ds_set 2 nd de_int)
      (dss_cons (ds_for PassesOwn.never rfl (di_rng1 (by rfl) B.range_ (da_cons (de_var 1) da_nil)) (dg_name 3 nd) (dss_one (ds_set 2 nd (de_op od_mul (de_var 2) (de_var 0)))))
      (dss_one (ds_ret (de_var 2)))))
theorem ok_between {f : Addr} {fd : FuncData} (F : Fun K "between" "between" s_between f fd) (B : Bi mg) (c_exponent : Cal P w K mg base C 1 "exponent" ["prime", "number"] m_exponent) (c_power : Cal P w K mg base C 1 "power" ["prime", "times"] m_power) (c_prime_factors : Cal P w K mg base C 1 "prime_factors" ["number"] m_prime_factors) : FnOk P w K mg base CX0 2 f fd ["low", "high"] (spD K C m_between) :=
  have nd := sc_between.nd
  fnD (k := 1) F sc_between (by decide) fun cdv A outer s H E hr =>
    (dss_cons (ds_set 2 nd (de_lst (da_cons (de_var 0) da_nil)))
      (dss_cons (ds_for PassesOwn.never rfl (di_seq (de_call c_prime_factors hr (by rfl) (da_cons (de_op od_fdiv (de_var 1) (de_var 0)) da_nil))) (dg_name 3 nd) (dss_cons (ds_set 4 nd (de_call c_exponent hr (by rfl) (da_cons (de_var 3) (da_cons (de_op od_fdiv (de_var 1) (de_var 0)) da_nil))))
      (dss_one (ds_setLc2 2 (own := [("one", 5), ("number", 6)]) (vs1 := [6]) rfl nd (di_seq (de_var 2)) (blkOk_by (N := N_between) (sc := defScope s_between) (by decide +kernel)) (fun _ _ _ _ _ => (dg_name 5 nd)) (fun _ _ _ _ _ => (di_rng1 (by rfl) B.range_ (da_cons (de_op od_add (de_var 4) de_int) da_nil))) (fun _ _ _ _ _ => (dg_name 6 nd)) (fun _ _ _ _ _ => dts_nil) (fun _ _ _ _ _ => (de_op od_mul (de_var 5) (de_call c_power hr (by rfl) (da_cons (de_var 3) (da_cons (de_var 6) da_nil)))))))))
      (dss_one (ds_ret (de_callB cd_sorted (by rfl) B.sorted_ bt_sorted (da_cons (de_var 2) da_nil))))))
theorem ok_turned {f : Addr} {fd : FuncData} (F : Fun K "turned" "turned" s_turned f fd) (B : Bi mg) : FnOk P w K mg base CX0 1 f fd ["table"] (spD K C m_turned) :=
  have nd := sc_turned.nd
  fnD (k := 0) F sc_turned (by decide) fun cdv A outer s H E hr =>
    (dss_one (ds_ret (de_callTy cd_tuple (by rfl) B.tuple_ bt_tuple (da_cons (de_comp (own := [("column", 1)]) rfl nd (di_rng1 (by rfl) B.range_ (da_cons (de_callB cd_len (by rfl) B.len_ bt_len (da_cons (de_ix ix_d (de_var 0) de_int) da_nil)) da_nil)) (blkOk_by (N := N_turned) (sc := defScope s_turned) (by decide +kernel)) (fun _ _ _ _ _ => (dg_name 1 nd)) (fun _ _ _ _ _ => dts_nil) (fun _ _ _ _ _ => (de_callTy cd_tuple (by rfl) B.tuple_ bt_tuple (da_cons (de_comp (own := [("row", 2)]) rfl nd (di_seq (de_var 0)) (blkOk_by (N := N_turned)  (by with_unfolding_all rfl)) (fun _ _ _ _ _ => (dg_name 2 nd)) (fun _ _ _ _ _ => dts_nil) (fun _ _ _ _ _ => (de_ix ix_d (de_var 2) (de_var 1)))) da_nil)))) da_nil))))
theorem ok_row_divisor {f : Addr} {fd : FuncData} (F : Fun K "row_divisor" "row_divisor" s_row_divisor f fd) (B : Bi mg) (c_gcd : Cal P w K mg base C 1 "gcd" ["one", "other"] m_gcd) : FnOk P w K mg base CX0 2 f fd ["row"] (spD K C m_row_divisor) :=
  have nd := sc_row_divisor.nd
  fnD (k := 1) F sc_row_divisor (by decide) fun cdv A outer s H E hr =>
    (dss_cons (ds_set 1 nd de_int)
      (dss_cons (ds_for PassesOwn.never rfl (di_seq (de_var 0)) (dg_name 2 nd) (dss_one (ds_if (dt_cmp od_isnot (de_var 2) de_non) (dss_one (ds_set 1 nd (de_call c_gcd hr (by rfl) (da_cons (de_var 2) (da_cons (de_var 1) da_nil))))) dss_nil)))
      (dss_one (ds_ret (de_var 1)))))
theorem ok_greatest {f : Addr} {fd : FuncData} (F : Fun K "greatest" "greatest" s_greatest f fd) (B : Bi mg) (c_row_divisor : Cal P w K mg base C 2 "row_divisor" ["row"] m_row_divisor) (c_turned : Cal P w K mg base C 1 "turned" ["table"] m_turned) : FnOk P w K mg base CX0 3 f fd ["table"] (spD K C m_greatest) :=
  have nd := sc_greatest.nd
  fnD (k := 2) F sc_greatest (by decide) fun cdv A outer s H E hr =>
    (dss_one (ds_ret (de_tup (da_cons (de_callTy cd_tuple (by rfl) B.tuple_ bt_tuple (da_cons (de_comp (own := [("row", 1)]) rfl nd (di_seq (de_var 0)) (blkOk_by (N := N_greatest) (sc := defScope s_greatest) (by decide +kernel)) (fun _ _ _ _ _ => (dg_name 1 nd)) (fun _ _ _ _ _ => dts_nil) (fun _ _ _ _ _ => (de_call c_row_divisor hr (by rfl) (da_cons (de_var 1) da_nil)))) da_nil)) (da_cons (de_callTy cd_tuple (by rfl) B.tuple_ bt_tuple (da_cons (de_comp (own := [("row", 1)]) rfl nd (di_seq (de_call c_turned hr (by rfl) (da_cons (de_var 0) da_nil))) (blkOk_by (N := N_greatest) (sc := defScope s_greatest) (by decide +kernel)) (fun _ _ _ _ _ => (dg_name 1 nd)) (fun _ _ _ _ _ => dts_nil) (fun _ _ _ _ _ => (de_call c_row_divisor hr (by rfl) (da_cons (de_var 1) da_nil)))) da_nil)) da_nil)))))
theorem ok_known_places {f : Addr} {fd : FuncData} (F : Fun K "known_places" "known_places" s_known_places f fd) (B : Bi mg) : FnOk P w K mg base CX0 1 f fd ["table"] (spD K C m_known_places) :=
  have nd := sc_known_places.nd
  fnD (k := 0) F sc_known_places (by decide) fun cdv A outer s H E hr =>
    (dss_cons (ds_set 1 nd (de_lst da_nil))
      (dss_cons (ds_for PassesOwn.never rfl (di_rng1 (by rfl) B.range_ (da_cons (de_callB cd_len (by rfl) B.len_ bt_len (da_cons (de_var 0) da_nil)) da_nil)) (dg_name 2 nd) (dss_one (ds_set 1 nd (de_op od_add (de_var 1) (de_comp (own := [("column", 3)]) rfl nd (di_rng1 (by rfl) B.range_ (da_cons (de_callB cd_len (by rfl) B.len_ bt_len (da_cons (de_ix ix_d (de_var 0) de_int) da_nil)) da_nil)) (blkOk_by (N := N_known_places) (sc := defScope s_known_places) (by decide +kernel)) (fun _ _ _ _ _ => (dg_name 3 nd)) (fun _ _ _ _ _ => (dts_one (dt_cmp od_isnot (de_ix ix_d (de_ix ix_d (de_var 0) (de_var 2)) (de_var 3)) de_non))) (fun _ _ _ _ _ => (de_tup (da_cons (de_var 2) (da_cons (de_var 3) da_nil)))))))))
      (dss_one (ds_ret (de_var 1)))))
theorem ok_is_real {f : Addr} {fd : FuncData} (F : Fun K "is_real" "is_real" s_is_real f fd) (B : Bi mg) (c_greatest : Cal P w K mg base C 3 "greatest" ["table"] m_greatest) (c_known_places : Cal P w K mg base C 1 "known_places" ["table"] m_known_places) (c_lcm : Cal P w K mg base C 2 "lcm" ["one", "other"] m_lcm) : FnOk P w K mg base CX0 4 f fd ["table"] (spD K C m_is_real) :=
  have nd := sc_is_real.nd
  fnD (k := 3) F sc_is_real (by decide) fun cdv A outer s H E hr =>
    (dss_cons (ds_asg (de_call c_greatest hr (by rfl) (da_cons (de_var 0) da_nil)) (dg_tup rfl (dg_cons (dg_name 1 nd) (dg_cons (dg_name 2 nd) dg_nil)) (gl1 (gl1 gl0))))
      (dss_one (ds_ret (de_callB (cd_all rfl) (by rfl) B.all_ bt_all (da_cons (de_comp (own := [("row", 3), ("column", 4)]) rfl nd (di_seq (de_call c_known_places hr (by rfl) (da_cons (de_var 0) da_nil))) (blkOk_by (N := N_is_real) (sc := defScope s_is_real) (by decide +kernel)) (fun _ _ _ _ _ => (dg_tup rfl (dg_cons (dg_name 3 nd) (dg_cons (dg_name 4 nd) dg_nil)) (gl1 (gl1 gl0)))) (fun _ _ _ _ _ => dts_nil) (fun _ _ _ _ _ => (de_cmp (od_eq hr.units) (de_call c_lcm hr (by rfl) (da_cons (de_ix ix_d (de_var 1) (de_var 3)) (da_cons (de_ix ix_d (de_var 2) (de_var 4)) da_nil))) (de_ix ix_d (de_ix ix_d (de_var 0) (de_var 3)) (de_var 4))))) da_nil)))))
theorem ok_without {f : Addr} {fd : FuncData} (F : Fun K "without" "without" s_without f fd) (B : Bi mg) : FnOk P w K mg base CX0 1 f fd ["table", "places"] (spD K C m_without) :=
  have nd := sc_without.nd
  fnD (k := 0) F sc_without (by decide) fun cdv A outer s H E hr =>
    (dss_cons (ds_setN 2 nd (dn_lst da_nil))
      (dss_cons (ds_for PassesOwn.never rfl (di_rng1 (by rfl) B.range_ (da_cons (de_callB cd_len (by rfl) B.len_ bt_len (da_cons (de_var 0) da_nil)) da_nil)) (dg_name 3 nd) (dss_cons (ds_setLc 4 (own := [("column", 5)]) rfl nd (di_rng1 (by rfl) B.range_ (da_cons (de_callB cd_len (by rfl) B.len_ bt_len (da_cons (de_ix ix_d (de_var 0) de_int) da_nil)) da_nil)) (blkOk_by (N := N_without) (sc := defScope s_without) (by decide +kernel)) (fun _ _ _ _ _ => (dg_name 5 nd)) (fun _ _ _ _ _ => dts_nil) (fun _ _ _ _ _ => (de_if (dt_cmp (od_in (hu65 hr)) (de_tup (da_cons (de_var 3) (da_cons (de_var 5) da_nil))) (de_var 1)) de_non (de_ix ix_d (de_ix ix_d (de_var 0) (de_var 3)) (de_var 5)))))
      (dss_one (ds_app 2 (de_callTy cd_tuple (by rfl) B.tuple_ bt_tuple (da_cons (de_var 4) da_nil))))))
      (dss_one (ds_frz (O1 := []) 2 (ds_ret (de_callTy cd_tuple (by rfl) B.tuple_ bt_tuple (da_cons (de_var 2) da_nil)))))))
theorem ok_all_primes {f : Addr} {fd : FuncData} (F : Fun K "all_primes" "all_primes" s_all_primes f fd) (B : Bi mg) (c_known_places : Cal P w K mg base C 1 "known_places" ["table"] m_known_places) (c_prime_factors : Cal P w K mg base C 1 "prime_factors" ["number"] m_prime_factors) : FnOk P w K mg base CX0 2 f fd ["table"] (spD K C m_all_primes) :=
  have nd := sc_all_primes.nd
  fnD (k := 1) F sc_all_primes (by decide) fun cdv A outer s H E hr =>
    (dss_cons (ds_set 1 nd (de_lst da_nil))
      (dss_cons (ds_for PassesOwn.never rfl (di_seq (de_call c_known_places hr (by rfl) (da_cons (de_var 0) da_nil))) (dg_tup rfl (dg_cons (dg_name 2 nd) (dg_cons (dg_name 3 nd) dg_nil)) (gl1 (gl1 gl0))) (dss_one (ds_set 1 nd (de_op od_add (de_var 1) (de_comp (own := [("prime", 4)]) rfl nd (di_seq (de_call c_prime_factors hr (by rfl) (da_cons (de_ix ix_d (de_ix ix_d (de_var 0) (de_var 2)) (de_var 3)) da_nil))) (blkOk_by (N := N_all_primes) (sc := defScope s_all_primes) (by decide +kernel)) (fun _ _ _ _ _ => (dg_name 4 nd)) (fun _ _ _ _ _ => (dts_one (dt_cmp (od_notIn (hu65 hr)) (de_var 4) (de_var 1)))) (fun _ _ _ _ _ => (de_var 4)))))))
      (dss_one (ds_ret (de_callB cd_sorted (by rfl) B.sorted_ bt_sorted (da_cons (de_var 1) da_nil))))))
theorem ok_sure {f : Addr} {fd : FuncData} (F : Fun K "sure" "sure" s_sure f fd) (B : Bi mg) (c_all_primes : Cal P w K mg base C 2 "all_primes" ["table"] m_all_primes) (c_exponent : Cal P w K mg base C 1 "exponent" ["prime", "number"] m_exponent) (c_greatest : Cal P w K mg base C 3 "greatest" ["table"] m_greatest) (c_known_places : Cal P w K mg base C 1 "known_places" ["table"] m_known_places) (c_lcm : Cal P w K mg base C 2 "lcm" ["one", "other"] m_lcm) (c_power : Cal P w K mg base C 1 "power" ["prime", "times"] m_power) : FnOk P w K mg base CX0 4 f fd ["table"] (spD K C m_sure) :=
  have nd := sc_sure.nd
  fnD (k := 3) F sc_sure (by decide) fun cdv A outer s H E hr =>
    (dss_cons (ds_parNN 1 2 rfl nd (dn_rep (de_lst (da_cons de_int da_nil)) (de_callB cd_len (by rfl) B.len_ bt_len (da_cons (de_var 0) da_nil))) (dn_rep (de_lst (da_cons de_int da_nil)) (de_callB cd_len (by rfl) B.len_ bt_len (da_cons (de_ix ix_d (de_var 0) de_int) da_nil))))
      (dss_cons (ds_asg (de_call c_greatest hr (by rfl) (da_cons (de_var 0) da_nil)) (dg_tup rfl (dg_cons (dg_name 3 nd) (dg_cons (dg_name 4 nd) dg_nil)) (gl1 (gl1 gl0))))
      (dss_cons (ds_for PassesOwn.never rfl (di_seq (de_call c_all_primes hr (by rfl) (da_cons (de_var 0) da_nil))) (dg_name 5 nd) (dss_one (ds_for PassesOwn.never rfl (di_seq (de_call c_known_places hr (by rfl) (da_cons (de_var 0) da_nil))) (dg_tup rfl (dg_cons (dg_name 6 nd) (dg_cons (dg_name 7 nd) dg_nil)) (gl1 (gl1 gl0))) (dss_cons (ds_set 8 nd (de_call c_exponent hr (by rfl) (da_cons (de_var 5) (da_cons (de_ix ix_d (de_ix ix_d (de_var 0) (de_var 6)) (de_var 7)) da_nil))))
      (dss_cons (ds_if (dt_cmp (od_lt hr.units0) (de_call c_exponent hr (by rfl) (da_cons (de_var 5) (da_cons (de_ix ix_d (de_var 4) (de_var 7)) da_nil))) (de_var 8)) (dss_one (ds_setIx 1 (de_call c_lcm hr (by rfl) (da_cons (de_ownIx 1 (de_var 6)) (da_cons (de_call c_power hr (by rfl) (da_cons (de_var 5) (da_cons (de_var 8) da_nil))) da_nil))) (de_var 6))) dss_nil)
      (dss_one (ds_if (dt_cmp (od_lt hr.units0) (de_call c_exponent hr (by rfl) (da_cons (de_var 5) (da_cons (de_ix ix_d (de_var 3) (de_var 6)) da_nil))) (de_var 8)) (dss_one (ds_setIx 2 (de_call c_lcm hr (by rfl) (da_cons (de_ownIx 2 (de_var 7)) (da_cons (de_call c_power hr (by rfl) (da_cons (de_var 5) (da_cons (de_var 8) da_nil))) da_nil))) (de_var 7))) dss_nil)))))))
      (dss_one (ds_frz (O1 := [1]) 2 (ds_frz (O1 := []) 1 (ds_ret (de_tup (da_cons (de_callTy cd_tuple (by rfl) B.tuple_ bt_tuple (da_cons (de_var 1) da_nil)) (da_cons (de_callTy cd_tuple (by rfl) B.tuple_ bt_tuple (da_cons (de_var 2) da_nil)) da_nil))))))))))
theorem ok_entry_values {f : Addr} {fd : FuncData} (F : Fun K "entry_values" "entry_values" s_entry_values f fd) (B : Bi mg) (c_between : Cal P w K mg base C 2 "between" ["low", "high"] m_between) (c_greatest : Cal P w K mg base C 3 "greatest" ["table"] m_greatest) (c_lcm : Cal P w K mg base C 2 "lcm" ["one", "other"] m_lcm) (c_sure : Cal P w K mg base C 4 "sure" ["table"] m_sure) : FnOk P w K mg base CX0 5 f fd ["table", "row", "column"] (spD K C m_entry_values) :=
  have nd := sc_entry_values.nd
  fnD (k := 4) F sc_entry_values (by decide) fun cdv A outer s H E hr =>
    (dss_cons (ds_asg (de_call c_greatest hr (by rfl) (da_cons (de_var 0) da_nil)) (dg_tup rfl (dg_cons (dg_name 3 nd) (dg_cons (dg_name 4 nd) dg_nil)) (gl1 (gl1 gl0))))
      (dss_cons (ds_if (dt_cmp od_isnot (de_ix ix_d (de_ix ix_d (de_var 0) (de_var 1)) (de_var 2)) de_non) (dss_one (ds_ret (de_lst (da_cons (de_ix ix_d (de_ix ix_d (de_var 0) (de_var 1)) (de_var 2)) da_nil)))) dss_nil)
      (dss_cons (ds_if (dt_w (dw_or (dt_cmp (od_eq hr.units) (de_ix ix_d (de_var 3) (de_var 1)) de_int) (dw_or1 (dt_cmp (od_eq hr.units) (de_ix ix_d (de_var 4) (de_var 2)) de_int)))) (dss_one (ds_ret de_non)) dss_nil)
      (dss_cons (ds_asg (de_call c_sure hr (by rfl) (da_cons (de_var 0) da_nil)) (dg_tup rfl (dg_cons (dg_name 5 nd) (dg_cons (dg_name 6 nd) dg_nil)) (gl1 (gl1 gl0))))
      (dss_one (ds_ret (de_call c_between hr (by rfl) (da_cons (de_call c_lcm hr (by rfl) (da_cons (de_ix ix_d (de_var 5) (de_var 1)) (da_cons (de_ix ix_d (de_var 6) (de_var 2)) da_nil))) (da_cons (de_call c_lcm hr (by rfl) (da_cons (de_ix ix_d (de_var 3) (de_var 1)) (da_cons (de_ix ix_d (de_var 4) (de_var 2)) da_nil))) da_nil)))))))))
theorem ok_single_mends {f : Addr} {fd : FuncData} (F : Fun K "single_mends" "single_mends" s_single_mends f fd) (B : Bi mg) (c_entry_values : Cal P w K mg base C 5 "entry_values" ["table", "row", "column"] m_entry_values) (c_is_real : Cal P w K mg base C 4 "is_real" ["table"] m_is_real) (c_known_places : Cal P w K mg base C 1 "known_places" ["table"] m_known_places) (c_without : Cal P w K mg base C 1 "without" ["table", "places"] m_without) : FnOk P w K mg base CX0 6 f fd ["table"] (spD K C m_single_mends) :=
  have nd := sc_single_mends.nd
  fnD (k := 5) F sc_single_mends (by decide) fun cdv A outer s H E hr =>
    (dss_cons (ds_setN 1 nd (dn_lst da_nil))
      (dss_cons (ds_for PassesOwn.never rfl (di_seq (de_call c_known_places hr (by rfl) (da_cons (de_var 0) da_nil))) (dg_tup rfl (dg_cons (dg_name 2 nd) (dg_cons (dg_name 3 nd) dg_nil)) (gl1 (gl1 gl0))) (dss_cons (ds_set 4 nd (de_call c_without hr (by rfl) (da_cons (de_var 0) (da_cons (de_lst (da_cons (de_tup (da_cons (de_var 2) (da_cons (de_var 3) da_nil))) da_nil)) da_nil))))
      (dss_one (ds_if (dt_val (de_call c_is_real hr (by rfl) (da_cons (de_var 4) da_nil))) (dss_one (ds_app 1 (de_tup (da_cons (de_var 2) (da_cons (de_var 3) (da_cons (de_call c_entry_values hr (by rfl) (da_cons (de_var 4) (da_cons (de_var 2) (da_cons (de_var 3) da_nil)))) da_nil)))))) dss_nil))))
      (dss_one (ds_frz (O1 := []) 1 (ds_ret (de_var 1))))))
theorem ok__law_cell {f : Addr} {fd : FuncData} (F : Fun K "_law_cell" "_law_cell" s__law_cell f fd) (B : Bi mg) : FnOk P w K mg base CX0 1 f fd ["script", "index"] (spD K C m_law_cell) :=
  have nd := sc__law_cell.nd
  fnD (k := 0) F sc__law_cell (by decide) fun cdv A outer s H E hr =>
    (dss_cons (ds_if (dt_cmp (od_lt hr.units0) (de_var 1) (de_callB cd_len (by rfl) B.len_ bt_len (da_cons (de_var 0) da_nil))) (dss_one (ds_ret (de_ix ix_d (de_var 0) (de_var 1)))) dss_nil)
      (dss_cons (ds_if (dt_cmp (od_eq hr.units) (de_callB cd_len (by rfl) B.len_ bt_len (da_cons (de_var 0) da_nil)) de_int) (dss_one (ds_ret (de_op od_add (de_op od_mul de_int (de_var 1)) de_int))) dss_nil)
      (dss_one (ds_ret (de_op od_add (de_op od_mod (de_ix ix_d (de_var 0) (de_op od_mod (de_var 1) (de_callB cd_len (by rfl) B.len_ bt_len (da_cons (de_var 0) da_nil)))) de_int) (de_op od_mul de_int (de_var 1)))))))
theorem ok__law_digits {f : Addr} {fd : FuncData} (F : Fun K "_law_digits" "_law_digits" s__law_digits f fd) (B : Bi mg) (c__law_cell : Cal P w K mg base C 1 "_law_cell" ["script", "index"] m_law_cell) : FnOk P w K mg base CX0 2 f fd ["script", "index", "count", "base"] (spD K C m_law_digits) :=
  have nd := sc__law_digits.nd
  fnD (k := 1) F sc__law_digits (by decide) fun cdv A outer s H E hr =>
    (dss_cons (ds_set 4 nd (de_tup (da_cons de_int (da_cons de_int (da_cons de_int (da_cons de_int (da_cons de_int (da_cons de_int (da_cons de_int (da_cons de_int da_nil))))))))))
      (dss_cons (ds_set 5 nd (de_call c__law_cell hr (by rfl) (da_cons (de_var 0) (da_cons (de_var 1) da_nil))))
      (dss_cons (ds_set 6 nd (de_if (dt_cmp od_ge (de_var 5) (de_op od_pow de_int de_int)) (de_var 5) de_int))
      (dss_cons (ds_setN 7 nd (dn_lst da_nil))
      (dss_cons (ds_for PassesOwn.never rfl (di_rng1 (by rfl) B.range_ (da_cons (de_var 2) da_nil)) (dg_name 8 nd) (dss_cons (ds_set 9 nd (de_op od_mul (de_op od_mod (de_var 5) (de_ix ix_d (de_var 4) (de_op od_mod (de_var 8) de_int))) (de_op od_add de_int (de_op od_mul (de_op od_mul de_int (de_var 8)) (de_var 8)))))
      (dss_cons (ds_set 9 nd (de_op od_add (de_op od_add (de_var 9) (de_op od_mul (de_op od_mul de_int (de_op od_add (de_var 8) de_int)) (de_op od_add (de_var 8) de_int))) (de_op od_mul de_int (de_var 1))))
      (dss_cons (ds_set 9 nd (de_op od_mod (de_var 9) (de_ix ix_d (de_var 4) (de_op od_mod (de_op od_add (de_op od_mul de_int (de_var 8)) (de_var 1)) de_int))))
      (dss_cons (ds_set 9 nd (de_op od_mod (de_op od_mul (de_op od_mul (de_var 9) (de_var 9)) (de_var 9)) (de_ix ix_d (de_var 4) (de_op od_mod (de_op od_add (de_var 8) de_int) de_int))))
      (dss_cons (ds_if (dt_cmp (od_gt hr.units0) (de_var 6) de_int) (dss_one (ds_set 9 nd (de_var 6))) dss_nil)
      (dss_cons (ds_app 7 (de_op od_mod (de_var 9) (de_var 3)))
      (dss_one (ds_set 6 nd (de_op od_fdiv (de_var 6) (de_var 3)))))))))))
      (dss_one (ds_frz (O1 := []) 7 (ds_ret (de_var 7)))))))))
theorem ok__law_gcd {f : Addr} {fd : FuncData} (F : Fun K "_law_gcd" "_law_gcd" s__law_gcd f fd) (B : Bi mg) : FnOk P w K mg base CX0 1 f fd ["one", "other"] (spD K C m_law_gcd) :=
  have nd := sc__law_gcd.nd
  fnD (k := 0) F sc__law_gcd (by decide) fun cdv A outer s H E hr =>
    (dss_cons (ds_while PassesOwn.never (dt_cmp (od_gt hr.units0) (de_var 1) de_int) (dss_one (ds_par 0 1 rfl nd (de_var 1) (de_op od_mod (de_var 0) (de_var 1)))))
      (dss_one (ds_ret (de_var 0))))
theorem ok__law_lcm {f : Addr} {fd : FuncData} (F : Fun K "_law_lcm" "_law_lcm" s__law_lcm f fd) (B : Bi mg) (c__law_gcd : Cal P w K mg base C 1 "_law_gcd" ["one", "other"] m_law_gcd) : FnOk P w K mg base CX0 2 f fd ["one", "other"] (spD K C m_law_lcm) :=
  have nd := sc__law_lcm.nd
  fnD (k := 1) F sc__law_lcm (by decide) fun cdv A outer s H E hr =>
    (dss_one (ds_ret (de_op od_fdiv (de_op od_mul (de_var 0) (de_var 1)) (de_call c__law_gcd hr (by rfl) (da_cons (de_var 0) (da_cons (de_var 1) da_nil))))))
theorem ok__law_divisors {f : Addr} {fd : FuncData} (F : Fun K "_law_divisors" "_law_divisors" s__law_divisors f fd) (B : Bi mg) : FnOk P w K mg base CX0 1 f fd ["number"] (spD K C m_law_divisors) :=
  have nd := sc__law_divisors.nd
  fnD (k := 0) F sc__law_divisors (by decide) fun cdv A outer s H E hr =>
    (dss_one (ds_ret (de_comp (own := [("one", 1)]) rfl nd (di_rng2 (by rfl) B.range_ (da_cons de_int (da_cons (de_op od_add (de_var 0) de_int) da_nil))) (blkOk_by (N := N__law_divisors) (sc := defScope s__law_divisors) (by decide +kernel)) (fun _ _ _ _ _ => (dg_name 1 nd)) (fun _ _ _ _ _ => (dts_one (dt_cmp (od_eq hr.units) (de_op od_mod (de_var 0) (de_var 1)) de_int))) (fun _ _ _ _ _ => (de_var 1)))))
theorem ok__law_numbers {f : Addr} {fd : FuncData} (F : Fun K "_law_numbers" "_law_numbers" s__law_numbers f fd) (B : Bi mg) : FnOk P w K mg base CX0 1 f fd ["digits", "many", "wide"] (spD K C m_law_numbers) :=
  have nd := sc__law_numbers.nd
  fnD (k := 0) F sc__law_numbers (by decide) fun cdv A outer s H E hr =>
    (dss_cons (ds_set 3 nd (de_lst (da_cons de_int (da_cons de_int (da_cons de_int (da_cons de_int (da_cons de_int (da_cons de_int (da_cons de_int (da_cons de_int (da_cons de_int (da_cons de_int (da_cons de_int (da_cons de_int da_nil))))))))))))))
      (dss_cons (ds_set 4 nd (de_ix ix_d (de_lst (da_cons de_int (da_cons de_int (da_cons de_int da_nil)))) (de_op od_mod (de_ix ix_d (de_var 0) de_int) de_int)))
      (dss_cons (ds_set 5 nd (de_callTy cd_tuple (by rfl) B.tuple_ bt_tuple (da_cons (de_comp (own := [("k", 6)]) rfl nd (di_rng1 (by rfl) B.range_ (da_cons (de_var 1) da_nil)) (blkOk_by (N := N__law_numbers) (sc := defScope s__law_numbers) (by decide +kernel)) (fun _ _ _ _ _ => (dg_name 6 nd)) (fun _ _ _ _ _ => dts_nil) (fun _ _ _ _ _ => (de_ix ix_d (de_var 3) (de_op od_mod (de_ix ix_d (de_var 0) (de_op od_add de_int (de_var 6))) (de_var 4))))) da_nil)))
      (dss_one (ds_ret (de_tup (da_cons (de_var 5) (da_cons (de_callTy cd_tuple (by rfl) B.tuple_ bt_tuple (da_cons (de_comp (own := [("k", 6)]) rfl nd (di_rng1 (by rfl) B.range_ (da_cons (de_var 2) da_nil)) (blkOk_by (N := N__law_numbers) (sc := defScope s__law_numbers) (by decide +kernel)) (fun _ _ _ _ _ => (dg_name 6 nd)) (fun _ _ _ _ _ => dts_nil) (fun _ _ _ _ _ => (de_ix ix_d (de_var 3) (de_op od_mod (de_ix ix_d (de_var 0) (de_op od_add de_int (de_var 6))) (de_var 4))))) da_nil)) da_nil))))))))
theorem ok__law_table {f : Addr} {fd : FuncData} (F : Fun K "_law_table" "_law_table" s__law_table f fd) (B : Bi mg) (c__law_lcm : Cal P w K mg base C 2 "_law_lcm" ["one", "other"] m_law_lcm) : FnOk P w K mg base CX0 3 f fd ["rows", "columns"] (spD K C m_law_table) :=
  have nd := sc__law_table.nd
  fnD (k := 2) F sc__law_table (by decide) fun cdv A outer s H E hr =>
    (dss_one (ds_ret (de_callTy cd_tuple (by rfl) B.tuple_ bt_tuple (da_cons (de_comp (own := [("one", 2)]) rfl nd (di_seq (de_var 0)) (blkOk_by (N := N__law_table) (sc := defScope s__law_table) (by decide +kernel)) (fun _ _ _ _ _ => (dg_name 2 nd)) (fun _ _ _ _ _ => dts_nil) (fun _ _ _ _ _ => (de_callTy cd_tuple (by rfl) B.tuple_ bt_tuple (da_cons (de_comp (own := [("other", 3)]) rfl nd (di_seq (de_var 1)) (blkOk_by (N := N__law_table)  (by with_unfolding_all rfl)) (fun _ _ _ _ _ => (dg_name 3 nd)) (fun _ _ _ _ _ => dts_nil) (fun _ _ _ _ _ => (de_call c__law_lcm hr (by rfl) (da_cons (de_var 2) (da_cons (de_var 3) da_nil))))) da_nil)))) da_nil))))
theorem ok__law_hidden {f : Addr} {fd : FuncData} (F : Fun K "_law_hidden" "_law_hidden" s__law_hidden f fd) (B : Bi mg) : FnOk P w K mg base CX0 1 f fd ["table", "digits", "often"] (spD K C m_law_hidden) :=
  have nd := sc__law_hidden.nd
  fnD (k := 0) F sc__law_hidden (by decide) fun cdv A outer s H E hr =>
    (dss_cons (ds_parN1 3 4 rfl nd (dn_lst da_nil) de_int)
      (dss_cons (ds_for PassesOwn.never rfl (di_seq (de_var 0)) (dg_name 5 nd) (dss_cons (ds_setN 6 nd (dn_lst da_nil))
      (dss_cons (ds_for PassesOwn.never rfl (di_seq (de_var 5)) (dg_name 7 nd) (dss_cons (ds_app 6 (de_if (dt_cmp (od_eq hr.units) (de_op od_mod (de_ix ix_d (de_var 1) (de_op od_mod (de_var 4) (de_callB cd_len (by rfl) B.len_ bt_len (da_cons (de_var 1) da_nil)))) (de_var 2)) de_int) de_non (de_var 7)))
      (dss_one (ds_set 4 nd (de_op od_add (de_var 4) de_int)))))
      (dss_one (ds_frz (O1 := [3]) 6 (ds_app 3 (de_callTy cd_tuple (by rfl) B.tuple_ bt_tuple (da_cons (de_var 6) da_nil))))))))
      (dss_one (ds_frz (O1 := []) 3 (ds_ret (de_callTy cd_tuple (by rfl) B.tuple_ bt_tuple (da_cons (de_var 3) da_nil)))))))
theorem ok__law_spoilt {f : Addr} {fd : FuncData} (F : Fun K "_law_spoilt" "_law_spoilt" s__law_spoilt f fd) (B : Bi mg) : FnOk P w K mg base CX0 1 f fd ["table", "digits"] (spD K C m_law_spoilt) :=
  have nd := sc__law_spoilt.nd
  fnD (k := 0) F sc__law_spoilt (by decide) fun cdv A outer s H E hr =>
    (dss2_in (O' := []) (ro_seq (ro_seq ro_ret)) (ds2_in 2 3 rfl nd (di_seq (de_var 0)) (blkOk_by (N := N__law_spoilt) (sc := defScope s__law_spoilt) (by decide +kernel)) (fun _ _ _ _ _ => (dg_name 3 nd)) (fun _ _ _ _ _ => (dn_of (by rfl) B.list_ (de_var 3))))
      (dss2_cons (ds2_par 3 4 rfl nd (de_op od_mod (de_ix ix_d (de_var 1) de_int) (de_callB cd_len (by rfl) B.len_ bt_len (da_cons (de_var 2) da_nil))) (de_op od_mod (de_ix ix_d (de_var 1) de_int) (de_callB cd_len (by rfl) B.len_ bt_len (da_cons (de_ix ix_d (de_var 2) de_int) da_nil))))
      (dss2_cons (ds2_if (dt_cmp od_isnot (de_ix ix_d (de_ix ix_d (de_var 2) (de_var 3)) (de_var 4)) de_non) (dss2_one (ds2_put (de_ix ix_d (de_lst (da_cons de_int (da_cons de_int (da_cons de_int (da_cons de_int (da_cons de_int (da_cons de_int (da_cons (de_op od_mul (de_ix ix_d (de_ix ix_d (de_var 2) (de_var 3)) (de_var 4)) de_int) (da_cons (de_op od_mul (de_ix ix_d (de_ix ix_d (de_var 2) (de_var 3)) (de_var 4)) de_int) da_nil))))))))) (de_op od_mod (de_ix ix_d (de_var 1) de_int) de_int)) (de_var 3) (de_var 4))) dss2_nil)
      (dss2_end (O' := []) ro_ret (dss_one (ds_ret (de_callTy cd_tuple (by rfl) B.tuple_ bt_tuple (da_cons (de_comp (own := [("row", 3)]) rfl nd (di_seq (de_var 2)) (blkOk_by (N := N__law_spoilt) (sc := defScope s__law_spoilt) (by decide +kernel)) (fun _ _ _ _ _ => (dg_name 3 nd)) (fun _ _ _ _ _ => dts_nil) (fun _ _ _ _ _ => (de_callTy cd_tuple (by rfl) B.tuple_ bt_tuple (da_cons (de_var 3) da_nil)))) da_nil))))))))
theorem ok__law_known {f : Addr} {fd : FuncData} (F : Fun K "_law_known" "_law_known" s__law_known f fd) (B : Bi mg) : FnOk P w K mg base CX0 1 f fd ["table"] (spD K C m_law_known) :=
  have nd := sc__law_known.nd
  fnD (k := 0) F sc__law_known (by decide) fun cdv A outer s H E hr =>
    (dss_cons (ds_set 1 nd (de_lst da_nil))
      (dss_cons (ds_for PassesOwn.never rfl (di_enum (by rfl) B.enumerate_ (da_cons (de_var 0) da_nil)) (dg_tup rfl (dg_cons (dg_name 2 nd) (dg_cons (dg_name 3 nd) dg_nil)) (gl1 (gl1 gl0))) (dss_one (ds_set 1 nd (de_op od_add (de_var 1) (de_comp (own := [("column", 4), ("entry", 5)]) rfl nd (di_enum (by rfl) B.enumerate_ (da_cons (de_var 3) da_nil)) (blkOk_by (N := N__law_known) (sc := defScope s__law_known) (by decide +kernel)) (fun _ _ _ _ _ => (dg_tup rfl (dg_cons (dg_name 4 nd) (dg_cons (dg_name 5 nd) dg_nil)) (gl1 (gl1 gl0)))) (fun _ _ _ _ _ => (dts_one (dt_cmp od_isnot (de_var 5) de_non))) (fun _ _ _ _ _ => (de_tup (da_cons (de_var 2) (da_cons (de_var 4) (da_cons (de_var 5) da_nil))))))))))
      (dss_one (ds_ret (de_var 1)))))
theorem ok__law_fits {f : Addr} {fd : FuncData} (F : Fun K "_law_fits" "_law_fits" s__law_fits f fd) (B : Bi mg) (c__law_known : Cal P w K mg base C 1 "_law_known" ["table"] m_law_known) (c__law_lcm : Cal P w K mg base C 2 "_law_lcm" ["one", "other"] m_law_lcm) : FnOk P w K mg base CX0 3 f fd ["table", "rows", "columns"] (spD K C m_law_fits) :=
  have nd := sc__law_fits.nd
  fnD (k := 2) F sc__law_fits (by decide) fun cdv A outer s H E hr =>
    (dss_one (ds_ret (de_cmp (od_eq hr.units) (de_comp (own := [("row", 3), ("column", 4), ("entry", 5)]) rfl nd (di_seq (de_call c__law_known hr (by rfl) (da_cons (de_var 0) da_nil))) (blkOk_by (N := N__law_fits) (sc := defScope s__law_fits) (by decide +kernel)) (fun _ _ _ _ _ => (dg_tup rfl (dg_cons (dg_name 3 nd) (dg_cons (dg_name 4 nd) (dg_cons (dg_name 5 nd) dg_nil))) (gl1 (gl1 (gl1 gl0))))) (fun _ _ _ _ _ => (dts_one (dt_cmp (od_ne hr.units) (de_call c__law_lcm hr (by rfl) (da_cons (de_ix ix_d (de_var 1) (de_var 3)) (da_cons (de_ix ix_d (de_var 2) (de_var 4)) da_nil))) (de_var 5)))) (fun _ _ _ _ _ => de_int)) (de_lst da_nil))))
theorem ok__law_common {f : Addr} {fd : FuncData} (F : Fun K "_law_common" "_law_common" s__law_common f fd) (B : Bi mg) (c__law_gcd : Cal P w K mg base C 1 "_law_gcd" ["one", "other"] m_law_gcd) : FnOk P w K mg base CX0 2 f fd ["entries"] (spD K C m_law_common) :=
  have nd := sc__law_common.nd
  fnD (k := 1) F sc__law_common (by decide) fun cdv A outer s H E hr =>
    (dss_cons (ds_set 1 nd de_int)
      (dss_cons (ds_for PassesOwn.never rfl (di_seq (de_var 0)) (dg_name 2 nd) (dss_one (ds_set 1 nd (de_if (dt_cmp (od_gt hr.units0) (de_var 1) de_int) (de_call c__law_gcd hr (by rfl) (da_cons (de_var 2) (da_cons (de_var 1) da_nil))) (de_var 2)))))
      (dss_one (ds_ret (de_var 1)))))
theorem ok__law_real {f : Addr} {fd : FuncData} (F : Fun K "_law_real" "_law_real" s__law_real f fd) (B : Bi mg) (c__law_common : Cal P w K mg base C 2 "_law_common" ["entries"] m_law_common) (c__law_fits : Cal P w K mg base C 3 "_law_fits" ["table", "rows", "columns"] m_law_fits) (c__law_known : Cal P w K mg base C 1 "_law_known" ["table"] m_law_known) : FnOk P w K mg base CX0 4 f fd ["table"] (spD K C m_law_real) :=
  have nd := sc__law_real.nd
  fnD (k := 3) F sc__law_real (by decide) fun cdv A outer s H E hr =>
    (dss_cons (ds_set 1 nd (de_call c__law_known hr (by rfl) (da_cons (de_var 0) da_nil)))
      (dss_cons (ds_setLc 2 (own := [("row", 4)]) rfl nd (di_rng1 (by rfl) B.range_ (da_cons (de_callB cd_len (by rfl) B.len_ bt_len (da_cons (de_var 0) da_nil)) da_nil)) (blkOk_by (N := N__law_real) (sc := defScope s__law_real) (by decide +kernel)) (fun _ _ _ _ _ => (dg_name 4 nd)) (fun _ _ _ _ _ => dts_nil) (fun _ _ _ _ _ => (de_call c__law_common hr (by rfl) (da_cons (de_comp (own := [("at", 6), ("column", 5), ("entry", 7)]) rfl nd (di_seq (de_var 1)) (blkOk_by (N := N__law_real)  (by with_unfolding_all rfl)) (fun _ _ _ _ _ => (dg_tup rfl (dg_cons (dg_name 6 nd) (dg_cons (dg_name 5 nd) (dg_cons (dg_name 7 nd) dg_nil))) (gl1 (gl1 (gl1 gl0))))) (fun _ _ _ _ _ => (dts_one (dt_cmp (od_eq hr.units) (de_var 6) (de_var 4)))) (fun _ _ _ _ _ => (de_var 7))) da_nil))))
      (dss_cons (ds_setLc 3 (own := [("column", 5)]) rfl nd (di_rng1 (by rfl) B.range_ (da_cons (de_callB cd_len (by rfl) B.len_ bt_len (da_cons (de_ix ix_d (de_var 0) de_int) da_nil)) da_nil)) (blkOk_by (N := N__law_real) (sc := defScope s__law_real) (by decide +kernel)) (fun _ _ _ _ _ => (dg_name 5 nd)) (fun _ _ _ _ _ => dts_nil) (fun _ _ _ _ _ => (de_call c__law_common hr (by rfl) (da_cons (de_comp (own := [("row", 4), ("at", 6), ("entry", 7)]) rfl nd (di_seq (de_var 1)) (blkOk_by (N := N__law_real)  (by with_unfolding_all rfl)) (fun _ _ _ _ _ => (dg_tup rfl (dg_cons (dg_name 4 nd) (dg_cons (dg_name 6 nd) (dg_cons (dg_name 7 nd) dg_nil))) (gl1 (gl1 (gl1 gl0))))) (fun _ _ _ _ _ => (dts_one (dt_cmp (od_eq hr.units) (de_var 6) (de_var 5)))) (fun _ _ _ _ _ => (de_var 7))) da_nil))))
      (dss_one (ds_ret (de_call c__law_fits hr (by rfl) (da_cons (de_var 0) (da_cons (de_var 2) (da_cons (de_var 3) da_nil)))))))))
theorem ok__law_turned {f : Addr} {fd : FuncData} (F : Fun K "_law_turned" "_law_turned" s__law_turned f fd) (B : Bi mg) : FnOk P w K mg base CX0 1 f fd ["table"] (spD K C m_law_turned) :=
  have nd := sc__law_turned.nd
  fnD (k := 0) F sc__law_turned (by decide) fun cdv A outer s H E hr =>
    (dss_one (ds_ret (de_callTy cd_tuple (by rfl) B.tuple_ bt_tuple (da_cons (de_comp (own := [("column", 1)]) rfl nd (di_rng1 (by rfl) B.range_ (da_cons (de_callB cd_len (by rfl) B.len_ bt_len (da_cons (de_ix ix_d (de_var 0) de_int) da_nil)) da_nil)) (blkOk_by (N := N__law_turned) (sc := defScope s__law_turned) (by decide +kernel)) (fun _ _ _ _ _ => (dg_name 1 nd)) (fun _ _ _ _ _ => dts_nil) (fun _ _ _ _ _ => (de_callTy cd_tuple (by rfl) B.tuple_ bt_tuple (da_cons (de_comp (own := [("row", 2)]) rfl nd (di_seq (de_var 0)) (blkOk_by (N := N__law_turned)  (by with_unfolding_all rfl)) (fun _ _ _ _ _ => (dg_name 2 nd)) (fun _ _ _ _ _ => dts_nil) (fun _ _ _ _ _ => (de_ix ix_d (de_var 2) (de_var 1)))) da_nil)))) da_nil))))
theorem ok__law_without {f : Addr} {fd : FuncData} (F : Fun K "_law_without" "_law_without" s__law_without f fd) (B : Bi mg) : FnOk P w K mg base CX0 1 f fd ["table", "places"] (spD K C m_law_without) :=
  have nd := sc__law_without.nd
  fnD (k := 0) F sc__law_without (by decide) fun cdv A outer s H E hr =>
    (dss_cons (ds_setN 2 nd (dn_lst da_nil))
      (dss_cons (ds_for PassesOwn.never rfl (di_enum (by rfl) B.enumerate_ (da_cons (de_var 0) da_nil)) (dg_tup rfl (dg_cons (dg_name 3 nd) (dg_cons (dg_name 4 nd) dg_nil)) (gl1 (gl1 gl0))) (dss_one (ds_app 2 (de_callTy cd_tuple (by rfl) B.tuple_ bt_tuple (da_cons (de_comp (own := [("column", 5), ("entry", 6)]) rfl nd (di_enum (by rfl) B.enumerate_ (da_cons (de_var 4) da_nil)) (blkOk_by (N := N__law_without) (sc := defScope s__law_without) (by decide +kernel)) (fun _ _ _ _ _ => (dg_tup rfl (dg_cons (dg_name 5 nd) (dg_cons (dg_name 6 nd) dg_nil)) (gl1 (gl1 gl0)))) (fun _ _ _ _ _ => dts_nil) (fun _ _ _ _ _ => (de_if (dt_cmp (od_in (hu65 hr)) (de_tup (da_cons (de_var 3) (da_cons (de_var 5) da_nil))) (de_var 1)) de_non (de_var 6)))) da_nil)))))
      (dss_one (ds_frz (O1 := []) 2 (ds_ret (de_callTy cd_tuple (by rfl) B.tuple_ bt_tuple (da_cons (de_var 2) da_nil)))))))
theorem ok__law_with_entry {f : Addr} {fd : FuncData} (F : Fun K "_law_with_entry" "_law_with_entry" s__law_with_entry f fd) (B : Bi mg) : FnOk P w K mg base CX0 1 f fd ["table", "row", "column", "entry"] (spD K C m_law_with_entry) :=
  have nd := sc__law_with_entry.nd
  fnD (k := 0) F sc__law_with_entry (by decide) fun cdv A outer s H E hr =>
    (dss_cons (ds_set 4 nd (de_op od_add (de_op od_add (de_slice (de_ix ix_d (de_var 0) (de_var 1)) do_no (do_ix (de_var 2))) (de_tup (da_cons (de_var 3) da_nil))) (de_slice (de_ix ix_d (de_var 0) (de_var 1)) (do_ix (de_op od_add (de_var 2) de_int)) do_no)))
      (dss_one (ds_ret (de_op od_add (de_op od_add (de_slice (de_var 0) do_no (do_ix (de_var 1))) (de_tup (da_cons (de_var 4) da_nil))) (de_slice (de_var 0) (do_ix (de_op od_add (de_var 1) de_int)) do_no)))))
theorem ok__law_alone {f : Addr} {fd : FuncData} (F : Fun K "_law_alone" "_law_alone" s__law_alone f fd) (B : Bi mg) (c__law_known : Cal P w K mg base C 1 "_law_known" ["table"] m_law_known) : FnOk P w K mg base CX0 2 f fd ["table", "row", "column"] (spD K C m_law_alone) :=
  have nd := sc__law_alone.nd
  fnD (k := 1) F sc__law_alone (by decide) fun cdv A outer s H E hr =>
    (dss_cons (ds_setLc 3 (own := [("at", 4), ("far", 5), ("entry", 6)]) rfl nd (di_seq (de_call c__law_known hr (by rfl) (da_cons (de_var 0) da_nil))) (blkOk_by (N := N__law_alone) (sc := defScope s__law_alone) (by decide +kernel)) (fun _ _ _ _ _ => (dg_tup rfl (dg_cons (dg_name 4 nd) (dg_cons (dg_name 5 nd) (dg_cons (dg_name 6 nd) dg_nil))) (gl1 (gl1 (gl1 gl0))))) (fun _ _ _ _ _ => (dts_one (dt_cmp (od_ne hr.units) (de_tup (da_cons (de_var 4) (da_cons (de_var 5) da_nil))) (de_tup (da_cons (de_var 1) (da_cons (de_var 2) da_nil)))))) (fun _ _ _ _ _ => (de_tup (da_cons (de_var 4) (da_cons (de_var 5) da_nil)))))
      (dss_one (ds_ret (de_or (de_cmp (od_eq hr.units) (de_comp (own := [("at", 4), ("far", 5)]) rfl nd (di_seq (de_var 3)) (blkOk_by (N := N__law_alone) (sc := defScope s__law_alone) (by decide +kernel)) (fun _ _ _ _ _ => (dg_tup rfl (dg_cons (dg_name 4 nd) (dg_cons (dg_name 5 nd) dg_nil)) (gl1 (gl1 gl0)))) (fun _ _ _ _ _ => (dts_one (dt_cmp (od_eq hr.units) (de_var 4) (de_var 1)))) (fun _ _ _ _ _ => de_int)) (de_lst da_nil)) (de_one (de_cmp (od_eq hr.units) (de_comp (own := [("at", 4), ("far", 5)]) rfl nd (di_seq (de_var 3)) (blkOk_by (N := N__law_alone) (sc := defScope s__law_alone) (by decide +kernel)) (fun _ _ _ _ _ => (dg_tup rfl (dg_cons (dg_name 4 nd) (dg_cons (dg_name 5 nd) dg_nil)) (gl1 (gl1 gl0)))) (fun _ _ _ _ _ => (dts_one (dt_cmp (od_eq hr.units) (de_var 5) (de_var 2)))) (fun _ _ _ _ _ => de_int)) (de_lst da_nil)))))))
theorem ok__law_due {f : Addr} {fd : FuncData} (F : Fun K "_law_due" "_law_due" s__law_due f fd) (B : Bi mg) (c__law_common : Cal P w K mg base C 2 "_law_common" ["entries"] m_law_common) (c__law_divisors : Cal P w K mg base C 1 "_law_divisors" ["number"] m_law_divisors) (c__law_known : Cal P w K mg base C 1 "_law_known" ["table"] m_law_known) (c__law_lcm : Cal P w K mg base C 2 "_law_lcm" ["one", "other"] m_law_lcm) (c__law_real : Cal P w K mg base C 4 "_law_real" ["table"] m_law_real) (c__law_turned : Cal P w K mg base C 1 "_law_turned" ["table"] m_law_turned) (c__law_with_entry : Cal P w K mg base C 1 "_law_with_entry" ["table", "row", "column", "entry"] m_law_with_entry) : FnOk P w K mg base CX0 5 f fd ["table", "row", "column"] (spD K C m_law_due) :=
  have nd := sc__law_due.nd
  fnD (k := 4) F sc__law_due (by decide) fun cdv A outer s H E hr =>
    (dss_cons (ds_set 3 nd (de_call c__law_common hr (by rfl) (da_cons (de_comp (own := [("at", 8), ("far", 9), ("entry", 7)]) rfl nd (di_seq (de_call c__law_known hr (by rfl) (da_cons (de_var 0) da_nil))) (blkOk_by (N := N__law_due) (sc := defScope s__law_due) (by decide +kernel)) (fun _ _ _ _ _ => (dg_tup rfl (dg_cons (dg_name 8 nd) (dg_cons (dg_name 9 nd) (dg_cons (dg_name 7 nd) dg_nil))) (gl1 (gl1 (gl1 gl0))))) (fun _ _ _ _ _ => (dts_one (dt_cmp (od_eq hr.units) (de_var 8) (de_var 1)))) (fun _ _ _ _ _ => (de_var 7))) da_nil)))
      (dss_cons (ds_set 4 nd (de_call c__law_turned hr (by rfl) (da_cons (de_var 0) da_nil)))
      (dss_cons (ds_set 5 nd (de_call c__law_common hr (by rfl) (da_cons (de_comp (own := [("at", 8), ("far", 9), ("entry", 7)]) rfl nd (di_seq (de_call c__law_known hr (by rfl) (da_cons (de_var 4) da_nil))) (blkOk_by (N := N__law_due) (sc := defScope s__law_due) (by decide +kernel)) (fun _ _ _ _ _ => (dg_tup rfl (dg_cons (dg_name 8 nd) (dg_cons (dg_name 9 nd) (dg_cons (dg_name 7 nd) dg_nil))) (gl1 (gl1 (gl1 gl0))))) (fun _ _ _ _ _ => (dts_one (dt_cmp (od_eq hr.units) (de_var 8) (de_var 2)))) (fun _ _ _ _ _ => (de_var 7))) da_nil)))
      (dss_cons (ds_set 6 nd (de_call c__law_lcm hr (by rfl) (da_cons (de_var 3) (da_cons (de_var 5) da_nil))))
      (dss_one (ds_ret (de_comp (own := [("entry", 7)]) rfl nd (di_seq (de_call c__law_divisors hr (by rfl) (da_cons (de_var 6) da_nil))) (blkOk_by (N := N__law_due) (sc := defScope s__law_due) (by decide +kernel)) (fun _ _ _ _ _ => (dg_name 7 nd)) (fun _ _ _ _ _ => (dts_one (dt_val (de_call c__law_real hr (by rfl) (da_cons (de_call c__law_with_entry hr (by rfl) (da_cons (de_var 0) (da_cons (de_var 1) (da_cons (de_var 2) (da_cons (de_var 7) da_nil))))) da_nil))))) (fun _ _ _ _ _ => (de_var 7)))))))))
theorem ok_law {f : Addr} {fd : FuncData} (F : Fun K "law" "law" s_law f fd) (B : Bi mg) (c__law_alone : Cal P w K mg base C 2 "_law_alone" ["table", "row", "column"] m_law_alone) (c__law_digits : Cal P w K mg base C 2 "_law_digits" ["script", "index", "count", "base"] m_law_digits) (c__law_due : Cal P w K mg base C 5 "_law_due" ["table", "row", "column"] m_law_due) (c__law_hidden : Cal P w K mg base C 1 "_law_hidden" ["table", "digits", "often"] m_law_hidden) (c__law_known : Cal P w K mg base C 1 "_law_known" ["table"] m_law_known) (c__law_numbers : Cal P w K mg base C 1 "_law_numbers" ["digits", "many", "wide"] m_law_numbers) (c__law_real : Cal P w K mg base C 4 "_law_real" ["table"] m_law_real) (c__law_spoilt : Cal P w K mg base C 1 "_law_spoilt" ["table", "digits"] m_law_spoilt) (c__law_table : Cal P w K mg base C 3 "_law_table" ["rows", "columns"] m_law_table) (c__law_without : Cal P w K mg base C 1 "_law_without" ["table", "places"] m_law_without) (c_single_mends : Cal P w K mg base C 6 "single_mends" ["table"] m_single_mends) : FnOk P w K mg base CX0 7 f fd ["script"] (spD K C m_k23) :=
  have nd := sc_law.nd
  fnD (k := 6) F sc_law (by decide) fun cdv A outer s H E hr =>
    (dss_cons (ds_for PassesOwn.never rfl (di_rng1 (by rfl) B.range_ (da_cons de_int da_nil)) (dg_name 1 nd) (dss_cons (ds_set 2 nd (de_call c__law_digits hr (by rfl) (da_cons (de_var 0) (da_cons (de_var 1) (da_cons de_int (da_cons de_int da_nil))))))
      (dss_cons (ds_asg (de_call c__law_numbers hr (by rfl) (da_cons (de_var 2) (da_cons (de_op od_add de_int (de_op od_mod (de_ix ix_d (de_var 2) de_int) de_int)) (da_cons (de_op od_add de_int (de_op od_mod (de_ix ix_d (de_var 2) de_int) de_int)) da_nil)))) (dg_tup rfl (dg_cons (dg_name 3 nd) (dg_cons (dg_name 4 nd) dg_nil)) (gl1 (gl1 gl0))))
      (dss_cons (ds_set 5 nd (de_call c__law_table hr (by rfl) (da_cons (de_var 3) (da_cons (de_var 4) da_nil))))
      (dss_one (ds_for PassesOwn.never rfl (di_seq (de_tup (da_cons (de_call c__law_hidden hr (by rfl) (da_cons (de_var 5) (da_cons (de_slice (de_var 2) (do_ix de_int) do_no) (da_cons de_int da_nil)))) (da_cons (de_call c__law_spoilt hr (by rfl) (da_cons (de_call c__law_hidden hr (by rfl) (da_cons (de_var 5) (da_cons (de_slice (de_var 2) (do_ix de_int) do_no) (da_cons de_int da_nil)))) (da_cons (de_slice (de_var 2) (do_ix de_int) do_no) da_nil))) da_nil)))) (dg_name 6 nd) (dss_cons (ds_setN 7 nd (dn_lst da_nil))
      (dss_cons (ds_for PassesOwn.never rfl (di_seq (de_call c__law_known hr (by rfl) (da_cons (de_var 6) da_nil))) (dg_tup rfl (dg_cons (dg_name 8 nd) (dg_cons (dg_name 9 nd) (dg_cons (dg_name 10 nd) dg_nil))) (gl1 (gl1 (gl1 gl0)))) (dss_cons (ds_set 11 nd (de_call c__law_without hr (by rfl) (da_cons (de_var 6) (da_cons (de_lst (da_cons (de_tup (da_cons (de_var 8) (da_cons (de_var 9) da_nil))) da_nil)) da_nil))))
      (dss_one (ds_if (dt_val (de_call c__law_real hr (by rfl) (da_cons (de_var 11) da_nil))) (dss_cons (ds_set 12 nd (de_call c__law_alone hr (by rfl) (da_cons (de_var 6) (da_cons (de_var 8) (da_cons (de_var 9) da_nil)))))
      (dss_one (ds_app 7 (de_tup (da_cons (de_var 8) (da_cons (de_var 9) (da_cons (de_if (dt_val (de_var 12)) de_non (de_call c__law_due hr (by rfl) (da_cons (de_var 11) (da_cons (de_var 8) (da_cons (de_var 9) da_nil))))) da_nil))))))) dss_nil))))
      (dss_frz (O1 := []) 7 (dss_mend 13 7 8 9 14 c_single_mends hr hr.units (by rfl) (da_cons (de_var 6) da_nil) PassesOwn.never rfl nd
      (dss_one (ds_if (dt_cmp (od_ne hr.units) (de_call c_single_mends hr (by rfl) (da_cons (de_var 6) da_nil)) (de_var 7)) (dss_one (ds_ret de_bl)) dss_nil))))))))))))
      (dss_cons (ds_if (dt_cmp (od_ne hr.units) (de_call c_single_mends hr (by rfl) (da_cons (de_tup (da_cons (de_tup (da_cons de_int (da_cons de_int da_nil))) (da_cons (de_tup (da_cons de_int (da_cons de_int da_nil))) da_nil))) da_nil)) (de_lst (da_cons (de_tup (da_cons de_int (da_cons de_int (da_cons (de_lst (da_cons de_int da_nil)) da_nil)))) (da_cons (de_tup (da_cons de_int (da_cons de_int (da_cons (de_lst (da_cons de_int da_nil)) da_nil)))) (da_cons (de_tup (da_cons de_int (da_cons de_int (da_cons (de_lst (da_cons de_int da_nil)) da_nil)))) da_nil))))) (dss_one (ds_ret de_bl)) dss_nil)
      (dss_one (ds_ret (de_and (de_cmp (od_eq hr.units) (de_call c_single_mends hr (by rfl) (da_cons (de_tup (da_cons (de_tup (da_cons de_int (da_cons de_non da_nil))) (da_cons (de_tup (da_cons de_non (da_cons de_int da_nil))) da_nil))) da_nil)) (de_lst (da_cons (de_tup (da_cons de_int (da_cons de_int (da_cons de_non da_nil)))) (da_cons (de_tup (da_cons de_int (da_cons de_int (da_cons de_non da_nil)))) da_nil)))) (de_one (de_cmp (od_eq hr.units) (de_call c_single_mends hr (by rfl) (da_cons (de_tup (da_cons (de_tup (da_cons de_non da_nil)) da_nil)) da_nil)) (de_lst da_nil))))))))
end
end My
namespace My
open PySem PySem.Spec PyProof.Rows L2 DL Mi
theorem all_mk {l : PySem.W.OpenLaw} {w : World} {K : PySem.W.Frag} {h : Heap} {mg : Str → Option Value} {fa f0 f1 f2 f3 f4 f5 f6 f7 f8 f9 f10 f11 f12 f13 f14 f15 f16 f17 f18 f19 f20 f21 f22 f23 f24 f25 f26 f27 f28 f29 f30 f31 f32 f33 f34 : Addr} (X : K.In h) (G : h.Ns mainGlobals mg) (hfa : mg "law" = some (.ref fa))
    {od0 an0 : Option Addr} {sl0 : Array (Option Value)} {oc0 kV0 dc0 pm0 cd0 ct0 : Value} (a0 : PySem.W.nsIn K mainGlobals "gcd" = some (some (.ref f0))) (l0 : K.lookup f0 = some ⟨oc0, od0, .func (PySem.W.fnOf "gcd" "gcd" (defArgs s_gcd) (defBody s_gcd) (defScope s_gcd) .none kV0 dc0 pm0 an0 cd0 ct0), sl0⟩) (c0 : PySem.W.codeIn K cd0 "gcd" = true) (k0 : PySem.W.keepIn K (.ref f0) = true)
    {od1 an1 : Option Addr} {sl1 : Array (Option Value)} {oc1 kV1 dc1 pm1 cd1 ct1 : Value} (a1 : PySem.W.nsIn K mainGlobals "lcm" = some (some (.ref f1))) (l1 : K.lookup f1 = some ⟨oc1, od1, .func (PySem.W.fnOf "lcm" "lcm" (defArgs s_lcm) (defBody s_lcm) (defScope s_lcm) .none kV1 dc1 pm1 an1 cd1 ct1), sl1⟩) (c1 : PySem.W.codeIn K cd1 "lcm" = true) (k1 : PySem.W.keepIn K (.ref f1) = true)
    {od2 an2 : Option Addr} {sl2 : Array (Option Value)} {oc2 kV2 dc2 pm2 cd2 ct2 : Value} (a2 : PySem.W.nsIn K mainGlobals "prime_factors" = some (some (.ref f2))) (l2 : K.lookup f2 = some ⟨oc2, od2, .func (PySem.W.fnOf "prime_factors" "prime_factors" (defArgs s_prime_factors) (defBody s_prime_factors) (defScope s_prime_factors) .none kV2 dc2 pm2 an2 cd2 ct2), sl2⟩) (c2 : PySem.W.codeIn K cd2 "prime_factors" = true) (k2 : PySem.W.keepIn K (.ref f2) = true)
    {od3 an3 : Option Addr} {sl3 : Array (Option Value)} {oc3 kV3 dc3 pm3 cd3 ct3 : Value} (a3 : PySem.W.nsIn K mainGlobals "exponent" = some (some (.ref f3))) (l3 : K.lookup f3 = some ⟨oc3, od3, .func (PySem.W.fnOf "exponent" "exponent" (defArgs s_exponent) (defBody s_exponent) (defScope s_exponent) .none kV3 dc3 pm3 an3 cd3 ct3), sl3⟩) (c3 : PySem.W.codeIn K cd3 "exponent" = true) (k3 : PySem.W.keepIn K (.ref f3) = true)
    {od4 an4 : Option Addr} {sl4 : Array (Option Value)} {oc4 kV4 dc4 pm4 cd4 ct4 : Value} (a4 : PySem.W.nsIn K mainGlobals "power" = some (some (.ref f4))) (l4 : K.lookup f4 = some ⟨oc4, od4, .func (PySem.W.fnOf "power" "power" (defArgs s_power) (defBody s_power) (defScope s_power) .none kV4 dc4 pm4 an4 cd4 ct4), sl4⟩) (c4 : PySem.W.codeIn K cd4 "power" = true) (k4 : PySem.W.keepIn K (.ref f4) = true)
    {od5 an5 : Option Addr} {sl5 : Array (Option Value)} {oc5 kV5 dc5 pm5 cd5 ct5 : Value} (a5 : PySem.W.nsIn K mainGlobals "between" = some (some (.ref f5))) (l5 : K.lookup f5 = some ⟨oc5, od5, .func (PySem.W.fnOf "between" "between" (defArgs s_between) (defBody s_between) (defScope s_between) .none kV5 dc5 pm5 an5 cd5 ct5), sl5⟩) (c5 : PySem.W.codeIn K cd5 "between" = true) (k5 : PySem.W.keepIn K (.ref f5) = true)
    {od6 an6 : Option Addr} {sl6 : Array (Option Value)} {oc6 kV6 dc6 pm6 cd6 ct6 : Value} (a6 : PySem.W.nsIn K mainGlobals "turned" = some (some (.ref f6))) (l6 : K.lookup f6 = some ⟨oc6, od6, .func (PySem.W.fnOf "turned" "turned" (defArgs s_turned) (defBody s_turned) (defScope s_turned) .none kV6 dc6 pm6 an6 cd6 ct6), sl6⟩) (c6 : PySem.W.codeIn K cd6 "turned" = true) (k6 : PySem.W.keepIn K (.ref f6) = true)
    {od7 an7 : Option Addr} {sl7 : Array (Option Value)} {oc7 kV7 dc7 pm7 cd7 ct7 : Value} (a7 : PySem.W.nsIn K mainGlobals "row_divisor" = some (some (.ref f7))) (l7 : K.lookup f7 = some ⟨oc7, od7, .func (PySem.W.fnOf "row_divisor" "row_divisor" (defArgs s_row_divisor) (defBody s_row_divisor) (defScope s_row_divisor) .none kV7 dc7 pm7 an7 cd7 ct7), sl7⟩) (c7 : PySem.W.codeIn K cd7 "row_divisor" = true) (k7 : PySem.W.keepIn K (.ref f7) = true)
    {od8 an8 : Option Addr} {sl8 : Array (Option Value)} {oc8 kV8 dc8 pm8 cd8 ct8 : Value} (a8 : PySem.W.nsIn K mainGlobals "greatest" = some (some (.ref f8))) (l8 : K.lookup f8 = some ⟨oc8, od8, .func (PySem.W.fnOf "greatest" "greatest" (defArgs s_greatest) (defBody s_greatest) (defScope s_greatest) .none kV8 dc8 pm8 an8 cd8 ct8), sl8⟩) (c8 : PySem.W.codeIn K cd8 "greatest" = true) (k8 : PySem.W.keepIn K (.ref f8) = true)
    {od9 an9 : Option Addr} {sl9 : Array (Option Value)} {oc9 kV9 dc9 pm9 cd9 ct9 : Value} (a9 : PySem.W.nsIn K mainGlobals "known_places" = some (some (.ref f9))) (l9 : K.lookup f9 = some ⟨oc9, od9, .func (PySem.W.fnOf "known_places" "known_places" (defArgs s_known_places) (defBody s_known_places) (defScope s_known_places) .none kV9 dc9 pm9 an9 cd9 ct9), sl9⟩) (c9 : PySem.W.codeIn K cd9 "known_places" = true) (k9 : PySem.W.keepIn K (.ref f9) = true)
    {od10 an10 : Option Addr} {sl10 : Array (Option Value)} {oc10 kV10 dc10 pm10 cd10 ct10 : Value} (a10 : PySem.W.nsIn K mainGlobals "is_real" = some (some (.ref f10))) (l10 : K.lookup f10 = some ⟨oc10, od10, .func (PySem.W.fnOf "is_real" "is_real" (defArgs s_is_real) (defBody s_is_real) (defScope s_is_real) .none kV10 dc10 pm10 an10 cd10 ct10), sl10⟩) (c10 : PySem.W.codeIn K cd10 "is_real" = true) (k10 : PySem.W.keepIn K (.ref f10) = true)
    {od11 an11 : Option Addr} {sl11 : Array (Option Value)} {oc11 kV11 dc11 pm11 cd11 ct11 : Value} (a11 : PySem.W.nsIn K mainGlobals "without" = some (some (.ref f11))) (l11 : K.lookup f11 = some ⟨oc11, od11, .func (PySem.W.fnOf "without" "without" (defArgs s_without) (defBody s_without) (defScope s_without) .none kV11 dc11 pm11 an11 cd11 ct11), sl11⟩) (c11 : PySem.W.codeIn K cd11 "without" = true) (k11 : PySem.W.keepIn K (.ref f11) = true)
    {od12 an12 : Option Addr} {sl12 : Array (Option Value)} {oc12 kV12 dc12 pm12 cd12 ct12 : Value} (a12 : PySem.W.nsIn K mainGlobals "all_primes" = some (some (.ref f12))) (l12 : K.lookup f12 = some ⟨oc12, od12, .func (PySem.W.fnOf "all_primes" "all_primes" (defArgs s_all_primes) (defBody s_all_primes) (defScope s_all_primes) .none kV12 dc12 pm12 an12 cd12 ct12), sl12⟩) (c12 : PySem.W.codeIn K cd12 "all_primes" = true) (k12 : PySem.W.keepIn K (.ref f12) = true)
    {od13 an13 : Option Addr} {sl13 : Array (Option Value)} {oc13 kV13 dc13 pm13 cd13 ct13 : Value} (a13 : PySem.W.nsIn K mainGlobals "sure" = some (some (.ref f13))) (l13 : K.lookup f13 = some ⟨oc13, od13, .func (PySem.W.fnOf "sure" "sure" (defArgs s_sure) (defBody s_sure) (defScope s_sure) .none kV13 dc13 pm13 an13 cd13 ct13), sl13⟩) (c13 : PySem.W.codeIn K cd13 "sure" = true) (k13 : PySem.W.keepIn K (.ref f13) = true)
    {od14 an14 : Option Addr} {sl14 : Array (Option Value)} {oc14 kV14 dc14 pm14 cd14 ct14 : Value} (a14 : PySem.W.nsIn K mainGlobals "entry_values" = some (some (.ref f14))) (l14 : K.lookup f14 = some ⟨oc14, od14, .func (PySem.W.fnOf "entry_values" "entry_values" (defArgs s_entry_values) (defBody s_entry_values) (defScope s_entry_values) .none kV14 dc14 pm14 an14 cd14 ct14), sl14⟩) (c14 : PySem.W.codeIn K cd14 "entry_values" = true) (k14 : PySem.W.keepIn K (.ref f14) = true)
    {od15 an15 : Option Addr} {sl15 : Array (Option Value)} {oc15 kV15 dc15 pm15 cd15 ct15 : Value} (a15 : PySem.W.nsIn K mainGlobals "single_mends" = some (some (.ref f15))) (l15 : K.lookup f15 = some ⟨oc15, od15, .func (PySem.W.fnOf "single_mends" "single_mends" (defArgs s_single_mends) (defBody s_single_mends) (defScope s_single_mends) .none kV15 dc15 pm15 an15 cd15 ct15), sl15⟩) (c15 : PySem.W.codeIn K cd15 "single_mends" = true) (k15 : PySem.W.keepIn K (.ref f15) = true)
    {od16 an16 : Option Addr} {sl16 : Array (Option Value)} {oc16 kV16 dc16 pm16 cd16 ct16 : Value} (a16 : PySem.W.nsIn K mainGlobals "_law_cell" = some (some (.ref f16))) (l16 : K.lookup f16 = some ⟨oc16, od16, .func (PySem.W.fnOf "_law_cell" "_law_cell" (defArgs s__law_cell) (defBody s__law_cell) (defScope s__law_cell) .none kV16 dc16 pm16 an16 cd16 ct16), sl16⟩) (c16 : PySem.W.codeIn K cd16 "_law_cell" = true) (k16 : PySem.W.keepIn K (.ref f16) = true)
    {od17 an17 : Option Addr} {sl17 : Array (Option Value)} {oc17 kV17 dc17 pm17 cd17 ct17 : Value} (a17 : PySem.W.nsIn K mainGlobals "_law_digits" = some (some (.ref f17))) (l17 : K.lookup f17 = some ⟨oc17, od17, .func (PySem.W.fnOf "_law_digits" "_law_digits" (defArgs s__law_digits) (defBody s__law_digits) (defScope s__law_digits) .none kV17 dc17 pm17 an17 cd17 ct17), sl17⟩) (c17 : PySem.W.codeIn K cd17 "_law_digits" = true) (k17 : PySem.W.keepIn K (.ref f17) = true)
    {od18 an18 : Option Addr} {sl18 : Array (Option Value)} {oc18 kV18 dc18 pm18 cd18 ct18 : Value} (a18 : PySem.W.nsIn K mainGlobals "_law_gcd" = some (some (.ref f18))) (l18 : K.lookup f18 = some ⟨oc18, od18, .func (PySem.W.fnOf "_law_gcd" "_law_gcd" (defArgs s__law_gcd) (defBody s__law_gcd) (defScope s__law_gcd) .none kV18 dc18 pm18 an18 cd18 ct18), sl18⟩) (c18 : PySem.W.codeIn K cd18 "_law_gcd" = true) (k18 : PySem.W.keepIn K (.ref f18) = true)
    {od19 an19 : Option Addr} {sl19 : Array (Option Value)} {oc19 kV19 dc19 pm19 cd19 ct19 : Value} (a19 : PySem.W.nsIn K mainGlobals "_law_lcm" = some (some (.ref f19))) (l19 : K.lookup f19 = some ⟨oc19, od19, .func (PySem.W.fnOf "_law_lcm" "_law_lcm" (defArgs s__law_lcm) (defBody s__law_lcm) (defScope s__law_lcm) .none kV19 dc19 pm19 an19 cd19 ct19), sl19⟩) (c19 : PySem.W.codeIn K cd19 "_law_lcm" = true) (k19 : PySem.W.keepIn K (.ref f19) = true)
    {od20 an20 : Option Addr} {sl20 : Array (Option Value)} {oc20 kV20 dc20 pm20 cd20 ct20 : Value} (a20 : PySem.W.nsIn K mainGlobals "_law_divisors" = some (some (.ref f20))) (l20 : K.lookup f20 = some ⟨oc20, od20, .func (PySem.W.fnOf "_law_divisors" "_law_divisors" (defArgs s__law_divisors) (defBody s__law_divisors) (defScope s__law_divisors) .none kV20 dc20 pm20 an20 cd20 ct20), sl20⟩) (c20 : PySem.W.codeIn K cd20 "_law_divisors" = true) (k20 : PySem.W.keepIn K (.ref f20) = true)
    {od21 an21 : Option Addr} {sl21 : Array (Option Value)} {oc21 kV21 dc21 pm21 cd21 ct21 : Value} (a21 : PySem.W.nsIn K mainGlobals "_law_numbers" = some (some (.ref f21))) (l21 : K.lookup f21 = some ⟨oc21, od21, .func (PySem.W.fnOf "_law_numbers" "_law_numbers" (defArgs s__law_numbers) (defBody s__law_numbers) (defScope s__law_numbers) .none kV21 dc21 pm21 an21 cd21 ct21), sl21⟩) (c21 : PySem.W.codeIn K cd21 "_law_numbers" = true) (k21 : PySem.W.keepIn K (.ref f21) = true)
    {od22 an22 : Option Addr} {sl22 : Array (Option Value)} {oc22 kV22 dc22 pm22 cd22 ct22 : Value} (a22 : PySem.W.nsIn K mainGlobals "_law_table" = some (some (.ref f22))) (l22 : K.lookup f22 = some ⟨oc22, od22, .func (PySem.W.fnOf "_law_table" "_law_table" (defArgs s__law_table) (defBody s__law_table) (defScope s__law_table) .none kV22 dc22 pm22 an22 cd22 ct22), sl22⟩) (c22 : PySem.W.codeIn K cd22 "_law_table" = true) (k22 : PySem.W.keepIn K (.ref f22) = true)
    {od23 an23 : Option Addr} {sl23 : Array (Option Value)} {oc23 kV23 dc23 pm23 cd23 ct23 : Value} (a23 : PySem.W.nsIn K mainGlobals "_law_hidden" = some (some (.ref f23))) (l23 : K.lookup f23 = some ⟨oc23, od23, .func (PySem.W.fnOf "_law_hidden" "_law_hidden" (defArgs s__law_hidden) (defBody s__law_hidden) (defScope s__law_hidden) .none kV23 dc23 pm23 an23 cd23 ct23), sl23⟩) (c23 : PySem.W.codeIn K cd23 "_law_hidden" = true) (k23 : PySem.W.keepIn K (.ref f23) = true)
    {od24 an24 : Option Addr} {sl24 : Array (Option Value)} {oc24 kV24 dc24 pm24 cd24 ct24 : Value} (a24 : PySem.W.nsIn K mainGlobals "_law_spoilt" = some (some (.ref f24))) (l24 : K.lookup f24 = some ⟨oc24, od24, .func (PySem.W.fnOf "_law_spoilt" "_law_spoilt" (defArgs s__law_spoilt) (defBody s__law_spoilt) (defScope s__law_spoilt) .none kV24 dc24 pm24 an24 cd24 ct24), sl24⟩) (c24 : PySem.W.codeIn K cd24 "_law_spoilt" = true) (k24 : PySem.W.keepIn K (.ref f24) = true)
    {od25 an25 : Option Addr} {sl25 : Array (Option Value)} {oc25 kV25 dc25 pm25 cd25 ct25 : Value} (a25 : PySem.W.nsIn K mainGlobals "_law_known" = some (some (.ref f25))) (l25 : K.lookup f25 = some ⟨oc25, od25, .func (PySem.W.fnOf "_law_known" "_law_known" (defArgs s__law_known) (defBody s__law_known) (defScope s__law_known) .none kV25 dc25 pm25 an25 cd25 ct25), sl25⟩) (c25 : PySem.W.codeIn K cd25 "_law_known" = true) (k25 : PySem.W.keepIn K (.ref f25) = true)
    {od26 an26 : Option Addr} {sl26 : Array (Option Value)} {oc26 kV26 dc26 pm26 cd26 ct26 : Value} (a26 : PySem.W.nsIn K mainGlobals "_law_fits" = some (some (.ref f26))) (l26 : K.lookup f26 = some ⟨oc26, od26, .func (PySem.W.fnOf "_law_fits" "_law_fits" (defArgs s__law_fits) (defBody s__law_fits) (defScope s__law_fits) .none kV26 dc26 pm26 an26 cd26 ct26), sl26⟩) (c26 : PySem.W.codeIn K cd26 "_law_fits" = true) (k26 : PySem.W.keepIn K (.ref f26) = true)
    {od27 an27 : Option Addr} {sl27 : Array (Option Value)} {oc27 kV27 dc27 pm27 cd27 ct27 : Value} (a27 : PySem.W.nsIn K mainGlobals "_law_common" = some (some (.ref f27))) (l27 : K.lookup f27 = some ⟨oc27, od27, .func (PySem.W.fnOf "_law_common" "_law_common" (defArgs s__law_common) (defBody s__law_common) (defScope s__law_common) .none kV27 dc27 pm27 an27 cd27 ct27), sl27⟩) (c27 : PySem.W.codeIn K cd27 "_law_common" = true) (k27 : PySem.W.keepIn K (.ref f27) = true)
    {od28 an28 : Option Addr} {sl28 : Array (Option Value)} {oc28 kV28 dc28 pm28 cd28 ct28 : Value} (a28 : PySem.W.nsIn K mainGlobals "_law_real" = some (some (.ref f28))) (l28 : K.lookup f28 = some ⟨oc28, od28, .func (PySem.W.fnOf "_law_real" "_law_real" (defArgs s__law_real) (defBody s__law_real) (defScope s__law_real) .none kV28 dc28 pm28 an28 cd28 ct28), sl28⟩) (c28 : PySem.W.codeIn K cd28 "_law_real" = true) (k28 : PySem.W.keepIn K (.ref f28) = true)
    {od29 an29 : Option Addr} {sl29 : Array (Option Value)} {oc29 kV29 dc29 pm29 cd29 ct29 : Value} (a29 : PySem.W.nsIn K mainGlobals "_law_turned" = some (some (.ref f29))) (l29 : K.lookup f29 = some ⟨oc29, od29, .func (PySem.W.fnOf "_law_turned" "_law_turned" (defArgs s__law_turned) (defBody s__law_turned) (defScope s__law_turned) .none kV29 dc29 pm29 an29 cd29 ct29), sl29⟩) (c29 : PySem.W.codeIn K cd29 "_law_turned" = true) (k29 : PySem.W.keepIn K (.ref f29) = true)
    {od30 an30 : Option Addr} {sl30 : Array (Option Value)} {oc30 kV30 dc30 pm30 cd30 ct30 : Value} (a30 : PySem.W.nsIn K mainGlobals "_law_without" = some (some (.ref f30))) (l30 : K.lookup f30 = some ⟨oc30, od30, .func (PySem.W.fnOf "_law_without" "_law_without" (defArgs s__law_without) (defBody s__law_without) (defScope s__law_without) .none kV30 dc30 pm30 an30 cd30 ct30), sl30⟩) (c30 : PySem.W.codeIn K cd30 "_law_without" = true) (k30 : PySem.W.keepIn K (.ref f30) = true)
    {od31 an31 : Option Addr} {sl31 : Array (Option Value)} {oc31 kV31 dc31 pm31 cd31 ct31 : Value} (a31 : PySem.W.nsIn K mainGlobals "_law_with_entry" = some (some (.ref f31))) (l31 : K.lookup f31 = some ⟨oc31, od31, .func (PySem.W.fnOf "_law_with_entry" "_law_with_entry" (defArgs s__law_with_entry) (defBody s__law_with_entry) (defScope s__law_with_entry) .none kV31 dc31 pm31 an31 cd31 ct31), sl31⟩) (c31 : PySem.W.codeIn K cd31 "_law_with_entry" = true) (k31 : PySem.W.keepIn K (.ref f31) = true)
    {od32 an32 : Option Addr} {sl32 : Array (Option Value)} {oc32 kV32 dc32 pm32 cd32 ct32 : Value} (a32 : PySem.W.nsIn K mainGlobals "_law_alone" = some (some (.ref f32))) (l32 : K.lookup f32 = some ⟨oc32, od32, .func (PySem.W.fnOf "_law_alone" "_law_alone" (defArgs s__law_alone) (defBody s__law_alone) (defScope s__law_alone) .none kV32 dc32 pm32 an32 cd32 ct32), sl32⟩) (c32 : PySem.W.codeIn K cd32 "_law_alone" = true) (k32 : PySem.W.keepIn K (.ref f32) = true)
    {od33 an33 : Option Addr} {sl33 : Array (Option Value)} {oc33 kV33 dc33 pm33 cd33 ct33 : Value} (a33 : PySem.W.nsIn K mainGlobals "_law_due" = some (some (.ref f33))) (l33 : K.lookup f33 = some ⟨oc33, od33, .func (PySem.W.fnOf "_law_due" "_law_due" (defArgs s__law_due) (defBody s__law_due) (defScope s__law_due) .none kV33 dc33 pm33 an33 cd33 ct33), sl33⟩) (c33 : PySem.W.codeIn K cd33 "_law_due" = true) (k33 : PySem.W.keepIn K (.ref f33) = true)
    {od34 an34 : Option Addr} {sl34 : Array (Option Value)} {oc34 kV34 dc34 pm34 cd34 ct34 : Value} (a34 : PySem.W.nsIn K mainGlobals "law" = some (some (.ref f34))) (l34 : K.lookup f34 = some ⟨oc34, od34, .func (PySem.W.fnOf "law" "law" (defArgs s_law) (defBody s_law) (defScope s_law) .none kV34 dc34 pm34 an34 cd34 ct34), sl34⟩) (c34 : PySem.W.codeIn K cd34 "law" = true) (k34 : PySem.W.keepIn K (.ref f34) = true)
    (z_all : PySem.W.nsIn K mainGlobals "all" = some none)
    (z_enumerate : PySem.W.nsIn K mainGlobals "enumerate" = some none)
    (z_len : PySem.W.nsIn K mainGlobals "len" = some none)
    (z_list : PySem.W.nsIn K mainGlobals "list" = some none)
    (z_range : PySem.W.nsIn K mainGlobals "range" = some none)
    (z_sorted : PySem.W.nsIn K mainGlobals "sorted" = some none)
    (z_tuple : PySem.W.nsIn K mainGlobals "tuple" = some none)
    : ∃ fd : FuncData, (∀ (s : Shared) (v : Value), BindsTo s fd ⟨[v], []⟩ [("script", v)]) ∧ ∀ base : Heap, K.In base → base.Ns mainGlobals mg → FnOk l.prog w K mg base CX0 7 fa fd ["script"] (spD K 0 m_k23) := by
  have e := hfa.symm.trans (PySem.W.mg_of X G a34)
  cases e
  have F0 := fun_mk (st := s_gcd) l0 c0 k0
  have F1 := fun_mk (st := s_lcm) l1 c1 k1
  have F2 := fun_mk (st := s_prime_factors) l2 c2 k2
  have F3 := fun_mk (st := s_exponent) l3 c3 k3
  have F4 := fun_mk (st := s_power) l4 c4 k4
  have F5 := fun_mk (st := s_between) l5 c5 k5
  have F6 := fun_mk (st := s_turned) l6 c6 k6
  have F7 := fun_mk (st := s_row_divisor) l7 c7 k7
  have F8 := fun_mk (st := s_greatest) l8 c8 k8
  have F9 := fun_mk (st := s_known_places) l9 c9 k9
  have F10 := fun_mk (st := s_is_real) l10 c10 k10
  have F11 := fun_mk (st := s_without) l11 c11 k11
  have F12 := fun_mk (st := s_all_primes) l12 c12 k12
  have F13 := fun_mk (st := s_sure) l13 c13 k13
  have F14 := fun_mk (st := s_entry_values) l14 c14 k14
  have F15 := fun_mk (st := s_single_mends) l15 c15 k15
  have F16 := fun_mk (st := s__law_cell) l16 c16 k16
  have F17 := fun_mk (st := s__law_digits) l17 c17 k17
  have F18 := fun_mk (st := s__law_gcd) l18 c18 k18
  have F19 := fun_mk (st := s__law_lcm) l19 c19 k19
  have F20 := fun_mk (st := s__law_divisors) l20 c20 k20
  have F21 := fun_mk (st := s__law_numbers) l21 c21 k21
  have F22 := fun_mk (st := s__law_table) l22 c22 k22
  have F23 := fun_mk (st := s__law_hidden) l23 c23 k23
  have F24 := fun_mk (st := s__law_spoilt) l24 c24 k24
  have F25 := fun_mk (st := s__law_known) l25 c25 k25
  have F26 := fun_mk (st := s__law_fits) l26 c26 k26
  have F27 := fun_mk (st := s__law_common) l27 c27 k27
  have F28 := fun_mk (st := s__law_real) l28 c28 k28
  have F29 := fun_mk (st := s__law_turned) l29 c29 k29
  have F30 := fun_mk (st := s__law_without) l30 c30 k30
  have F31 := fun_mk (st := s__law_with_entry) l31 c31 k31
  have F32 := fun_mk (st := s__law_alone) l32 c32 k32
  have F33 := fun_mk (st := s__law_due) l33 c33 k33
  have F34 := fun_mk (st := s_law) l34 c34 k34
  have B : Bi mg := ⟨PySem.W.mg_none_of X G z_all, PySem.W.mg_none_of X G z_enumerate, PySem.W.mg_none_of X G z_len, PySem.W.mg_none_of X G z_list, PySem.W.mg_none_of X G z_range, PySem.W.mg_none_of X G z_sorted, PySem.W.mg_none_of X G z_tuple⟩
  have b0 := F0.binds (ps := ["one", "other"]) fun _ _ _ _ _ _ us hl => match us, hl with | [_, _], _ => rfl
  have b1 := F1.binds (ps := ["one", "other"]) fun _ _ _ _ _ _ us hl => match us, hl with | [_, _], _ => rfl
  have b2 := F2.binds (ps := ["number"]) fun _ _ _ _ _ _ us hl => match us, hl with | [_], _ => rfl
  have b3 := F3.binds (ps := ["prime", "number"]) fun _ _ _ _ _ _ us hl => match us, hl with | [_, _], _ => rfl
  have b4 := F4.binds (ps := ["prime", "times"]) fun _ _ _ _ _ _ us hl => match us, hl with | [_, _], _ => rfl
  have b5 := F5.binds (ps := ["low", "high"]) fun _ _ _ _ _ _ us hl => match us, hl with | [_, _], _ => rfl
  have b6 := F6.binds (ps := ["table"]) fun _ _ _ _ _ _ us hl => match us, hl with | [_], _ => rfl
  have b7 := F7.binds (ps := ["row"]) fun _ _ _ _ _ _ us hl => match us, hl with | [_], _ => rfl
  have b8 := F8.binds (ps := ["table"]) fun _ _ _ _ _ _ us hl => match us, hl with | [_], _ => rfl
  have b9 := F9.binds (ps := ["table"]) fun _ _ _ _ _ _ us hl => match us, hl with | [_], _ => rfl
  have b10 := F10.binds (ps := ["table"]) fun _ _ _ _ _ _ us hl => match us, hl with | [_], _ => rfl
  have b11 := F11.binds (ps := ["table", "places"]) fun _ _ _ _ _ _ us hl => match us, hl with | [_, _], _ => rfl
  have b12 := F12.binds (ps := ["table"]) fun _ _ _ _ _ _ us hl => match us, hl with | [_], _ => rfl
  have b13 := F13.binds (ps := ["table"]) fun _ _ _ _ _ _ us hl => match us, hl with | [_], _ => rfl
  have b14 := F14.binds (ps := ["table", "row", "column"]) fun _ _ _ _ _ _ us hl => match us, hl with | [_, _, _], _ => rfl
  have b15 := F15.binds (ps := ["table"]) fun _ _ _ _ _ _ us hl => match us, hl with | [_], _ => rfl
  have b16 := F16.binds (ps := ["script", "index"]) fun _ _ _ _ _ _ us hl => match us, hl with | [_, _], _ => rfl
  have b17 := F17.binds (ps := ["script", "index", "count", "base"]) fun _ _ _ _ _ _ us hl => match us, hl with | [_, _, _, _], _ => rfl
  have b18 := F18.binds (ps := ["one", "other"]) fun _ _ _ _ _ _ us hl => match us, hl with | [_, _], _ => rfl
  have b19 := F19.binds (ps := ["one", "other"]) fun _ _ _ _ _ _ us hl => match us, hl with | [_, _], _ => rfl
  have b20 := F20.binds (ps := ["number"]) fun _ _ _ _ _ _ us hl => match us, hl with | [_], _ => rfl
  have b21 := F21.binds (ps := ["digits", "many", "wide"]) fun _ _ _ _ _ _ us hl => match us, hl with | [_, _, _], _ => rfl
  have b22 := F22.binds (ps := ["rows", "columns"]) fun _ _ _ _ _ _ us hl => match us, hl with | [_, _], _ => rfl
  have b23 := F23.binds (ps := ["table", "digits", "often"]) fun _ _ _ _ _ _ us hl => match us, hl with | [_, _, _], _ => rfl
  have b24 := F24.binds (ps := ["table", "digits"]) fun _ _ _ _ _ _ us hl => match us, hl with | [_, _], _ => rfl
  have b25 := F25.binds (ps := ["table"]) fun _ _ _ _ _ _ us hl => match us, hl with | [_], _ => rfl
  have b26 := F26.binds (ps := ["table", "rows", "columns"]) fun _ _ _ _ _ _ us hl => match us, hl with | [_, _, _], _ => rfl
  have b27 := F27.binds (ps := ["entries"]) fun _ _ _ _ _ _ us hl => match us, hl with | [_], _ => rfl
  have b28 := F28.binds (ps := ["table"]) fun _ _ _ _ _ _ us hl => match us, hl with | [_], _ => rfl
  have b29 := F29.binds (ps := ["table"]) fun _ _ _ _ _ _ us hl => match us, hl with | [_], _ => rfl
  have b30 := F30.binds (ps := ["table", "places"]) fun _ _ _ _ _ _ us hl => match us, hl with | [_, _], _ => rfl
  have b31 := F31.binds (ps := ["table", "row", "column", "entry"]) fun _ _ _ _ _ _ us hl => match us, hl with | [_, _, _, _], _ => rfl
  have b32 := F32.binds (ps := ["table", "row", "column"]) fun _ _ _ _ _ _ us hl => match us, hl with | [_, _, _], _ => rfl
  have b33 := F33.binds (ps := ["table", "row", "column"]) fun _ _ _ _ _ _ us hl => match us, hl with | [_, _, _], _ => rfl
  refine ⟨PySem.W.fnOf "law" "law" (defArgs s_law) (defBody s_law) (defScope s_law) .none kV34 dc34 pm34 an34 cd34 ct34, fun s v => .of_eq rfl, fun base _ _ => ?_⟩
  have C_gcd : Cal l.prog w K mg base 0 1 "gcd" ["one", "other"] m_gcd := ⟨⟨_, _, ok_gcd F0 B , PySem.W.mg_of X G a0, F0.kp, b0⟩⟩
  have C_lcm : Cal l.prog w K mg base 0 2 "lcm" ["one", "other"] m_lcm := ⟨⟨_, _, ok_lcm F1 B C_gcd, PySem.W.mg_of X G a1, F1.kp, b1⟩⟩
  have C_prime_factors : Cal l.prog w K mg base 0 1 "prime_factors" ["number"] m_prime_factors := ⟨⟨_, _, ok_prime_factors F2 B , PySem.W.mg_of X G a2, F2.kp, b2⟩⟩
  have C_exponent : Cal l.prog w K mg base 0 1 "exponent" ["prime", "number"] m_exponent := ⟨⟨_, _, ok_exponent F3 B , PySem.W.mg_of X G a3, F3.kp, b3⟩⟩
  have C_power : Cal l.prog w K mg base 0 1 "power" ["prime", "times"] m_power := ⟨⟨_, _, ok_power F4 B , PySem.W.mg_of X G a4, F4.kp, b4⟩⟩
  have C_between : Cal l.prog w K mg base 0 2 "between" ["low", "high"] m_between := ⟨⟨_, _, ok_between F5 B C_exponent C_power C_prime_factors, PySem.W.mg_of X G a5, F5.kp, b5⟩⟩
  have C_turned : Cal l.prog w K mg base 0 1 "turned" ["table"] m_turned := ⟨⟨_, _, ok_turned F6 B , PySem.W.mg_of X G a6, F6.kp, b6⟩⟩
  have C_row_divisor : Cal l.prog w K mg base 0 2 "row_divisor" ["row"] m_row_divisor := ⟨⟨_, _, ok_row_divisor F7 B C_gcd, PySem.W.mg_of X G a7, F7.kp, b7⟩⟩
  have C_greatest : Cal l.prog w K mg base 0 3 "greatest" ["table"] m_greatest := ⟨⟨_, _, ok_greatest F8 B C_row_divisor C_turned, PySem.W.mg_of X G a8, F8.kp, b8⟩⟩
  have C_known_places : Cal l.prog w K mg base 0 1 "known_places" ["table"] m_known_places := ⟨⟨_, _, ok_known_places F9 B , PySem.W.mg_of X G a9, F9.kp, b9⟩⟩
  have C_is_real : Cal l.prog w K mg base 0 4 "is_real" ["table"] m_is_real := ⟨⟨_, _, ok_is_real F10 B C_greatest C_known_places C_lcm, PySem.W.mg_of X G a10, F10.kp, b10⟩⟩
  have C_without : Cal l.prog w K mg base 0 1 "without" ["table", "places"] m_without := ⟨⟨_, _, ok_without F11 B , PySem.W.mg_of X G a11, F11.kp, b11⟩⟩
  have C_all_primes : Cal l.prog w K mg base 0 2 "all_primes" ["table"] m_all_primes := ⟨⟨_, _, ok_all_primes F12 B C_known_places C_prime_factors, PySem.W.mg_of X G a12, F12.kp, b12⟩⟩
  have C_sure : Cal l.prog w K mg base 0 4 "sure" ["table"] m_sure := ⟨⟨_, _, ok_sure F13 B C_all_primes C_exponent C_greatest C_known_places C_lcm C_power, PySem.W.mg_of X G a13, F13.kp, b13⟩⟩
  have C_entry_values : Cal l.prog w K mg base 0 5 "entry_values" ["table", "row", "column"] m_entry_values := ⟨⟨_, _, ok_entry_values F14 B C_between C_greatest C_lcm C_sure, PySem.W.mg_of X G a14, F14.kp, b14⟩⟩
  have C_single_mends : Cal l.prog w K mg base 0 6 "single_mends" ["table"] m_single_mends := ⟨⟨_, _, ok_single_mends F15 B C_entry_values C_is_real C_known_places C_without, PySem.W.mg_of X G a15, F15.kp, b15⟩⟩
  have C__law_cell : Cal l.prog w K mg base 0 1 "_law_cell" ["script", "index"] m_law_cell := ⟨⟨_, _, ok__law_cell F16 B , PySem.W.mg_of X G a16, F16.kp, b16⟩⟩
  have C__law_digits : Cal l.prog w K mg base 0 2 "_law_digits" ["script", "index", "count", "base"] m_law_digits := ⟨⟨_, _, ok__law_digits F17 B C__law_cell, PySem.W.mg_of X G a17, F17.kp, b17⟩⟩
  have C__law_gcd : Cal l.prog w K mg base 0 1 "_law_gcd" ["one", "other"] m_law_gcd := ⟨⟨_, _, ok__law_gcd F18 B , PySem.W.mg_of X G a18, F18.kp, b18⟩⟩
  have C__law_lcm : Cal l.prog w K mg base 0 2 "_law_lcm" ["one", "other"] m_law_lcm := ⟨⟨_, _, ok__law_lcm F19 B C__law_gcd, PySem.W.mg_of X G a19, F19.kp, b19⟩⟩
  have C__law_divisors : Cal l.prog w K mg base 0 1 "_law_divisors" ["number"] m_law_divisors := ⟨⟨_, _, ok__law_divisors F20 B , PySem.W.mg_of X G a20, F20.kp, b20⟩⟩
  have C__law_numbers : Cal l.prog w K mg base 0 1 "_law_numbers" ["digits", "many", "wide"] m_law_numbers := ⟨⟨_, _, ok__law_numbers F21 B , PySem.W.mg_of X G a21, F21.kp, b21⟩⟩
  have C__law_table : Cal l.prog w K mg base 0 3 "_law_table" ["rows", "columns"] m_law_table := ⟨⟨_, _, ok__law_table F22 B C__law_lcm, PySem.W.mg_of X G a22, F22.kp, b22⟩⟩
  have C__law_hidden : Cal l.prog w K mg base 0 1 "_law_hidden" ["table", "digits", "often"] m_law_hidden := ⟨⟨_, _, ok__law_hidden F23 B , PySem.W.mg_of X G a23, F23.kp, b23⟩⟩
  have C__law_spoilt : Cal l.prog w K mg base 0 1 "_law_spoilt" ["table", "digits"] m_law_spoilt := ⟨⟨_, _, ok__law_spoilt F24 B , PySem.W.mg_of X G a24, F24.kp, b24⟩⟩
  have C__law_known : Cal l.prog w K mg base 0 1 "_law_known" ["table"] m_law_known := ⟨⟨_, _, ok__law_known F25 B , PySem.W.mg_of X G a25, F25.kp, b25⟩⟩
  have C__law_fits : Cal l.prog w K mg base 0 3 "_law_fits" ["table", "rows", "columns"] m_law_fits := ⟨⟨_, _, ok__law_fits F26 B C__law_known C__law_lcm, PySem.W.mg_of X G a26, F26.kp, b26⟩⟩
  have C__law_common : Cal l.prog w K mg base 0 2 "_law_common" ["entries"] m_law_common := ⟨⟨_, _, ok__law_common F27 B C__law_gcd, PySem.W.mg_of X G a27, F27.kp, b27⟩⟩
  have C__law_real : Cal l.prog w K mg base 0 4 "_law_real" ["table"] m_law_real := ⟨⟨_, _, ok__law_real F28 B C__law_common C__law_fits C__law_known, PySem.W.mg_of X G a28, F28.kp, b28⟩⟩
  have C__law_turned : Cal l.prog w K mg base 0 1 "_law_turned" ["table"] m_law_turned := ⟨⟨_, _, ok__law_turned F29 B , PySem.W.mg_of X G a29, F29.kp, b29⟩⟩
  have C__law_without : Cal l.prog w K mg base 0 1 "_law_without" ["table", "places"] m_law_without := ⟨⟨_, _, ok__law_without F30 B , PySem.W.mg_of X G a30, F30.kp, b30⟩⟩
  have C__law_with_entry : Cal l.prog w K mg base 0 1 "_law_with_entry" ["table", "row", "column", "entry"] m_law_with_entry := ⟨⟨_, _, ok__law_with_entry F31 B , PySem.W.mg_of X G a31, F31.kp, b31⟩⟩
  have C__law_alone : Cal l.prog w K mg base 0 2 "_law_alone" ["table", "row", "column"] m_law_alone := ⟨⟨_, _, ok__law_alone F32 B C__law_known, PySem.W.mg_of X G a32, F32.kp, b32⟩⟩
  have C__law_due : Cal l.prog w K mg base 0 5 "_law_due" ["table", "row", "column"] m_law_due := ⟨⟨_, _, ok__law_due F33 B C__law_common C__law_divisors C__law_known C__law_lcm C__law_real C__law_turned C__law_with_entry, PySem.W.mg_of X G a33, F33.kp, b33⟩⟩
  exact ok_law F34 B C__law_alone C__law_digits C__law_due C__law_hidden C__law_known C__law_numbers C__law_real C__law_spoilt C__law_table C__law_without C_single_mends
end My
open PySem PySem.W PyProof.Rows
set_option maxHeartbeats 0 in
theorem PySem.Challenge.cw_meetperiods_k23_whole_single_mends_holds : PySem.Challenge.rw_meetperiods_k23_whole_single_mends.Holds := by
  w_on; o_law; k_head; (case hw => w_witness2)
  k_fill
  refine L2.walk_of (l := PySem.Challenge.rw_meetperiods_k23_whole_single_mends) (n := 63) (k := 7) (x := "script") (CX := fun _ => L2.CX0) (sp := fun w => DL.spD _ 0 Mi.m_k23) rfl (by decide) rfl ⟨rfl, by decide, by decide⟩ (fun w h Y => PySem.W.kIn_of Y) ?F (fun _ H a ns hl _ hS => ⟨H, [.scr ns], .bl true, L2.Same.refl _, DL.RpL.one ⟨a, rfl, hS⟩, Mi.plain_k23 ns hl, fun _ _ _ _ r => r⟩) (fun _ _ _ _ _ h => h)
  case F =>
    intro w mg fa h KX G hmg
    refine' My.all_mk KX G hmg ?a0 ?l0 ?c0 ?k0 ?a1 ?l1 ?c1 ?k1 ?a2 ?l2 ?c2 ?k2 ?a3 ?l3 ?c3 ?k3 ?a4 ?l4 ?c4 ?k4 ?a5 ?l5 ?c5 ?k5 ?a6 ?l6 ?c6 ?k6 ?a7 ?l7 ?c7 ?k7 ?a8 ?l8 ?c8 ?k8 ?a9 ?l9 ?c9 ?k9 ?a10 ?l10 ?c10 ?k10 ?a11 ?l11 ?c11 ?k11 ?a12 ?l12 ?c12 ?k12 ?a13 ?l13 ?c13 ?k13 ?a14 ?l14 ?c14 ?k14 ?a15 ?l15 ?c15 ?k15 ?a16 ?l16 ?c16 ?k16 ?a17 ?l17 ?c17 ?k17 ?a18 ?l18 ?c18 ?k18 ?a19 ?l19 ?c19 ?k19 ?a20 ?l20 ?c20 ?k20 ?a21 ?l21 ?c21 ?k21 ?a22 ?l22 ?c22 ?k22 ?a23 ?l23 ?c23 ?k23 ?a24 ?l24 ?c24 ?k24 ?a25 ?l25 ?c25 ?k25 ?a26 ?l26 ?c26 ?k26 ?a27 ?l27 ?c27 ?k27 ?a28 ?l28 ?c28 ?k28 ?a29 ?l29 ?c29 ?k29 ?a30 ?l30 ?c30 ?k30 ?a31 ?l31 ?c31 ?k31 ?a32 ?l32 ?c32 ?k32 ?a33 ?l33 ?c33 ?k33 ?a34 ?l34 ?c34 ?k34 ?z_all ?z_enumerate ?z_len ?z_list ?z_range ?z_sorted ?z_tuple
    (case a0 => k_is)
    (case l0 => k_is)
    (case c0 => k_is)
    (case k0 => k_is)
    (case a1 => k_is)
    (case l1 => k_is)
    (case c1 => k_is)
    (case k1 => k_is)
    (case a2 => k_is)
    (case l2 => k_is)
    (case c2 => k_is)
    (case k2 => k_is)
    (case a3 => k_is)
    (case l3 => k_is)
    (case c3 => k_is)
    (case k3 => k_is)
    (case a4 => k_is)
    (case l4 => k_is)
    (case c4 => k_is)
    (case k4 => k_is)
    (case a5 => k_is)
    (case l5 => k_is)
    (case c5 => k_is)
    (case k5 => k_is)
    (case a6 => k_is)
    (case l6 => k_is)
    (case c6 => k_is)
    (case k6 => k_is)
    (case a7 => k_is)
    (case l7 => k_is)
    (case c7 => k_is)
    (case k7 => k_is)
    (case a8 => k_is)
    (case l8 => k_is)
    (case c8 => k_is)
    (case k8 => k_is)
    (case a9 => k_is)
    (case l9 => k_is)
    (case c9 => k_is)
    (case k9 => k_is)
    (case a10 => k_is)
    (case l10 => k_is)
    (case c10 => k_is)
    (case k10 => k_is)
    (case a11 => k_is)
    (case l11 => k_is)
    (case c11 => k_is)
    (case k11 => k_is)
    (case a12 => k_is)
    (case l12 => k_is)
    (case c12 => k_is)
    (case k12 => k_is)
    (case a13 => k_is)
    (case l13 => k_is)
    (case c13 => k_is)
    (case k13 => k_is)
    (case a14 => k_is)
    (case l14 => k_is)
    (case c14 => k_is)
    (case k14 => k_is)
    (case a15 => k_is)
    (case l15 => k_is)
    (case c15 => k_is)
    (case k15 => k_is)
    (case a16 => k_is)
    (case l16 => k_is)
    (case c16 => k_is)
    (case k16 => k_is)
    (case a17 => k_is)
    (case l17 => k_is)
    (case c17 => k_is)
    (case k17 => k_is)
    (case a18 => k_is)
    (case l18 => k_is)
    (case c18 => k_is)
    (case k18 => k_is)
    (case a19 => k_is)
    (case l19 => k_is)
    (case c19 => k_is)
    (case k19 => k_is)
    (case a20 => k_is)
    (case l20 => k_is)
    (case c20 => k_is)
    (case k20 => k_is)
    (case a21 => k_is)
    (case l21 => k_is)
    (case c21 => k_is)
    (case k21 => k_is)
    (case a22 => k_is)
    (case l22 => k_is)
    (case c22 => k_is)
    (case k22 => k_is)
    (case a23 => k_is)
    (case l23 => k_is)
    (case c23 => k_is)
    (case k23 => k_is)
    (case a24 => k_is)
    (case l24 => k_is)
    (case c24 => k_is)
    (case k24 => k_is)
    (case a25 => k_is)
    (case l25 => k_is)
    (case c25 => k_is)
    (case k25 => k_is)
    (case a26 => k_is)
    (case l26 => k_is)
    (case c26 => k_is)
    (case k26 => k_is)
    (case a27 => k_is)
    (case l27 => k_is)
    (case c27 => k_is)
    (case k27 => k_is)
    (case a28 => k_is)
    (case l28 => k_is)
    (case c28 => k_is)
    (case k28 => k_is)
    (case a29 => k_is)
    (case l29 => k_is)
    (case c29 => k_is)
    (case k29 => k_is)
    (case a30 => k_is)
    (case l30 => k_is)
    (case c30 => k_is)
    (case k30 => k_is)
    (case a31 => k_is)
    (case l31 => k_is)
    (case c31 => k_is)
    (case k31 => k_is)
    (case a32 => k_is)
    (case l32 => k_is)
    (case c32 => k_is)
    (case k32 => k_is)
    (case a33 => k_is)
    (case l33 => k_is)
    (case c33 => k_is)
    (case k33 => k_is)
    (case a34 => k_is)
    (case l34 => k_is)
    (case c34 => k_is)
    (case k34 => k_is)
    (case z_all => k_is)
    (case z_enumerate => k_is)
    (case z_len => k_is)
    (case z_list => k_is)
    (case z_range => k_is)
    (case z_sorted => k_is)
    (case z_tuple => k_is)
