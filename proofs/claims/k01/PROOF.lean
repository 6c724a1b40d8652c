import PyProof.Rows.All
import Wide.All
import OpenK.AllK
import Wide.FinOn
import HandS.ClsMeth
import HandS.Deep
import HandS.Flow
import HandS.ForMost
import HandS.GenCall
import HandS.GenList
import HandS.GenYield
import HandS.IsInst
import HandS.Property
import HandS.SetFor
import HandS.SortInts
import HandS.SortRule
import HandS.Star
import HandS.Strs
import HandS.Style
import HandS.TupAny
import HandS.TupLe
import HandS.TupMul
import HandS.TupSets
import HandS.Wide
import HandS.Zip
import KE.DataMinMax
import KE.GoesEnum
import KE.GoesMore
import KE.GoesZip
import KE.SortData
import PyProof.P3In
import PySem.Challenge.RW_meetperiods_k01_tables
set_option Elab.async false
set_option linter.all false
set_option maxRecDepth 100000
set_option maxHeartbeats 4000000
namespace DL
open PySem PySem.Spec PyProof.Rows L2
/-- other data: dicts (tuples of ints to ints) -/
inductive XD where
  | dic (kvs : List (List Int × Int))
def encD (kvs : List (List Int × Int)) : List (List L2.Key × V) := kvs.map fun p => (p.1.map Sum.inl, V.int p.2)
def RpX (H : Hp) : XD → V → Prop
  | .dic kvs, v => ∃ a, v = .ref a ∧ H a = some (.dT (encD kvs))
theorem RpX.mono {F F' : Hp} (s : Same F F') : ∀ (x : XD) (v : V), RpX F x v → RpX F' x v
  | .dic kvs, v, h => by
    obtain ⟨a, e, ha⟩ := h
    exact ⟨a, e, s _ _ ha⟩
/-- data: none, bools, ints, texts, tuples, lists, bells (by their periods), the script -/
inductive D where
  | non | bl (b : Bool) | int (i : Int) | str (x : Str) | tup (xs : List D) | lst (xs : List D) | bell (ps : List Int) | scr (ns : List Int) | ext (x : XD)
mutual
/-- v stands for d in the frozen heap H -/
def Rp (K : PySem.W.Frag) (C : Addr) (H : Hp) : D → V → Prop
  | .non, v => v = .non
  | .bl b, v => v = .bl b
  | .int i, v => v = .int i
  | .str x, v => v = .str x
  | .tup ds, v => ∃ a xs, v = .ref a ∧ H a = some (.tup xs) ∧ RpL K C H ds xs
  | .lst ds, v => ∃ a xs, v = .ref a ∧ H a = some (.lst xs) ∧ RpL K C H ds xs
  | .bell ps, v => ∃ a dx t, v = .ref a ∧ H a = some (.ins C dx [("row", .ref t)]) ∧ H t = some (.tup (ps.map V.int))
  | .scr ns, v => ∃ a, v = .ref a ∧ SqL K H a (ns.map V.int)
  | .ext x, v => RpX H x v
def RpL (K : PySem.W.Frag) (C : Addr) (H : Hp) : List D → List V → Prop
  | [], xs => xs = []
  | d :: ds, xs => ∃ x r, xs = x :: r ∧ Rp K C H d x ∧ RpL K C H ds r
end
section
variable {K : PySem.W.Frag} {C : Addr} {F F' H H' : Hp}
mutual
theorem Rp.mono (s : Same F F') : ∀ (d : D) (v : V), Rp K C F d v → Rp K C F' d v
  | .non, _, h => h
  | .bl _, _, h => h
  | .int _, _, h => h
  | .str _, _, h => h
  | .tup ds, v, h => by
    simp only [Rp] at h ⊢
    obtain ⟨a, xs, e, ha, hl⟩ := h
    exact ⟨a, xs, e, s _ _ ha, RpL.mono s ds xs hl⟩
  | .lst ds, v, h => by
    simp only [Rp] at h ⊢
    obtain ⟨a, xs, e, ha, hl⟩ := h
    exact ⟨a, xs, e, s _ _ ha, RpL.mono s ds xs hl⟩
  | .bell ps, v, h => by
    simp only [Rp] at h ⊢
    obtain ⟨a, dx, t, e, ha, ht⟩ := h
    exact ⟨a, dx, t, e, s _ _ ha, s _ _ ht⟩
  | .scr ns, v, h => by
    simp only [Rp] at h ⊢
    obtain ⟨a, e, ha⟩ := h
    exact ⟨a, e, s.seq ha⟩
  | .ext x, v, h => by
    simp only [Rp] at h ⊢
    exact RpX.mono s x v h
theorem RpL.mono (s : Same F F') : ∀ (ds : List D) (vs : List V), RpL K C F ds vs → RpL K C F' ds vs
  | [], _, h => h
  | d :: ds, vs, h => by
    simp only [RpL] at h ⊢
    obtain ⟨x, r, e, h1, h2⟩ := h
    exact ⟨x, r, e, Rp.mono s d x h1, RpL.mono s ds r h2⟩
end
theorem RpL.nil : RpL K C F [] [] := rfl
theorem RpL.cons {d : D} {ds : List D} {x : V} {r : List V} (h1 : Rp K C F d x) (h2 : RpL K C F ds r) : RpL K C F (d :: ds) (x :: r) := ⟨x, r, rfl, h1, h2⟩
theorem RpL.len : ∀ {ds : List D} {vs : List V}, RpL K C F ds vs → ds.length = vs.length
  | [], vs, h => by
    have e : vs = [] := h
    subst e
    rfl
  | d :: ds, vs, h => by
    obtain ⟨x, r, e, _, h2⟩ := h
    subst e
    rw [List.length_cons, List.length_cons, RpL.len h2]
theorem RpL.get : ∀ {ds : List D} {vs : List V} {i : Nat} {d : D}, RpL K C F ds vs → ds[i]? = some d → ∃ v, vs[i]? = some v ∧ Rp K C F d v
  | [], _, i, d, _, e => by simp at e
  | d0 :: ds, vs, i, d, h, e => by
    obtain ⟨x, r, e1, h1, h2⟩ := h
    subst e1
    cases i with
    | zero =>
      simp only [List.getElem?_cons_zero, Option.some.injEq] at e
      subst e
      exact ⟨x, rfl, h1⟩
    | succ i =>
      rw [List.getElem?_cons_succ] at e
      rw [List.getElem?_cons_succ]
      exact RpL.get h2 e
theorem RpL.append : ∀ {ds es : List D} {vs ws : List V}, RpL K C F ds vs → RpL K C F es ws → RpL K C F (ds ++ es) (vs ++ ws)
  | [], es, vs, ws, h, h' => by
    have e : vs = [] := h
    subst e
    exact h'
  | d :: ds, es, vs, ws, h, h' => by
    obtain ⟨x, r, e, h1, h2⟩ := h
    subst e
    exact RpL.cons h1 (RpL.append h2 h')
theorem RpL.one {d : D} {v : V} (h : Rp K C F d v) : RpL K C F [d] [v] := RpL.cons h RpL.nil
theorem RpL.set : ∀ {ds : List D} {vs : List V} (i : Nat) {d : D} {v : V}, RpL K C F ds vs → Rp K C F d v → RpL K C F (ds.set i d) (vs.set i v)
  | [], vs, i, d, v, h, _ => by
    have e : vs = [] := h
    subst e
    exact h
  | d0 :: ds, vs, i, d, v, h, hv => by
    obtain ⟨x, r, e, h1, h2⟩ := h
    subst e
    cases i with
    | zero => exact RpL.cons hv h2
    | succ i => exact RpL.cons h1 (RpL.set i h2 hv)
theorem RpL.drop : ∀ {ds : List D} {vs : List V} (n : Nat), RpL K C F ds vs → RpL K C F (ds.drop n) (vs.drop n)
  | ds, vs, 0, h => h
  | [], vs, n + 1, h => by
    have e : vs = [] := h
    subst e
    exact h
  | d :: ds, vs, n + 1, h => by
    obtain ⟨x, r, e, _, h2⟩ := h
    subst e
    exact RpL.drop n h2
theorem RpL.take : ∀ {ds : List D} {vs : List V} (n : Nat), RpL K C F ds vs → RpL K C F (ds.take n) (vs.take n)
  | _, _, 0, _ => rfl
  | [], vs, n + 1, h => by
    have e : vs = [] := h
    subst e
    exact h
  | d :: ds, vs, n + 1, h => by
    obtain ⟨x, r, e, h1, h2⟩ := h
    subst e
    exact RpL.cons h1 (RpL.take n h2)
theorem RpL.rep {ds : List D} {vs : List V} (h : RpL K C F ds vs) : ∀ k : Nat, RpL K C F (List.replicate k ds).flatten (List.replicate k vs).flatten
  | 0 => rfl
  | k + 1 => by
    rw [List.replicate_succ, List.replicate_succ, List.flatten_cons, List.flatten_cons]
    exact RpL.append h (RpL.rep h k)
theorem RpL.rev : ∀ {ds : List D} {vs : List V}, RpL K C F ds vs → RpL K C F ds.reverse vs.reverse
  | [], vs, h => by
    have e : vs = [] := h
    subst e
    exact h
  | d :: ds, vs, h => by
    obtain ⟨x, r, e, h1, h2⟩ := h
    subst e
    rw [List.reverse_cons, List.reverse_cons]
    exact RpL.append (RpL.rev h2) (RpL.one h1)
theorem RpL.ints : ∀ {ns : List Int} {vs : List V}, RpL K C F (ns.map D.int) vs → vs = ns.map V.int
  | [], vs, h => h
  | n :: ns, vs, h => by
    obtain ⟨x, r, e, h1, h2⟩ := h
    have h1' : x = .int n := h1
    rw [e, h1', RpL.ints h2]
    rfl
theorem RpL.ofInts : ∀ (ns : List Int), RpL K C F (ns.map D.int) (ns.map V.int)
  | [] => rfl
  | n :: ns => RpL.cons (show Rp K C F (.int n) (.int n) from rfl) (RpL.ofInts ns)
/-- one list and one tuple for each -/
theorem Rp.int {i : Int} {v : V} (h : Rp K C F (.int i) v) : v = .int i := h
theorem Rp.bl {b : Bool} {v : V} (h : Rp K C F (.bl b) v) : v = .bl b := h
/-- a step: more is frozen, all that stood stands, what is frozen anew is new -/
structure Stp (F H F' H' : Hp) : Prop where
  ff : Same F F'
  hh : Same H H'
  fh : Same F' H'
  old : ∀ a o, H a = some o → F' a = F a
theorem Stp.refl (fh : Same F H) : Stp F H F H := ⟨Same.refl _, Same.refl _, fh, fun _ _ _ => rfl⟩
theorem Stp.trans {F1 H1 F2 H2 : Hp} (a : Stp F H F1 H1) (b : Stp F1 H1 F2 H2) : Stp F H F2 H2 :=
  ⟨a.ff.trans b.ff, a.hh.trans b.hh, b.fh, fun x o h => (b.old x o (a.hh x o h)).trans (a.old x o h)⟩
theorem same_upd {H : Hp} {p : Addr} {o : HO} (h : H p = none) : Same H (upd H p o) := fun b x e => by
  rw [upd_ne (ne_of_none e h)]
  exact e
theorem none_of_same {F H : Hp} (s : Same F H) {p : Addr} (h : H p = none) : F p = none := s.free h
/-- a new object, frozen -/
theorem Stp.new (fh : Same F H) {p : Addr} {o : HO} (h : H p = none) : Stp F H (upd F p o) (upd H p o) := by
  refine ⟨same_upd (none_of_same fh h), same_upd h, fun b x e => ?_, fun a u e => upd_ne (ne_of_none e h)⟩
  by_cases hb : b = p
  · subst hb
    rw [upd_same] at e ⊢
    exact e
  · rw [upd_ne hb] at e ⊢
    exact fh b x e
/-- a new object that is not frozen -/
theorem Stp.own (fh : Same F H) {p : Addr} {o : HO} (h : H p = none) : Stp F H F (upd H p o) :=
  ⟨Same.refl _, same_upd h, fh.trans (same_upd h), fun _ _ _ => rfl⟩
abbrev Rho := List (Option D)
def lk : Rho → Nat → Option D
  | [], _ => none
  | x :: _, 0 => x
  | _ :: r, n + 1 => lk r n
def st : Rho → Nat → D → Rho
  | [], _, _ => []
  | _ :: r, 0, d => some d :: r
  | x :: r, n + 1, d => x :: st r n d
def un : Rho → Nat → Rho
  | [], _ => []
  | _ :: r, 0 => none :: r
  | x :: r, n + 1 => x :: un r n
def wipeR (ρ : Rho) : List Nat → Rho
  | [] => ρ
  | v :: vs => un (wipeR ρ vs) v
theorem st_len : ∀ (ρ : Rho) (i : Nat) (d : D), (st ρ i d).length = ρ.length
  | [], _, _ => rfl
  | _ :: _, 0, _ => rfl
  | x :: r, n + 1, d => by
    show (st r n d).length + 1 = r.length + 1
    rw [st_len r n d]
theorem un_len : ∀ (ρ : Rho) (i : Nat), (un ρ i).length = ρ.length
  | [], _ => rfl
  | _ :: _, 0 => rfl
  | x :: r, n + 1 => by
    show (un r n).length + 1 = r.length + 1
    rw [un_len r n]
theorem lk_lt : ∀ {ρ : Rho} {i : Nat} {d : D}, lk ρ i = some d → i < ρ.length
  | [], _, _, h => by simp [lk] at h
  | _ :: _, 0, _, _ => by simp
  | x :: r, n + 1, d, h => by
    have := lk_lt (ρ := r) (i := n) (d := d) h
    simpa using this
theorem lk_st_same : ∀ {ρ : Rho} {i : Nat} {d e : D}, lk (st ρ i d) i = some e → e = d
  | [], _, _, _, h => by simp [st, lk] at h
  | _ :: _, 0, d, e, h => by
    have h' : some d = some e := h
    exact (Option.some.inj h').symm
  | x :: r, n + 1, d, e, h => lk_st_same (ρ := r) (i := n) h
theorem lk_st_ne : ∀ {ρ : Rho} {i j : Nat} {d : D}, j ≠ i → lk (st ρ i d) j = lk ρ j
  | [], _, _, _, _ => rfl
  | _ :: _, 0, 0, _, h => absurd rfl h
  | _ :: _, 0, j + 1, _, _ => rfl
  | x :: r, n + 1, 0, d, _ => rfl
  | x :: r, n + 1, j + 1, d, h => lk_st_ne (ρ := r) (i := n) (j := j) fun e => h (by rw [e])
theorem lk_un_same : ∀ {ρ : Rho} {i : Nat}, lk (un ρ i) i = none
  | [], _ => rfl
  | _ :: _, 0 => rfl
  | x :: r, n + 1 => lk_un_same (ρ := r) (i := n)
theorem lk_un_ne : ∀ {ρ : Rho} {i j : Nat}, j ≠ i → lk (un ρ i) j = lk ρ j
  | [], _, _, _ => rfl
  | _ :: _, 0, 0, h => absurd rfl h
  | _ :: _, 0, j + 1, _ => rfl
  | x :: r, n + 1, 0, _ => rfl
  | x :: r, n + 1, j + 1, h => lk_un_ne (ρ := r) (i := n) (j := j) fun e => h (by rw [e])
/-- the slots σ hold ρ: frozen data, but at the places O lists of one's own -/
structure En (K : PySem.W.Frag) (C : Addr) (O : List Nat) (F H : Hp) (σ : L2.St) (ρ : Rho) : Prop where
  fh : Same F H
  len : σ.length = ρ.length
  pl : ∀ i d, i ∉ O → lk ρ i = some d → ∃ v, σ[i]? = some (some v) ∧ Rp K C F d v
  ow : ∀ i d, i ∈ O → lk ρ i = some d → ∃ p vs ds, σ[i]? = some (some (.ref p)) ∧ d = .lst ds ∧ H p = some (.lst vs) ∧ F p = none ∧ RpL K C F ds vs
  ap : ∀ i j d e p, i ∈ O → j ∈ O → lk ρ i = some d → lk ρ j = some e → σ[i]? = some (some (.ref p)) → σ[j]? = some (some (.ref p)) → i = j
variable {O : List Nat} {σ : L2.St} {ρ : Rho}
theorem En.step (h : En K C O F H σ ρ) (s : Stp F H F' H') : En K C O F' H' σ ρ where
  fh := s.fh
  len := h.len
  pl := fun i d hi e => by
    obtain ⟨v, h1, h2⟩ := h.pl i d hi e
    exact ⟨v, h1, Rp.mono s.ff d v h2⟩
  ow := fun i d hi e => by
    obtain ⟨p, vs, ds, h1, h2, h3, h4, h5⟩ := h.ow i d hi e
    exact ⟨p, vs, ds, h1, h2, s.hh _ _ h3, (s.old _ _ h3).trans h4, RpL.mono s.ff ds vs h5⟩
  ap := h.ap
theorem En.set {i : Nat} {d : D} {v : V} (h : En K C O F H σ ρ) (hi : i ∉ O) (hv : Rp K C F d v) : En K C O F H (σ.set i (some v)) (st ρ i d) where
  fh := h.fh
  len := by rw [List.length_set, st_len]; exact h.len
  pl := fun j e hj q => by
    by_cases hji : j = i
    · subst hji
      have e1 := lk_st_same q
      subst e1
      have hl := lk_lt q
      rw [st_len, ← h.len] at hl
      exact ⟨v, List.getElem?_set_self hl, hv⟩
    · rw [lk_st_ne hji] at q
      rw [List.getElem?_set_ne (Ne.symm hji)]
      exact h.pl j e hj q
  ow := fun j e hj q => by
    have hji : j ≠ i := fun z => hi (z ▸ hj)
    rw [lk_st_ne hji] at q
    rw [List.getElem?_set_ne (Ne.symm hji)]
    exact h.ow j e hj q
  ap := fun j k e e' p hj hk q1 q2 q3 q4 => by
    have hji : j ≠ i := fun z => hi (z ▸ hj)
    have hki : k ≠ i := fun z => hi (z ▸ hk)
    rw [lk_st_ne hji] at q1
    rw [lk_st_ne hki] at q2
    rw [List.getElem?_set_ne (Ne.symm hji)] at q3
    rw [List.getElem?_set_ne (Ne.symm hki)] at q4
    exact h.ap j k e e' p hj hk q1 q2 q3 q4
theorem En.unset {i : Nat} (h : En K C O F H σ ρ) : En K C O F H (σ.set i none) (un ρ i) where
  fh := h.fh
  len := by rw [List.length_set, un_len]; exact h.len
  pl := fun j e hj q => by
    by_cases hji : j = i
    · subst hji
      rw [lk_un_same] at q
      cases q
    · rw [lk_un_ne hji] at q
      rw [List.getElem?_set_ne (Ne.symm hji)]
      exact h.pl j e hj q
  ow := fun j e hj q => by
    have hji : j ≠ i := fun z => by
      subst z
      rw [lk_un_same] at q
      cases q
    rw [lk_un_ne hji] at q
    rw [List.getElem?_set_ne (Ne.symm hji)]
    exact h.ow j e hj q
  ap := fun j k e e' p hj hk q1 q2 q3 q4 => by
    have hji : j ≠ i := fun z => by
      subst z
      rw [lk_un_same] at q1
      cases q1
    have hki : k ≠ i := fun z => by
      subst z
      rw [lk_un_same] at q2
      cases q2
    rw [lk_un_ne hji] at q1
    rw [lk_un_ne hki] at q2
    rw [List.getElem?_set_ne (Ne.symm hji)] at q3
    rw [List.getElem?_set_ne (Ne.symm hki)] at q4
    exact h.ap j k e e' p hj hk q1 q2 q3 q4
theorem En.wipe (h : En K C O F H σ ρ) : ∀ vs : List Nat, En K C O F H (wipe σ vs) (wipeR ρ vs)
  | [] => h
  | v :: vs => by
    unfold L2.wipe wipeR
    exact (En.wipe h vs).unset
/-- a new list of one's own at the place i -/
theorem En.own {i : Nat} {p : Addr} {ds : List D} {vs : List V} (h : En K C O F H σ ρ) (hi : i ∉ O) (hH : H p = none) (hl : RpL K C F ds vs) :
    En K C (i :: O) F (upd H p (.lst vs)) (σ.set i (some (.ref p))) (st ρ i (.lst ds)) where
  fh := h.fh.trans (same_upd hH)
  len := by rw [List.length_set, st_len]; exact h.len
  pl := fun j e hj q => by
    have hji : j ≠ i := fun z => hj (by rw [z]; exact List.mem_cons_self)
    rw [lk_st_ne hji] at q
    rw [List.getElem?_set_ne (Ne.symm hji)]
    exact h.pl j e (fun z => hj (List.mem_cons_of_mem _ z)) q
  ow := fun j e hj q => by
    by_cases hji : j = i
    · subst hji
      have e1 := lk_st_same q
      subst e1
      have hl' := lk_lt q
      rw [st_len, ← h.len] at hl'
      exact ⟨p, vs, ds, List.getElem?_set_self hl', rfl, upd_same, h.fh.free hH, hl⟩
    · rw [lk_st_ne hji] at q
      rw [List.getElem?_set_ne (Ne.symm hji)]
      have hjO : j ∈ O := (List.mem_cons.mp hj).elim (fun z => absurd z hji) id
      obtain ⟨p', vs', ds', h1, h2, h3, h4, h5⟩ := h.ow j e hjO q
      exact ⟨p', vs', ds', h1, h2, by rw [upd_ne (ne_of_none h3 hH)]; exact h3, h4, h5⟩
  ap := fun j k e e' p' hj hk q1 q2 q3 q4 => by
    by_cases hji : j = i
    · by_cases hki : k = i
      · rw [hji, hki]
      · exfalso
        subst hji
        rw [lk_st_ne hki] at q2
        rw [List.getElem?_set_ne (Ne.symm hki)] at q4
        have hl' := lk_lt q1
        rw [st_len, ← h.len] at hl'
        rw [List.getElem?_set_self hl'] at q3
        cases q3
        have hkO : k ∈ O := (List.mem_cons.mp hk).elim (fun z => absurd z hki) id
        obtain ⟨p2, _, _, h1, _, h3, _, _⟩ := h.ow k e' hkO q2
        rw [h1] at q4
        cases q4
        rw [hH] at h3
        cases h3
    · by_cases hki : k = i
      · exfalso
        subst hki
        rw [lk_st_ne hji] at q1
        rw [List.getElem?_set_ne (Ne.symm hji)] at q3
        have hl' := lk_lt q2
        rw [st_len, ← h.len] at hl'
        rw [List.getElem?_set_self hl'] at q4
        cases q4
        have hjO : j ∈ O := (List.mem_cons.mp hj).elim (fun z => absurd z hji) id
        obtain ⟨p2, _, _, h1, _, h3, _, _⟩ := h.ow j e hjO q1
        rw [h1] at q3
        cases q3
        rw [hH] at h3
        cases h3
      · rw [lk_st_ne hji] at q1
        rw [lk_st_ne hki] at q2
        rw [List.getElem?_set_ne (Ne.symm hji)] at q3
        rw [List.getElem?_set_ne (Ne.symm hki)] at q4
        exact h.ap j k e e' p' ((List.mem_cons.mp hj).elim (fun z => absurd z hji) id) ((List.mem_cons.mp hk).elim (fun z => absurd z hki) id) q1 q2 q3 q4
/-- the list of one's own at i is changed -/
theorem En.mut {i : Nat} {p : Addr} {ds ds' : List D} {vs vs' : List V} (h : En K C O F H σ ρ) (hi : i ∈ O) (he : lk ρ i = some (.lst ds)) (hp : σ[i]? = some (some (.ref p))) (hH : H p = some (.lst vs)) (hF : F p = none) (hl : RpL K C F ds' vs') :
    En K C O F (upd H p (.lst vs')) σ (st ρ i (.lst ds')) where
  fh := fun b x e => by
    rw [upd_ne (ne_of_none e hF)]
    exact h.fh b x e
  len := by rw [st_len]; exact h.len
  pl := fun j e hj q => by
    have hji : j ≠ i := fun z => hj (z ▸ hi)
    rw [lk_st_ne hji] at q
    exact h.pl j e hj q
  ow := fun j e hj q => by
    by_cases hji : j = i
    · subst hji
      have e1 := lk_st_same q
      subst e1
      exact ⟨p, vs', ds', hp, rfl, upd_same, hF, hl⟩
    · rw [lk_st_ne hji] at q
      obtain ⟨p', vs2, ds2, h1, h2, h3, h4, h5⟩ := h.ow j e hj q
      have hne : p' ≠ p := fun z => by
        subst z
        exact hji (h.ap j i e _ _ hj hi q he h1 hp)
      exact ⟨p', vs2, ds2, h1, h2, by rw [upd_ne hne]; exact h3, h4, h5⟩
  ap := fun j k e e' p' hj hk q1 q2 q3 q4 => by
    have fx : ∀ {m : Nat} {x : D}, lk (st ρ i (.lst ds')) m = some x → ∃ y, lk ρ m = some y := fun {m x} q => by
      by_cases hm : m = i
      · exact ⟨_, hm ▸ he⟩
      · rw [lk_st_ne hm] at q
        exact ⟨_, q⟩
    obtain ⟨y1, z1⟩ := fx q1
    obtain ⟨y2, z2⟩ := fx q2
    exact h.ap j k y1 y2 p' hj hk z1 z2 q3 q4
/-- the list of one's own at i is frozen -/
theorem En.freeze {i : Nat} {O' : List Nat} (h : En K C O F H σ ρ) (hO : ∀ j, j ∈ O' ↔ j ∈ O ∧ j ≠ i) : ∃ F', Same F F' ∧ En K C O' F' H σ ρ ∧ (∀ a, F' a ≠ F a → i ∈ O ∧ ∃ d, lk ρ i = some d ∧ σ[i]? = some (some (.ref a))) := by
  by_cases hi : i ∈ O
  · cases e : lk ρ i with
    | none =>
      refine ⟨F, Same.refl _, ⟨h.fh, h.len, fun j d hj q => ?_, fun j d hj q => h.ow j d ((hO j).mp hj).1 q, fun j k d e p hj hk => h.ap j k d e p ((hO j).mp hj).1 ((hO k).mp hk).1⟩, fun a z => absurd rfl z⟩
      by_cases hji : j = i
      · subst hji
        rw [e] at q
        cases q
      · exact h.pl j d (fun z => hj ((hO j).mpr ⟨z, hji⟩)) q
    | some d =>
      obtain ⟨p, vs, ds, h1, rfl, h3, h4, h5⟩ := h.ow i d hi e
      have sm : Same F (upd F p (.lst vs)) := same_upd h4
      refine ⟨upd F p (.lst vs), sm, ⟨fun b x q => ?_, h.len, fun j d' hj q => ?_, fun j d' hj q => ?_, fun j k d e p hj hk => h.ap j k d e p ((hO j).mp hj).1 ((hO k).mp hk).1⟩, fun a z => ?_⟩
      · by_cases hb : b = p
        · subst hb
          rw [upd_same] at q
          rw [← q]
          exact h3
        · rw [upd_ne hb] at q
          exact h.fh b x q
      · by_cases hji : j = i
        · subst hji
          rw [e] at q
          cases q
          exact ⟨.ref p, h1, p, vs, rfl, upd_same, RpL.mono sm ds vs h5⟩
        · obtain ⟨v, q1, q2⟩ := h.pl j d' (fun z => hj ((hO j).mpr ⟨z, hji⟩)) q
          exact ⟨v, q1, Rp.mono sm d' v q2⟩
      · obtain ⟨hjO, hji⟩ := (hO j).mp hj
        obtain ⟨p', vs', ds', g1, g2, g3, g4, g5⟩ := h.ow j d' hjO q
        have hne : p' ≠ p := fun z => by
          subst z
          exact hji (h.ap j i _ _ _ hjO hi q e g1 h1)
        exact ⟨p', vs', ds', g1, g2, g3, by rw [upd_ne hne]; exact g4, RpL.mono sm ds' vs' g5⟩
      · by_cases ha : a = p
        · subst ha
          exact ⟨hi, _, rfl, h1⟩
        · rw [upd_ne ha] at z
          exact absurd rfl z
  · refine ⟨F, Same.refl _, ⟨h.fh, h.len, fun j d hj q => h.pl j d (fun z => hj ((hO j).mpr ⟨z, fun w => hi (w ▸ z)⟩)) q, fun j d hj q => h.ow j d ((hO j).mp hj).1 q, fun j k d e p hj hk => h.ap j k d e p ((hO j).mp hj).1 ((hO k).mp hk).1⟩, fun a z => absurd rfl z⟩
end
end DL
namespace DL
open PySem PySem.Spec PyProof.Rows L2
abbrev DF := Rho → Option D
abbrev DFs := Rho → Option (List D)
abbrev DB := Rho → Option Bool
/-- what a computed value leaves -/
def Got (K : PySem.W.Frag) (C : Addr) (F H : Hp) (d : D) (Q : VK) : Prop := ∀ v F' H', Stp F H F' H' → Rp K C F' d v → Q v H'
theorem Got.step {K : PySem.W.Frag} {C : Addr} {F H F' H' : Hp} {d : D} {Q : VK} (h : Got K C F H d Q) (s : Stp F H F' H') : Got K C F' H' d Q := fun v F2 H2 s2 r => h v F2 H2 (s.trans s2) r
def tD (K : PySem.W.Frag) (C : Addr) (O : List Nat) (f : DF) : TE := fun σ H Q => ∃ F ρ d, En K C O F H σ ρ ∧ f ρ = some d ∧ Got K C F H d Q
def tDA (K : PySem.W.Frag) (C : Addr) (O : List Nat) (f : DFs) : TA := fun σ H Q => ∃ F ρ ds, En K C O F H σ ρ ∧ f ρ = some ds ∧ ∀ vs F' H', Stp F H F' H' → RpL K C F' ds vs → Q vs H'
def tDT (K : PySem.W.Frag) (C : Addr) (O : List Nat) (g : DB) : TT := fun σ H Q => ∃ F ρ b, En K C O F H σ ρ ∧ g ρ = some b ∧ ∀ F' H', Stp F H F' H' → Q b H'
def rD2 (K : PySem.W.Frag) (C : Addr) (op : D → D → Option D) : R2 := fun x y H Q => ∃ F d e c, Same F H ∧ Rp K C F d x ∧ Rp K C F e y ∧ op d e = some c ∧ Got K C F H c Q
def rDL (K : PySem.W.Frag) (C : Addr) (op : List D → Option D) : List V → Hp → VK → Prop := fun xs H Q => ∃ F ds c, Same F H ∧ RpL K C F ds xs ∧ op ds = some c ∧ Got K C F H c Q
abbrev DE (X : Cx) (C : Addr) (O : List Nat) (e : Expr) (f : DF) : Prop := PE X e (tD X.K C O f)
abbrev DT (X : Cx) (C : Addr) (O : List Nat) (e : Expr) (g : DB) : Prop := PT X e (tDT X.K C O g)
abbrev DWt (X : Cx) (C : Addr) (O : List Nat) (e : Expr) (g : DB) : Prop := PW X e (tDT X.K C O g)
abbrev DA (X : Cx) (C : Addr) (O : List Nat) (es : List Expr) (f : DFs) : Prop := PA X es (tDA X.K C O f)
abbrev OpD (X : Cx) (C : Addr) (f : Value → Value → Sem Value) (op : D → D → Option D) : Prop := OpR X f (rD2 X.K C op)
abbrev CallD (X : Cx) (C : Addr) (f : Value) (op : List D → Option D) : Prop := CallR X f (rDL X.K C op)
abbrev IxD (X : Cx) (C : Addr) (op : D → D → Option D) : Prop := IxR X (rD2 X.K C op)
section
variable {X : Cx}
theorem PEw {e : Expr} {t t' : TE} (h : PE X e t) (w : ∀ σ H Q, t' σ H Q → t σ H Q) : PE X e t' := ⟨fun pins s σ H Q I q => h.run pins s σ H Q I (w σ H Q q)⟩
theorem PTw {e : Expr} {t t' : TT} (h : PT X e t) (w : ∀ σ H Q, t' σ H Q → t σ H Q) : PT X e t' := ⟨fun pins s σ H Q I q => h.run pins s σ H Q I (w σ H Q q)⟩
theorem PWw {e : Expr} {t t' : TT} (h : PW X e t) (w : ∀ σ H Q, t' σ H Q → t σ H Q) : PW X e t' := ⟨fun wh pins s σ H Q I q => h.run wh pins s σ H Q I (w σ H Q q)⟩
theorem PAw {es : List Expr} {t t' : TA} (h : PA X es t) (w : ∀ σ H Q, t' σ H Q → t σ H Q) : PA X es t' := ⟨fun pos pins s σ H Q I q => h.run pos pins s σ H Q I (w σ H Q q)⟩
theorem PSw {e : Stmt} {t t' : TS} (h : PS X e t) (w : ∀ D σ H, t' D σ H → t D σ H) : PS X e t' := ⟨fun pins s σ H D I q => h.run pins s σ H D I (w D σ H q)⟩
theorem PSsw {e : List Stmt} {t t' : TS} (h : PSs X e t) (w : ∀ D σ H, t' D σ H → t D σ H) : PSs X e t' := ⟨fun pins s σ H D I q => h.run pins s σ H D I (w D σ H q)⟩
theorem OpRw {f : Value → Value → Sem Value} {r r' : R2} (h : OpR X f r) (w : ∀ x y H Q, r' x y H Q → r x y H Q) : OpR X f r' := fun pins s σ H x y v u Q I rx ry q => h pins s σ H x y v u Q I rx ry (w x y H Q q)
theorem CallRw {f : Value} {r r' : List V → Hp → VK → Prop} (h : CallR X f r) (w : ∀ xs H Q, r' xs H Q → r xs H Q) : CallR X f r' := fun pins s σ H xs us Q I r q => h pins s σ H xs us Q I r (w xs H Q q)
end
def dv (i : Nat) : DF := fun ρ => lk ρ i
def dc (d : D) : DF := fun _ => some d
def d2 (op : D → D → Option D) (f g : DF) : DF := fun ρ => (f ρ).bind fun x => (g ρ).bind fun y => op x y
def d1 (op : D → Option D) (f : DF) : DF := fun ρ => (f ρ).bind op
def dnil : DFs := fun _ => some []
def dcons (f : DF) (g : DFs) : DFs := fun ρ => (f ρ).bind fun x => (g ρ).bind fun xs => some (x :: xs)
def dL (op : List D → Option D) (f : DFs) : DF := fun ρ => (f ρ).bind op
def asB : D → Option Bool
  | .bl b => some b
  | _ => none
theorem asB_some {d : D} {b : Bool} (h : asB d = some b) : d = .bl b := by
  cases d <;> first | (cases h; rfl) | cases h
def bV (f : DF) : DB := fun ρ => (f ρ).bind asB
def dB (g : DB) : DF := fun ρ => (g ρ).bind fun b => some (.bl b)
def bAnd (g h : DB) : DB := fun ρ => (g ρ).bind fun b => if b = true then h ρ else some false
def bOr (g h : DB) : DB := fun ρ => (g ρ).bind fun b => if b = true then some true else h ρ
def bNot (g : DB) : DB := fun ρ => (g ρ).bind fun b => some (!b)
def dIf (g : DB) (f h : DF) : DF := fun ρ => (g ρ).bind fun b => if b = true then f ρ else h ρ
def opTup (ds : List D) : Option D := if ds.length ≤ 100000 then some (.tup ds) else none
def opLst (ds : List D) : Option D := if ds.length ≤ 100000 then some (.lst ds) else none
section
variable {X : Cx} {C : Addr} {O : List Nat} {a b c e : Expr} {es : List Expr} {f g h : DF} {fs : DFs} {p q r : DB} {pos : Pos}
theorem sz100 {n : Nat} (h : n ≤ 100000) : n ≤ sizeLine := Nat.le_trans h (by decide)
theorem de_var (i : Nat) {x : Str} (hN : X.N[i]? = some x := by rfl) (hv : Vis X.env.scope x := by first | exact Or.inl rfl | exact Or.inr (Or.inl rfl) | exact Or.inr (Or.inr rfl)) (hi : i ∉ O := by decide)
    (hd : (x == ("__debug__" : Str)) = false := by decide) (hcd : (x == ("__classdict__" : Str)) = false := by decide) : DE X C O (.Name x pos) (dv i) :=
  PEw (pe_var hN hv hd hcd) fun σ H Q ⟨F, ρ, d, E, hf, k⟩ => by
    obtain ⟨v, h1, h2⟩ := E.pl i d hi hf
    exact ⟨v, h1, k v F H (Stp.refl E.fh) h2⟩
theorem de_int {i : Int} {j : Nat} : DE X C O (.Constant (.int i) j pos) (dc (.int i)) := PEw pe_int fun σ H Q ⟨F, ρ, d, E, hf, k⟩ => by
  cases hf
  exact k (.int i) F H (Stp.refl E.fh) rfl
theorem de_bl {i : Bool} {j : Nat} : DE X C O (.Constant (.bool i) j pos) (dc (.bl i)) := PEw pe_bl fun σ H Q ⟨F, ρ, d, E, hf, k⟩ => by
  cases hf
  exact k (.bl i) F H (Stp.refl E.fh) rfl
theorem de_non {j : Nat} : DE X C O (.Constant .none j pos) (dc .non) := PEw pe_non fun σ H Q ⟨F, ρ, d, E, hf, k⟩ => by
  cases hf
  exact k .non F H (Stp.refl E.fh) rfl
theorem de_str {i : Str} {j : Nat} : DE X C O (.Constant (.str i) j pos) (dc (.str i)) := PEw pe_str fun σ H Q ⟨F, ρ, d, E, hf, k⟩ => by
  cases hf
  exact k (.str i) F H (Stp.refl E.fh) rfl
theorem bind_some {α β : Type} {o : Option α} {k : α → Option β} {y : β} (h : o.bind k = some y) : ∃ x, o = some x ∧ k x = some y := by
  cases o with
  | none => cases h
  | some x => exact ⟨x, rfl, h⟩
/-- two in a row -/
theorem two {K : PySem.W.Frag} {op : D → D → Option D} {σ : L2.St} {H : Hp} {Q : VK} (hw : tD K C O (d2 op f g) σ H Q) : tOp (rD2 K C op) (tD K C O f) (tD K C O g) σ H Q := by
  obtain ⟨F, ρ, d, E, hf, k⟩ := hw
  obtain ⟨x, h1, hf⟩ := bind_some hf
  obtain ⟨y, h2, hf⟩ := bind_some hf
  refine ⟨F, ρ, x, E, h1, fun v F1 H1 s1 r1 => ⟨F1, ρ, y, E.step s1, h2, fun u F2 H2 s2 r2 => ?_⟩⟩
  exact ⟨F2, x, y, d, s2.fh, Rp.mono s2.ff x v r1, r2, hf, k.step (s1.trans s2)⟩
theorem de_op {op : Operator} {o : D → D → Option D} (ho : OpD X C (binaryOp op) o) (ha : DE X C O a f) (hb : DE X C O b g) : DE X C O (.BinOp a op b pos) (d2 o f g) := PEw (pe_op ho ha hb) fun _ _ _ hw => two hw
theorem de_cmp {op : CmpOp} {o : D → D → Option D} (ho : OpD X C (compareOp op) o) (ha : DE X C O a f) (hb : DE X C O b g) (hm : behindInMarks op b = false := by first | exact nomark _ | rfl | with_unfolding_all rfl) : DE X C O (.Compare a [op] [b] pos) (d2 o f g) :=
  PEw (pe_cmpR ho ha hb hm) fun _ _ _ hw => two hw
theorem dt_cmp {op : CmpOp} {o : D → D → Option D} (ho : OpD X C (compareOp op) o) (ha : DE X C O a f) (hb : DE X C O b g) (hm : behindInMarks op b = false := by first | exact nomark _ | rfl | with_unfolding_all rfl) : DT X C O (.Compare a [op] [b] pos) (bV (d2 o f g)) :=
  PTw (pt_cmpR ho ha hb hm) fun σ H Q ⟨F, ρ, t, E, hf, k⟩ => by
    obtain ⟨d, h1, h2⟩ := bind_some hf
    refine two ⟨F, ρ, d, E, h1, fun v F' H' s' r' => ?_⟩
    obtain rfl := asB_some h2
    exact ⟨t, r', k F' H' s'⟩
def dCh (o o' : D → D → Option D) (f g h : DF) : DF := fun ρ => (f ρ).bind fun x => (g ρ).bind fun y => (o x y).bind fun z => (asB z).bind fun k => if k = true then (h ρ).bind fun w => o' y w else some (.bl false)
theorem three {K : PySem.W.Frag} {o o' : D → D → Option D} {σ : L2.St} {H : Hp} {Q : VK} (hw : tD K C O (dCh o o' f g h) σ H Q) : tChain (rD2 K C o) (rD2 K C o') (tD K C O f) (tD K C O g) (tD K C O h) σ H Q := by
  obtain ⟨F, ρ, d, E, hf, k⟩ := hw
  obtain ⟨x, h1, hf1⟩ := bind_some hf
  obtain ⟨y, h2, hf2⟩ := bind_some hf1
  obtain ⟨z, h3, hf3⟩ := bind_some hf2
  obtain ⟨t, h4, hf4⟩ := bind_some hf3
  obtain rfl := asB_some h4
  clear hf hf1 hf2 hf3
  refine ⟨F, ρ, x, E, h1, fun v F1 H1 s1 r1 => ⟨F1, ρ, y, E.step s1, h2, fun u F2 H2 s2 r2 => ⟨F2, x, y, _, s2.fh, Rp.mono s2.ff x v r1, r2, h3, fun z' F3 H3 s3 r3 => ?_⟩⟩⟩
  refine ⟨t, r3, ?_⟩
  cases t with
  | true =>
    rw [if_pos rfl] at hf4 ⊢
    obtain ⟨w', h5, hf5⟩ := bind_some hf4
    refine ⟨F3, ρ, w', E.step (s1.trans (s2.trans s3)), h5, fun w4 F4 H4 s4 r4 => ?_⟩
    exact ⟨F4, y, w', d, s4.fh, Rp.mono (s3.ff.trans s4.ff) y u r2, r4, hf5, k.step (s1.trans (s2.trans (s3.trans s4)))⟩
  | false =>
    rw [if_neg Bool.false_ne_true] at hf4 ⊢
    cases hf4
    exact k _ F3 H3 (s1.trans (s2.trans s3)) rfl
theorem de_chain {op op' : CmpOp} {o o' : D → D → Option D} (ho : OpD X C (compareOp op) o) (ho' : OpD X C (compareOp op') o') (ha : DE X C O a f) (hb : DE X C O b g) (hc : DE X C O c h)
    (hm : lastMarks [op, op'] [b, c] = false := by with_unfolding_all rfl) : DE X C O (.Compare a [op, op'] [b, c] pos) (dCh o o' f g h) := PEw (pe_chain ho ho' ha hb hc hm) fun _ _ _ hw => three hw
theorem dt_chain {op op' : CmpOp} {o o' : D → D → Option D} (ho : OpD X C (compareOp op) o) (ho' : OpD X C (compareOp op') o') (ha : DE X C O a f) (hb : DE X C O b g) (hc : DE X C O c h)
    (hm : lastMarks [op, op'] [b, c] = false := by with_unfolding_all rfl) : DT X C O (.Compare a [op, op'] [b, c] pos) (bV (dCh o o' f g h)) :=
  PTw (pt_chain ho ho' ha hb hc hm) fun σ H Q ⟨F, ρ, t, E, hf, k⟩ => by
    obtain ⟨d, h1, h2⟩ := bind_some hf
    refine three ⟨F, ρ, d, E, h1, fun v F' H' s' r' => ?_⟩
    obtain rfl := asB_some h2
    exact ⟨t, r', k F' H' s'⟩
theorem dt_val (ha : DE X C O a f) (he : ∀ whole, isTrue a X.env whole = (do let v ← whole; standAt a.pos; holding [v] (truthy v)) := by intro _; rfl) : DT X C O a (bV f) :=
  PTw (pt_val ha he) fun σ H Q ⟨F, ρ, t, E, hf, k⟩ => by
    obtain ⟨d, h1, h2⟩ := bind_some hf
    refine ⟨F, ρ, d, E, h1, fun v F' H' s' r' => ?_⟩
    obtain rfl := asB_some h2
    exact ⟨t, r', k F' H' s'⟩
theorem and_rd {K : PySem.W.Frag} {σ : L2.St} {H : Hp} {Q : Bool → Hp → Prop} (hw : tDT K C O (bAnd p q) σ H Q) : tAnd (tDT K C O p) (tDT K C O q) σ H Q := by
  obtain ⟨F, ρ, t, E, hf, k⟩ := hw
  obtain ⟨d, h1, hf⟩ := bind_some hf
  refine ⟨F, ρ, d, E, h1, fun F1 H1 s1 => ?_⟩
  cases d with
  | true =>
    rw [if_pos rfl] at hf ⊢
    exact ⟨F1, ρ, t, E.step s1, hf, fun F2 H2 s2 => k F2 H2 (s1.trans s2)⟩
  | false =>
    rw [if_neg Bool.false_ne_true] at hf ⊢
    cases hf
    exact k F1 H1 s1
theorem or_rd {K : PySem.W.Frag} {σ : L2.St} {H : Hp} {Q : Bool → Hp → Prop} (hw : tDT K C O (bOr p q) σ H Q) : tOr (tDT K C O p) (tDT K C O q) σ H Q := by
  obtain ⟨F, ρ, t, E, hf, k⟩ := hw
  obtain ⟨d, h1, hf⟩ := bind_some hf
  refine ⟨F, ρ, d, E, h1, fun F1 H1 s1 => ?_⟩
  cases d with
  | false =>
    rw [if_neg Bool.false_ne_true] at hf ⊢
    exact ⟨F1, ρ, t, E.step s1, hf, fun F2 H2 s2 => k F2 H2 (s1.trans s2)⟩
  | true =>
    rw [if_pos rfl] at hf ⊢
    cases hf
    exact k F1 H1 s1
variable {rest : List Expr}
theorem dw_and1 (ha : DT X C O a p) : DWt X C O (.BoolOp .And [a] pos) p := pw_and1 ha
theorem dw_or1 (ha : DT X C O a p) : DWt X C O (.BoolOp .Or [a] pos) p := pw_or1 ha
theorem dw_and (ha : DT X C O a p) (hb : DWt X C O (.BoolOp .And (b :: rest) pos) q) : DWt X C O (.BoolOp .And (a :: b :: rest) pos) (bAnd p q) := PWw (pw_and ha hb) fun _ _ _ hw => and_rd hw
theorem dw_or (ha : DT X C O a p) (hb : DWt X C O (.BoolOp .Or (b :: rest) pos) q) : DWt X C O (.BoolOp .Or (a :: b :: rest) pos) (bOr p q) := PWw (pw_or ha hb) fun _ _ _ hw => or_rd hw
theorem dt_w (h : DWt X C O e p) : DT X C O e p := h.pt
theorem dt_not (ha : DT X C O a p) : DT X C O (.UnaryOp .Not a pos) (bNot p) := PTw (pt_not ha) fun σ H Q ⟨F, ρ, t, E, hf, k⟩ => by
  obtain ⟨d, h1, hf⟩ := bind_some hf
  cases hf
  exact ⟨F, ρ, d, E, h1, k⟩
/-- and, or, not as values (of bools) -/
theorem de_one {op : BoolOp} (ha : DE X C O a f) : DE X C O (.BoolOp op [a] pos) f := pe_one ha
def dAnd (f g : DF) : DF := fun ρ => (f ρ).bind fun x => (asB x).bind fun b => if b = true then g ρ else some (.bl false)
def dOr (f g : DF) : DF := fun ρ => (f ρ).bind fun x => (asB x).bind fun b => if b = true then some (.bl true) else g ρ
def dNot (f : DF) : DF := fun ρ => (f ρ).bind fun x => (asB x).bind fun b => some (.bl (!b))
theorem de_and (ha : DE X C O a f) (hb : DE X C O (.BoolOp .And (b :: rest) pos) g) : DE X C O (.BoolOp .And (a :: b :: rest) pos) (dAnd f g) := PEw (pe_and ha hb) fun σ H Q ⟨F, ρ, t, E, hf, k⟩ => by
  obtain ⟨x, h1, hf1⟩ := bind_some hf
  obtain ⟨d, h2, hf2⟩ := bind_some hf1
  obtain rfl := asB_some h2
  clear hf hf1
  have hf := hf2
  clear hf2
  refine ⟨F, ρ, _, E, h1, fun v F1 H1 s1 r1 => ⟨d, r1, ?_⟩⟩
  cases d with
  | true =>
    rw [if_pos rfl] at hf ⊢
    exact ⟨F1, ρ, t, E.step s1, hf, k.step s1⟩
  | false =>
    rw [if_neg Bool.false_ne_true] at hf ⊢
    cases hf
    exact k _ F1 H1 s1 rfl
theorem de_or (ha : DE X C O a f) (hb : DE X C O (.BoolOp .Or (b :: rest) pos) g) : DE X C O (.BoolOp .Or (a :: b :: rest) pos) (dOr f g) := PEw (pe_or ha hb) fun σ H Q ⟨F, ρ, t, E, hf, k⟩ => by
  obtain ⟨x, h1, hf1⟩ := bind_some hf
  obtain ⟨d, h2, hf2⟩ := bind_some hf1
  obtain rfl := asB_some h2
  clear hf hf1
  have hf := hf2
  clear hf2
  refine ⟨F, ρ, _, E, h1, fun v F1 H1 s1 r1 => ⟨d, r1, ?_⟩⟩
  cases d with
  | false =>
    rw [if_neg Bool.false_ne_true] at hf ⊢
    exact ⟨F1, ρ, t, E.step s1, hf, k.step s1⟩
  | true =>
    rw [if_pos rfl] at hf ⊢
    cases hf
    exact k _ F1 H1 s1 rfl
theorem de_not (ha : DE X C O a f) : DE X C O (.UnaryOp .Not a pos) (dNot f) := PEw (pe_not ha) fun σ H Q ⟨F, ρ, t, E, hf, k⟩ => by
  obtain ⟨x, h1, hf1⟩ := bind_some hf
  obtain ⟨d, h2, hf2⟩ := bind_some hf1
  obtain rfl := asB_some h2
  clear hf hf1
  have hf := hf2
  clear hf2
  cases hf
  exact ⟨F, ρ, _, E, h1, fun v F1 H1 s1 r1 => ⟨d, r1, k _ F1 H1 s1 rfl⟩⟩
theorem de_if (ht : DT X C O c p) (ha : DE X C O a f) (hb : DE X C O b g) : DE X C O (.IfExp c a b pos) (dIf p f g) := PEw (pe_ifExp ht ha hb) fun σ H Q ⟨F, ρ, t, E, hf, k⟩ => by
  obtain ⟨d, h1, hf⟩ := bind_some hf
  refine ⟨F, ρ, d, E, h1, fun F1 H1 s1 => ?_⟩
  cases d with
  | true =>
    rw [if_pos rfl] at hf ⊢
    exact ⟨F1, ρ, t, E.step s1, hf, k.step s1⟩
  | false =>
    rw [if_neg Bool.false_ne_true] at hf ⊢
    exact ⟨F1, ρ, t, E.step s1, hf, k.step s1⟩
theorem da_nil : DA X C O [] dnil := PAw pa_nil fun σ H Q ⟨F, ρ, t, E, hf, k⟩ => by
  cases hf
  exact k [] F H (Stp.refl E.fh) RpL.nil
theorem da_cons (ha : DE X C O a f) (hr : DA X C O es fs) (hs : starEach (a :: es) X.env = (false, eval a X.env) :: starEach es X.env := by rfl) : DA X C O (a :: es) (dcons f fs) := PAw (pa_cons ha hr hs) fun σ H Q ⟨F, ρ, t, E, hf, k⟩ => by
  obtain ⟨x, h1, hf⟩ := bind_some hf
  obtain ⟨xs, h2, hf⟩ := bind_some hf
  cases hf
  exact ⟨F, ρ, x, E, h1, fun v F1 H1 s1 r1 => ⟨F1, ρ, xs, E.step s1, h2, fun vs F2 H2 s2 r2 => k _ F2 H2 (s1.trans s2) (RpL.cons (Rp.mono s2.ff x v r1) r2)⟩⟩
theorem de_tup {j : Nat} (ha : DA X C O es fs) : DE X C O (.Tuple es j pos) (dL opTup fs) := PEw (pe_tup ha) fun σ H Q ⟨F, ρ, t, E, hf, k⟩ => by
  obtain ⟨ds, h1, hf⟩ := bind_some hf
  unfold opTup at hf
  split at hf
  · rename_i hz
    cases hf
    refine ⟨F, ρ, ds, E, h1, fun vs F1 H1 s1 r1 => ⟨by rw [← r1.len]; exact sz100 hz, fun p hp => ?_⟩⟩
    have s2 := Stp.new (o := .tup vs) s1.fh hp
    exact k _ _ _ (s1.trans s2) ⟨p, vs, rfl, upd_same, RpL.mono s2.ff _ _ r1⟩
  · cases hf
theorem de_lst (ha : DA X C O es fs) : DE X C O (.List es pos) (dL opLst fs) := PEw (pe_lst ha) fun σ H Q ⟨F, ρ, t, E, hf, k⟩ => by
  obtain ⟨ds, h1, hf⟩ := bind_some hf
  unfold opLst at hf
  split at hf
  · rename_i hz
    cases hf
    refine ⟨F, ρ, ds, E, h1, fun vs F1 H1 s1 r1 => ⟨by rw [← r1.len]; exact sz100 hz, fun p hp => ?_⟩⟩
    have s2 := Stp.new (o := .lst vs) s1.fh hp
    exact k _ _ _ (s1.trans s2) ⟨p, vs, rfl, upd_same, RpL.mono s2.ff _ _ r1⟩
  · cases hf
theorem rdl_rd {K : PySem.W.Frag} {o : List D → Option D} {σ : L2.St} {H : Hp} {Q : VK} (hw : tD K C O (dL o fs) σ H Q) : tCB (rDL K C o) (tDA K C O fs) σ H Q := by
  obtain ⟨F, ρ, t, E, hf, k⟩ := hw
  obtain ⟨ds, h1, hf⟩ := bind_some hf
  exact ⟨F, ρ, ds, E, h1, fun vs F1 H1 s1 r1 => ⟨F1, ds, t, s1.fh, r1, hf, k.step s1⟩⟩
theorem de_callB {x : Str} {id : String} {p : Pos} {o : List D → Option D} (hc : CallD X C (.builtin id) o) (hg : Gl X x) (hm : X.mg x = none) (hv : bootBuiltins x = some (.builtin id)) (ha : DA X C O (e :: es) fs)
    (hn : x ≠ "__name__" := by decide) (hd : (x == ("__debug__" : Str)) = false := by decide) (he : starEach (e :: es) X.env = (false, eval e X.env) :: starEach es X.env := by rfl) (hpl : (backTo pos (starEach es X.env)).any (·.1) = false := by rfl) :
    DE X C O (.Call (.Name x p) (e :: es) [] pos) (dL o fs) := PEw (by first | exact pe_callB hc hg hm hv ha | exact pe_callB hc hg hm hv ha hn hd he hpl) fun _ _ _ hw => rdl_rd hw
theorem de_callTy {x : Str} {T : String} {p : Pos} {o : List D → Option D} (hc : CallD X C (.type T) o) (hg : Gl X x) (hm : X.mg x = none) (hv : bootBuiltins x = some (.type T)) (ha : DA X C O (e :: es) fs)
    (hn : x ≠ "__name__" := by decide) (hd : (x == ("__debug__" : Str)) = false := by decide) (he : starEach (e :: es) X.env = (false, eval e X.env) :: starEach es X.env := by rfl) (hpl : (backTo pos (starEach es X.env)).any (·.1) = false := by rfl) :
    DE X C O (.Call (.Name x p) (e :: es) [] pos) (dL o fs) := PEw (by first | exact pe_callTy hc hg hm hv ha | exact pe_callTy hc hg hm hv ha hn hd he hpl) fun _ _ _ hw => rdl_rd hw
/-- the promise of a pure def -/
def spD (K : PySem.W.Frag) (C : Addr) (m : List D → Option D) : Sp := fun vs H Q _ => ∃ F ds d, Same F H ∧ RpL K C F ds vs ∧ m ds = some d ∧ Got K C F H d Q
/-- a pure def that may be called by its name x -/
structure Cal (P : Program) (w : World) (K : PySem.W.Frag) (mg : Str → Option Value) (base : Heap) (C : Addr) (k : Nat) (x : Str) (ps : List Str) (m : List D → Option D) : Prop where
  ex : ∃ f fd, FnOk P w K mg base CX0 k f fd ps (spD K C m) ∧ mg x = some (.ref f) ∧ PySem.W.keepIn K (.ref f) = true ∧ Binds K fd ps []
theorem de_call {x : Str} {p : Pos} {k j : Nat} {ps : List Str} {m : List D → Option D} (cl : Cal X.prog X.w X.K X.mg X.base C k x ps m) (hr : Room j X.A) (hg : Gl X x) (ha : DA X C O (e :: es) fs) (hk : k ≤ j := by decide)
    (hdb : (x == ("__debug__" : Str)) = false := by decide) (he : starEach (e :: es) X.env = (false, eval e X.env) :: starEach es X.env := by rfl) (hpl : (backTo pos (starEach es X.env)).any (·.1) = false := by rfl) :
    DE X C O (.Call (.Name x p) (e :: es) [] pos) (dL m fs) := by
  obtain ⟨f, fd, F, hm, hkp, hb⟩ := cl.ex
  refine PEw (pe_call F (hr.mono hk) hg hm hkp hb .nil pass0 ha hdb he hpl) fun σ H Q ⟨F, ρ, t, E, hf, k⟩ => ?_
  obtain ⟨ds, h1, hf⟩ := bind_some hf
  refine ⟨F, ρ, ds, E, h1, fun vs F1 H1 s1 r1 => ?_⟩
  show spD X.K C m (vs ++ []) H1 Q E0
  rw [List.append_nil]
  exact ⟨F1, ds, t, s1.fh, r1, hf, k.step s1⟩
theorem de_ix {o : D → D → Option D} (ho : IxD X C o) (ha : DE X C O a f) (hb : DE X C O b g) (hs : PlainIx b := by exact fun _ _ => rfl) : DE X C O (.Subscript a b pos) (d2 o f g) := PEw (pe_ix ho ha hb hs) fun _ _ _ hw => two hw
end
end DL
namespace DL
open PySem PySem.Spec PyProof.Rows L2
mutual
def eqD : D → D → Bool
  | .non, .non => true
  | .bl a, .bl b => a == b
  | .bl a, .int j => (if a then 1 else 0) == j
  | .int i, .bl b => i == (if b then 1 else 0)
  | .int i, .int j => i == j
  | .str x, .str y => x == y
  | .tup xs, .tup ys => eqDs xs ys
  | .lst xs, .lst ys => eqDs xs ys
  | _, _ => false
def eqDs : List D → List D → Bool
  | [], [] => true
  | x :: xs, y :: ys => eqD x y && eqDs xs ys
  | _, _ => false
end
mutual
/-- nested at most n deep, no bells, no script within -/
def okD : Nat → D → Bool
  | _, .non => true
  | _, .bl _ => true
  | _, .int _ => true
  | _, .str x => PySem.PyData.strOk x
  | 0, .tup _ => false
  | 0, .lst _ => false
  | n + 1, .tup xs => okDs n xs
  | n + 1, .lst xs => okDs n xs
  | _, .bell _ => false
  | _, .scr _ => false
  | _, .ext _ => false
def okDs : Nat → List D → Bool
  | _, [] => true
  | n, x :: xs => okD n x && okDs n xs
end
mutual
def toP : D → PyData
  | .non => .none
  | .bl b => .bool b
  | .int i => .int i
  | .str x => .str x
  | .tup xs => .tuple (toPs xs)
  | .lst xs => .list (toPs xs)
  | .bell _ => .dict []
  | .scr _ => .dict []
  | .ext _ => .dict []
def toPs : List D → List PyData
  | [] => []
  | x :: xs => toP x :: toPs xs
end
mutual
theorem eqD_toP : ∀ (n : Nat) (d e : D), okD n d = true → okD n e = true → PyData.eqv (toP d) (toP e) = eqD d e
  | n, .non, e, h1, h2 => by cases e <;> simp [okD, toP, eqD, PyData.eqv] at h2 ⊢
  | n, .bl b, e, h1, h2 => by cases e <;> simp [okD, toP, eqD, PyData.eqv] at h2 ⊢
  | n, .int i, e, h1, h2 => by cases e <;> simp [okD, toP, eqD, PyData.eqv] at h2 ⊢
  | n, .str x, e, h1, h2 => by cases e <;> simp [okD, toP, eqD, PyData.eqv] at h2 ⊢
  | 0, .tup xs, e, h1, h2 => by simp [okD] at h1
  | 0, .lst xs, e, h1, h2 => by simp [okD] at h1
  | n + 1, .tup xs, e, h1, h2 => by
    cases e with
    | tup ys =>
      simp only [okD, toP, eqD, PyData.eqv] at h1 h2 ⊢
      exact eqDs_toP n xs ys h1 h2
    | _ => simp [okD, toP, eqD, PyData.eqv] at h2 ⊢
  | n + 1, .lst xs, e, h1, h2 => by
    cases e with
    | lst ys =>
      simp only [okD, toP, eqD, PyData.eqv] at h1 h2 ⊢
      exact eqDs_toP n xs ys h1 h2
    | _ => simp [okD, toP, eqD, PyData.eqv] at h2 ⊢
  | n, .bell _, e, h1, h2 => by cases n <;> simp [okD] at h1
  | n, .scr _, e, h1, h2 => by cases n <;> simp [okD] at h1
  | n, .ext _, e, h1, h2 => by cases n <;> simp [okD] at h1
theorem eqDs_toP : ∀ (n : Nat) (xs ys : List D), okDs n xs = true → okDs n ys = true → PyData.eqvAll (toPs xs) (toPs ys) = eqDs xs ys
  | n, [], ys, h1, h2 => by cases ys <;> simp [toPs, eqDs, PyData.eqvAll]
  | n, x :: xs, [], h1, h2 => by simp [toPs, eqDs, PyData.eqvAll]
  | n, x :: xs, y :: ys, h1, h2 => by
    simp only [okDs, Bool.and_eq_true] at h1 h2
    simp only [toPs, eqDs, PyData.eqvAll]
    rw [eqD_toP n x y h1.1 h2.1, eqDs_toP n xs ys h1.2 h2.2]
end
mutual
theorem okD_lay : ∀ (n : Nat) (d : D), okD n d = true → (toP d).canLay0 = true ∧ (toP d).depth ≤ n
  | n, .non, _ => by simp [toP, PyData.canLay0, PyData.depth]
  | n, .bl b, _ => by simp [toP, PyData.canLay0, PyData.depth]
  | n, .int i, _ => by simp [toP, PyData.canLay0, PyData.depth]
  | n, .str x, h => by cases n <;> simpa [okD, toP, PyData.canLay0, PyData.depth] using h
  | 0, .tup xs, h => by simp [okD] at h
  | 0, .lst xs, h => by simp [okD] at h
  | n + 1, .tup xs, h => by
    simp only [okD] at h
    obtain ⟨h1, h2⟩ := okDs_lay n xs h
    simp only [toP, PyData.canLay0, PyData.depth]
    exact ⟨h1, by omega⟩
  | n + 1, .lst xs, h => by
    simp only [okD] at h
    obtain ⟨h1, h2⟩ := okDs_lay n xs h
    simp only [toP, PyData.canLay0, PyData.depth]
    exact ⟨h1, by omega⟩
  | n, .bell _, h => by cases n <;> simp [okD] at h
  | n, .scr _, h => by cases n <;> simp [okD] at h
  | n, .ext _, h => by cases n <;> simp [okD] at h
theorem okDs_lay : ∀ (n : Nat) (ds : List D), okDs n ds = true → PyData.canLayAll0 (toPs ds) = true ∧ PyData.depthAll (toPs ds) ≤ n
  | n, [], _ => by simp [toPs, PyData.canLayAll0, PyData.depthAll]
  | n, x :: xs, h => by
    simp only [okDs, Bool.and_eq_true] at h
    obtain ⟨h1, h2⟩ := okD_lay n x h.1
    obtain ⟨h3, h4⟩ := okDs_lay n xs h.2
    simp only [toPs, PyData.canLayAll0, PyData.depthAll, h1, h3, Bool.and_self]
    exact ⟨trivial, by omega⟩
end
theorem shaped_ok {d : D} {n : Nat} (h : okD n d = true) (hn : n ≤ 64) : SeqAt.shaped (toP d) = true := by
  obtain ⟨h1, h2⟩ := okD_lay n d h
  unfold SeqAt.shaped
  rw [h1, decide_eq_true (Nat.le_trans h2 hn)]
  rfl
section
variable {K : PySem.W.Frag} {C : Addr} {H : Hp}
mutual
theorem Rp.dp : ∀ (n : Nat) (d : D) (v : V), okD n d = true → Rp K C H d v → Dp K H v (toP d)
  | _, .non, v, _, h => by
    have e : v = .non := h
    subst e
    exact .non
  | _, .bl b, v, _, h => by
    have e : v = .bl b := h
    subst e
    exact .bl b
  | _, .int i, v, _, h => by
    have e : v = .int i := h
    subst e
    exact .int i
  | _, .str x, v, _, h => by
    have e : v = .str x := h
    subst e
    exact .str x
  | 0, .tup xs, v, o, h => by simp [okD] at o
  | 0, .lst xs, v, o, h => by simp [okD] at o
  | n + 1, .tup ds, v, o, h => by
    simp only [Rp] at h
    simp only [okD] at o
    obtain ⟨a, xs, rfl, ha, hl⟩ := h
    simp only [toP]
    exact .tup (SqT.of ha) (RpL.dp n ds xs o hl)
  | n + 1, .lst ds, v, o, h => by
    simp only [Rp] at h
    simp only [okD] at o
    obtain ⟨a, xs, rfl, ha, hl⟩ := h
    simp only [toP]
    exact .lst (SqL.of ha) (RpL.dp n ds xs o hl)
  | n, .bell _, _, o, _ => by cases n <;> simp [okD] at o
  | n, .scr _, _, o, _ => by cases n <;> simp [okD] at o
  | n, .ext _, _, o, _ => by cases n <;> simp [okD] at o
theorem RpL.dp : ∀ (n : Nat) (ds : List D) (vs : List V), okDs n ds = true → RpL K C H ds vs → DpAll K H vs (toPs ds)
  | _, [], vs, _, h => by
    have e : vs = [] := h
    subst e
    simp only [toPs]
    exact .nil
  | n, d :: ds, vs, o, h => by
    simp only [RpL] at h
    simp only [okDs, Bool.and_eq_true] at o
    obtain ⟨x, r, rfl, h1, h2⟩ := h
    simp only [toPs]
    exact .cons (Rp.dp n d x o.1 h1) (RpL.dp n ds r o.2 h2)
end
end
theorem szl_ok {n : Nat} (h : n ≤ 16777216) : n ≤ sizeLine := by rw [sizeLine_eq]; exact h
def opAdd : D → D → Option D
  | .int a, .int b => some (.int (a + b))
  | .tup a, .tup b => if a.length + b.length ≤ 16777216 then some (.tup (a ++ b)) else none
  | .lst a, .lst b => if a.length + b.length ≤ 16777216 then some (.lst (a ++ b)) else none
  | .str a, .str b => if a.length + b.length ≤ 16777216 then some (.str (a ++ b)) else none
  | _, _ => none
def opSub : D → D → Option D
  | .int a, .int b => some (.int (a - b))
  | _, _ => none
/-- one factor below 2 ^ 64 -/
def mulOk (a b : Int) : Bool := (decide (-18446744073709551616 < a) && decide (a < 18446744073709551616)) || (decide (-18446744073709551616 < b) && decide (b < 18446744073709551616))
def opMul : D → D → Option D
  | .int a, .int b => if mulOk a b = true then some (.int (a * b)) else none
  | .lst a, .int k => if k ≤ 16777216 ∧ -16777216 ≤ k ∧ a.length * k.toNat ≤ 16777216 then some (.lst (List.replicate k.toNat a).flatten) else none
  | .tup a, .int k => if 2 ≤ k ∧ k ≤ 1000 ∧ a.length ≤ 1000 ∧ a.isEmpty = false then some (.tup (List.replicate k.toNat a).flatten) else none
  | _, _ => none
def opFdiv : D → D → Option D
  | .int a, .int b => if 0 < b ∧ b < 18446744073709551616 then some (.int (a / b)) else none
  | _, _ => none
def opMod : D → D → Option D
  | .int a, .int b => if 0 < b then some (.int (a % b)) else none
  | _, _ => none
def opPow : D → D → Option D
  | .int a, .int b => if 0 ≤ b ∧ b ≤ 1000 ∧ 0 ≤ a ∧ a ≤ 1000000 then some (.int (a ^ b.toNat)) else none
  | _, _ => none
def opNeg : D → Option D
  | .int a => some (.int (-a))
  | _ => none
def opEq (d e : D) : Option D := if okD 60 d = true ∧ okD 60 e = true then some (.bl (eqD d e)) else none
def opNe (d e : D) : Option D := if okD 60 d = true ∧ okD 60 e = true then some (.bl (!eqD d e)) else none
def asInts : List D → Option (List Int)
  | [] => some []
  | .int i :: r => (asInts r).map (i :: ·)
  | _ :: _ => none
def lexI : List Int → List Int → Bool
  | _, [] => false
  | [], _ :: _ => true
  | x :: xs, y :: ys => if x = y then lexI xs ys else decide (x < y)
def opLt : D → D → Option D
  | .int a, .int b => some (.bl (decide (a < b)))
  | .tup a, .tup b => (asInts a).bind fun x => (asInts b).bind fun y => some (.bl (lexI x y))
  | _, _ => none
def opLe : D → D → Option D
  | .int a, .int b => some (.bl (decide (a ≤ b)))
  | _, _ => none
def opGt : D → D → Option D
  | .int a, .int b => some (.bl (decide (b < a)))
  | .tup a, .tup b => (asInts a).bind fun x => (asInts b).bind fun y => some (.bl (lexI y x))
  | _, _ => none
def opGe : D → D → Option D
  | .int a, .int b => some (.bl (decide (b ≤ a)))
  | _, _ => none
def isNone : D → Bool
  | .non => true
  | _ => false
def opIs : D → D → Option D
  | .bl a, .bl b => some (.bl (decide (a = b)))
  | d, .non => some (.bl (isNone d))
  | _, _ => none
def opIsNot : D → D → Option D
  | .bl a, .bl b => some (.bl (!decide (a = b)))
  | d, .non => some (.bl (!isNone d))
  | _, _ => none
def ixNat (n : Nat) (i : Int) : Option Nat := if 0 ≤ i then (if i < n then some i.toNat else none) else if -(n : Int) ≤ i then some (i + n).toNat else none
def opIx : D → D → Option D
  | .tup xs, .int i => (ixNat xs.length i).bind fun j => xs[j]?
  | .lst xs, .int i => (ixNat xs.length i).bind fun j => xs[j]?
  | .scr xs, .int i => (ixNat xs.length i).bind fun j => xs[j]?.map D.int
  | _, _ => none
section
variable {X : Cx} {C : Addr}
theorem got0 {K : PySem.W.Frag} {F H : Hp} {d : D} {Q : VK} {v : V} (g : Got K C F H d Q) (fh : Same F H) (r : Rp K C F d v) : Q v H := g v F H (Stp.refl fh) r
theorem gotN {K : PySem.W.Frag} {F H : Hp} {d : D} {Q : VK} {p : Addr} {o : HO} (g : Got K C F H d Q) (fh : Same F H) (hp : H p = none) (r : Rp K C (upd F p o) d (.ref p)) : Q (.ref p) (upd H p o) := g _ _ _ (Stp.new fh hp) r
theorem intsRp {K : PySem.W.Frag} {F : Hp} : ∀ {ds : List D} {ns : List Int} {vs : List V}, asInts ds = some ns → RpL K C F ds vs → vs = ns.map V.int
  | [], ns, vs, e, h => by
    cases e
    exact h
  | .int i :: ds, ns, vs, e, h => by
    simp only [asInts, Option.map_eq_some_iff] at e
    obtain ⟨ns', e1, rfl⟩ := e
    obtain ⟨x, r, rfl, h1, h2⟩ := h
    have h1' : x = .int i := h1
    rw [h1', intsRp e1 h2]
    rfl
  | .non :: _, _, _, e, _ => by simp [asInts] at e
  | .bl _ :: _, _, _, e, _ => by simp [asInts] at e
  | .str _ :: _, _, _, e, _ => by simp [asInts] at e
  | .tup _ :: _, _, _, e, _ => by simp [asInts] at e
  | .lst _ :: _, _, _, e, _ => by simp [asInts] at e
  | .bell _ :: _, _, _, e, _ => by simp [asInts] at e
  | .scr _ :: _, _, _, e, _ => by simp [asInts] at e
  | .ext _ :: _, _, _, e, _ => by simp [asInts] at e
theorem RpL.nil_of {K : PySem.W.Frag} {F : Hp} {ds : List D} (h : RpL K C F ds []) : ds = [] := List.eq_nil_of_length_eq_zero h.len
theorem od_add : OpD X C (binaryOp .Add) opAdd := OpRw (op_add.or (op_catA.or (op_cat.or op_add_str))) fun x y H Q ⟨F, d, e, c, fh, r1, r2, ho, g⟩ => by
  cases d <;> cases e <;> first | (cases ho; done) | skip
  · cases ho
    exact .inl ⟨_, _, r1, r2, got0 g fh rfl⟩
  · simp only [opAdd] at ho
    split at ho
    · rename_i hz
      cases ho
      exact .inr (.inr (.inr ⟨_, _, r1, r2, szl_ok hz, got0 g fh rfl⟩))
    · cases ho
  · simp only [opAdd] at ho
    split at ho
    · rename_i hz
      cases ho
      obtain ⟨a, xs, rfl, ha, hl⟩ := r1
      obtain ⟨b, ys, rfl, hb, hm⟩ := r2
      have l1 := hl.len
      have l2 := hm.len
      refine .inr (.inl ⟨a, b, xs, ys, rfl, rfl, SqT.of (fh _ _ ha), SqT.of (fh _ _ hb), szl_ok (by omega), fun e0 => ?_, fun e0 e1 => ?_, fun e0 e1 p hp => ?_⟩)
      · subst e0
        obtain rfl := RpL.nil_of hl
        exact got0 g fh ⟨b, ys, rfl, hb, hm⟩
      · subst e1
        obtain rfl := RpL.nil_of hm
        rw [List.append_nil] at g
        exact got0 g fh ⟨a, xs, rfl, ha, hl⟩
      · have sm := same_upd (o := .tup (xs ++ ys)) (none_of_same fh hp)
        exact gotN g fh hp ⟨p, _, rfl, upd_same, RpL.append (RpL.mono sm _ _ hl) (RpL.mono sm _ _ hm)⟩
    · cases ho
  · simp only [opAdd] at ho
    split at ho
    · rename_i hz
      cases ho
      obtain ⟨a, xs, rfl, ha, hl⟩ := r1
      obtain ⟨b, ys, rfl, hb, hm⟩ := r2
      have l1 := hl.len
      have l2 := hm.len
      refine .inr (.inr (.inl ⟨a, b, xs, ys, rfl, rfl, fh _ _ ha, fh _ _ hb, szl_ok (by omega), fun p hp => ?_⟩))
      have sm := same_upd (o := .lst (xs ++ ys)) (none_of_same fh hp)
      exact gotN g fh hp ⟨p, _, rfl, upd_same, RpL.append (RpL.mono sm _ _ hl) (RpL.mono sm _ _ hm)⟩
    · cases ho
theorem od_sub : OpD X C (binaryOp .Sub) opSub := OpRw op_sub fun x y H Q ⟨F, d, e, c, fh, r1, r2, ho, g⟩ => by
  cases d <;> cases e <;> first | (cases ho; done) | skip
  cases ho
  exact ⟨_, _, r1, r2, got0 g fh rfl⟩
theorem mulOk_CMul {a b : Int} (h : mulOk a b = true) : CMul a b := by
  unfold mulOk at h
  simp only [Bool.or_eq_true, Bool.and_eq_true, decide_eq_true_eq] at h
  unfold CMul
  have e : (2 : Int) ^ 64 = 18446744073709551616 := by decide
  rw [e]
  exact h
theorem od_mul : OpD X C (binaryOp .Mult) opMul := OpRw (op_mul.or (op_rep.or op_repT)) fun x y H Q ⟨F, d, e, c, fh, r1, r2, ho, g⟩ => by
  cases d <;> cases e <;> first | (cases ho; done) | skip
  · simp only [opMul] at ho
    split at ho
    · rename_i hz
      cases ho
      exact .inl ⟨_, _, r1, r2, mulOk_CMul hz, got0 g fh rfl⟩
    · cases ho
  · simp only [opMul] at ho
    split at ho
    · rename_i hz
      cases ho
      obtain ⟨a, xs, rfl, ha, hl⟩ := r1
      have l1 := hl.len
      refine .inr (.inr ⟨a, _, xs, rfl, r2, SqT.of (fh _ _ ha), fun e0 => ?_, hz.1, hz.2.1, by omega, fun p hp => ?_⟩)
      · subst e0
        obtain rfl := RpL.nil_of hl
        exact absurd hz.2.2.2 (by simp)
      · exact gotN g fh hp ⟨p, _, rfl, upd_same, RpL.rep (RpL.mono (same_upd (none_of_same fh hp)) _ _ hl) _⟩
    · cases ho
  · simp only [opMul] at ho
    split at ho
    · rename_i hz
      cases ho
      obtain ⟨a, xs, rfl, ha, hl⟩ := r1
      have l1 := hl.len
      have e63 : (2 : Int) ^ 63 = 9223372036854775808 := by decide
      refine .inr (.inl ⟨a, _, xs, rfl, r2, fh _ _ ha, by rw [e63]; omega, by rw [e63]; omega, szl_ok (by rw [← l1]; exact hz.2.2), fun p hp => ?_⟩)
      exact gotN g fh hp ⟨p, _, rfl, upd_same, RpL.rep (RpL.mono (same_upd (none_of_same fh hp)) _ _ hl) _⟩
    · cases ho
theorem od_fdiv : OpD X C (binaryOp .FloorDiv) opFdiv := OpRw op_fdivW fun x y H Q ⟨F, d, e, c, fh, r1, r2, ho, g⟩ => by
  cases d <;> cases e <;> first | (cases ho; done) | skip
  simp only [opFdiv] at ho
  split at ho
  · rename_i hz
    cases ho
    exact ⟨_, _, r1, r2, wide_div (b := 64) hz.1 (by omega) (by decide) (by decide), got0 g fh rfl⟩
  · cases ho
theorem od_mod : OpD X C (binaryOp .Mod) opMod := OpRw op_mod fun x y H Q ⟨F, d, e, c, fh, r1, r2, ho, g⟩ => by
  cases d <;> cases e <;> first | (cases ho; done) | skip
  simp only [opMod] at ho
  split at ho
  · rename_i hz
    cases ho
    exact ⟨_, _, r1, r2, hz, got0 g fh rfl⟩
  · cases ho
theorem od_pow : OpD X C (binaryOp .Pow) opPow := OpRw op_pow fun x y H Q ⟨F, d, e, c, fh, r1, r2, ho, g⟩ => by
  cases d <;> cases e <;> first | (cases ho; done) | skip
  simp only [opPow] at ho
  split at ho
  · rename_i hz
    cases ho
    exact ⟨_, _, r1, r2, ⟨hz.1, by omega, by omega⟩, got0 g fh rfl⟩
  · cases ho
theorem od_eq (hu : X.A.units + 64 < cLine) : OpD X C (compareOp .Eq) opEq := OpRw (op_eqD hu) fun x y H Q ⟨F, d, e, c, fh, r1, r2, ho, g⟩ => by
  unfold opEq at ho
  split at ho
  · rename_i hz
    cases ho
    refine ⟨_, _, Rp.dp 60 d x hz.1 (Rp.mono fh _ _ r1), Rp.dp 60 e y hz.2 (Rp.mono fh _ _ r2), shaped_ok hz.1 (by decide), shaped_ok hz.2 (by decide), ?_⟩
    rw [eqD_toP 60 d e hz.1 hz.2]
    exact got0 g fh rfl
  · cases ho
theorem od_ne (hu : X.A.units + 64 < cLine) : OpD X C (compareOp .NotEq) opNe := OpRw (op_neD hu) fun x y H Q ⟨F, d, e, c, fh, r1, r2, ho, g⟩ => by
  unfold opNe at ho
  split at ho
  · rename_i hz
    cases ho
    refine ⟨_, _, Rp.dp 60 d x hz.1 (Rp.mono fh _ _ r1), Rp.dp 60 e y hz.2 (Rp.mono fh _ _ r2), shaped_ok hz.1 (by decide), shaped_ok hz.2 (by decide), ?_⟩
    rw [eqD_toP 60 d e hz.1 hz.2]
    exact got0 g fh rfl
  · cases ho
theorem lexI_eq : ∀ xs ys : List Int, HT.lexLt xs ys = lexI xs ys
  | [], [] => rfl
  | [], _ :: _ => rfl
  | _ :: _, [] => rfl
  | x :: xs, y :: ys => by
    rw [HT.lexLt_cons]
    show _ = if x = y then lexI xs ys else decide (x < y)
    rw [lexI_eq xs ys]
theorem op_gtT {X : Cx} (hu : X.A.units < cLine) : OpR X (compareOp .Gt) (fun x y H Q => ∃ (a b : Addr) (ns ms : List Int), x = .ref a ∧ y = .ref b ∧ SqT X.K H a (ns.map V.int) ∧ SqT X.K H b (ms.map V.int) ∧
  Q (.bl (Ob.lexAt (fun j => decide (ns.getD j 0 = ms.getD j 0)) (fun j => decide (ms.getD j 0 < ns.getD j 0)) (decide (ns.length > ms.length)) 0 (min ns.length ms.length))) H) := by
  intro pins s σ H x y v u Q I rx ry h
  obtain ⟨a, b, ns, ms, rfl, rfl, ha, hb, q⟩ := h
  cases rx
  cases ry
  obtain ⟨its, r1, p1, _⟩ := I.tuple ha
  obtain ⟨its2, r2, p2, _⟩ := I.tuple hb
  have i1 : IntsAre its ns := Vals.ints r1
  have i2 : IntsAre its2 ms := Vals.ints r2
  have e1 : its.toArray.size = ns.length := by rw [List.size_toArray]; exact i1.length
  have e2 : its2.toArray.size = ms.length := by rw [List.size_toArray]; exact i2.length
  have at1 : ∀ j (h1 : j < its.toArray.size), ∃ t, its.toArray[j] = .int (ns.getD j 0) t := fun j h1 => PyProof.Rows.IntsAre.int_at i1 _ _ (by simp at h1; simp [h1])
  have at2 : ∀ j (h1 : j < its2.toArray.size), ∃ t, its2.toArray[j] = .int (ms.getD j 0) t := fun j h1 => PyProof.Rows.IntsAre.int_at i2 _ _ (by simp at h1; simp [h1])
  have R := Ob.RcOp.tuples_gt (A := X.A) (s := s) (e := fun j => decide (ns.getD j 0 = ms.getD j 0)) (r := fun j => decide (ms.getD j 0 < ns.getD j 0)) p1 p2 hu (fun j h1 h2 => by
    obtain ⟨t, et⟩ := at1 j h1
    obtain ⟨t', et'⟩ := at2 j h2
    rw [et, et']
    have z : (ns.getD j 0 == ms.getD j 0) = decide (ns.getD j 0 = ms.getD j 0) := by
      by_cases q : ns.getD j 0 = ms.getD j 0
      · rw [decide_eq_true q]; exact beq_iff_eq.mpr q
      · rw [decide_eq_false q]; exact beq_eq_false_iff_ne.mpr q
    rw [← z]
    exact SeqAt.EqAt.int_int _ _ _ _) (fun j h1 h2 _ => by
    obtain ⟨t, et⟩ := at1 j h1
    obtain ⟨t', et'⟩ := at2 j h2
    rw [et, et']
    exact Ob.RcOp.gt_int _ _ _ _)
  rw [e1, e2] at R
  have z : wpAny (model X.prog X.w) X.A (compareOp .Gt (.ref a) (.ref b)) (EP X pins σ Q) X.xe s := R X.prog X.w X.xe (EP X pins σ Q) ⟨.bl _, H, I, rfl, q⟩
  exact z
theorem lexAt_shift (e r : Nat → Bool) (z : Bool) : ∀ (k i : Nat), Ob.lexAt e r z (i + 1) k = Ob.lexAt (fun j => e (j + 1)) (fun j => r (j + 1)) z i k
  | 0, i => rfl
  | k + 1, i => by
    rw [Ob.lexAt_succ, Ob.lexAt_succ, lexAt_shift e r z k (i + 1)]
theorem lexAt_gt : ∀ (ns ms : List Int), Ob.lexAt (fun j => decide (ns.getD j 0 = ms.getD j 0)) (fun j => decide (ms.getD j 0 < ns.getD j 0)) (decide (ns.length > ms.length)) 0 (min ns.length ms.length) = lexI ms ns
  | [], [] => rfl
  | [], _ :: _ => rfl
  | _ :: _, [] => by simp [Ob.lexAt_zero, lexI]
  | x :: xs, y :: ys => by
    have e : min (x :: xs).length (y :: ys).length = min xs.length ys.length + 1 := by simp only [List.length_cons]; omega
    rw [e, Ob.lexAt_succ, lexAt_shift]
    have e2 : decide ((x :: xs).length > (y :: ys).length) = decide (xs.length > ys.length) := by
      rw [List.length_cons, List.length_cons]
      exact decide_eq_decide.mpr (by omega)
    rw [e2]
    show (if decide (x = y) = true then Ob.lexAt (fun j => decide (xs.getD j 0 = ys.getD j 0)) (fun j => decide (ys.getD j 0 < xs.getD j 0)) (decide (xs.length > ys.length)) 0 (min xs.length ys.length) else decide (y < x)) = if y = x then lexI ys xs else decide (y < x)
    rw [lexAt_gt xs ys]
    by_cases h : x = y
    · rw [decide_eq_true h, if_pos rfl, if_pos h.symm]
    · rw [decide_eq_false h, if_neg Bool.false_ne_true, if_neg (fun z => h z.symm)]
theorem od_lt (hu : X.A.units < cLine) : OpD X C (compareOp .Lt) opLt := OpRw (op_lt.or (op_ltT hu)) fun x y H Q ⟨F, d, e, c, fh, r1, r2, ho, g⟩ => by
  cases d <;> cases e <;> first | (cases ho; done) | skip
  · cases ho
    exact .inl ⟨_, _, r1, r2, got0 g fh rfl⟩
  · obtain ⟨ns, e1, ho1⟩ := bind_some ho
    obtain ⟨ms, e2, ho2⟩ := bind_some ho1
    cases ho2
    obtain ⟨a, xs, rfl, ha, hl⟩ := r1
    obtain ⟨b, ys, rfl, hb, hm⟩ := r2
    rw [intsRp e1 hl] at ha
    rw [intsRp e2 hm] at hb
    refine .inr ⟨a, b, ns, ms, rfl, rfl, SqT.of (fh _ _ ha), SqT.of (fh _ _ hb), ?_⟩
    rw [lexI_eq]
    exact got0 g fh rfl
theorem od_gt (hu : X.A.units < cLine) : OpD X C (compareOp .Gt) opGt := OpRw (op_gt.or (op_gtT hu)) fun x y H Q ⟨F, d, e, c, fh, r1, r2, ho, g⟩ => by
  cases d <;> cases e <;> first | (cases ho; done) | skip
  · cases ho
    exact .inl ⟨_, _, r1, r2, got0 g fh rfl⟩
  · obtain ⟨ns, e1, ho1⟩ := bind_some ho
    obtain ⟨ms, e2, ho2⟩ := bind_some ho1
    cases ho2
    obtain ⟨a, xs, rfl, ha, hl⟩ := r1
    obtain ⟨b, ys, rfl, hb, hm⟩ := r2
    rw [intsRp e1 hl] at ha
    rw [intsRp e2 hm] at hb
    refine .inr ⟨a, b, ns, ms, rfl, rfl, SqT.of (fh _ _ ha), SqT.of (fh _ _ hb), ?_⟩
    rw [lexAt_gt]
    exact got0 g fh rfl
theorem od_le : OpD X C (compareOp .LtE) opLe := OpRw op_le fun x y H Q ⟨F, d, e, c, fh, r1, r2, ho, g⟩ => by
  cases d <;> cases e <;> first | (cases ho; done) | skip
  cases ho
  exact ⟨_, _, r1, r2, got0 g fh rfl⟩
theorem od_ge : OpD X C (compareOp .GtE) opGe := OpRw op_ge fun x y H Q ⟨F, d, e, c, fh, r1, r2, ho, g⟩ => by
  cases d <;> cases e <;> first | (cases ho; done) | skip
  cases ho
  exact ⟨_, _, r1, r2, got0 g fh rfl⟩
theorem non_iff {K : PySem.W.Frag} {F : Hp} {d : D} {x : V} (r : Rp K C F d x) : decide (x = .non) = isNone d := by
  cases d with
  | non =>
    have e : x = .non := r
    subst e
    rfl
  | bl _ =>
    have e : x = .bl _ := r
    subst e
    rfl
  | int _ =>
    have e : x = .int _ := r
    subst e
    rfl
  | str _ =>
    have e : x = .str _ := r
    subst e
    rfl
  | tup _ => obtain ⟨a, xs, rfl, _⟩ := r; rfl
  | lst _ => obtain ⟨a, xs, rfl, _⟩ := r; rfl
  | bell _ => obtain ⟨a, dx, t, rfl, _⟩ := r; rfl
  | scr _ => obtain ⟨a, rfl, _⟩ := r; rfl
  | ext x => cases x with
    | dic _ => obtain ⟨a, rfl, _⟩ := r; rfl
theorem od_is : OpD X C (compareOp .Is) opIs := OpRw (op_isN.or op_is_bl) fun x y H Q ⟨F, d, e, c, fh, r1, r2, ho, g⟩ => by
  have nn : ∀ {d' : D}, Rp X.K C F d' x → opIs d' .non = some c → y = .non → y = .non ∧ Q (.bl (decide (x = .non))) H := fun {d'} rr hh e0 => by
    refine ⟨e0, ?_⟩
    rw [non_iff rr]
    cases d' <;> (cases hh; exact got0 g fh rfl)
  cases e with
  | non => exact .inl (nn r1 ho r2)
  | bl b =>
    cases d with
    | bl a =>
      cases ho
      exact .inr ⟨_, _, r1, r2, got0 g fh rfl⟩
    | _ => cases ho
  | _ => cases d <;> cases ho
theorem od_isnot : OpD X C (compareOp .IsNot) opIsNot := OpRw (op_notN.or op_isnot_bl) fun x y H Q ⟨F, d, e, c, fh, r1, r2, ho, g⟩ => by
  have nn : ∀ {d' : D}, Rp X.K C F d' x → opIsNot d' .non = some c → y = .non → y = .non ∧ Q (.bl (!decide (x = .non))) H := fun {d'} rr hh e0 => by
    refine ⟨e0, ?_⟩
    rw [non_iff rr]
    cases d' <;> (cases hh; exact got0 g fh rfl)
  cases e with
  | non => exact .inl (nn r1 ho r2)
  | bl b =>
    cases d with
    | bl a =>
      cases ho
      exact .inr ⟨_, _, r1, r2, got0 g fh rfl⟩
    | _ => cases ho
  | _ => cases d <;> cases ho
theorem ixNat_eq (n : Nat) (i : Int) : ixNat n i = ixN n i := rfl
theorem ix_d : IxD X C opIx := by
  intro vl sl pins s σ H x y v u Q I rx ry q
  refine (ix_tup.or ix_list) vl sl pins s σ H x y v u Q I rx ry ?_
  obtain ⟨F, d, e, c, fh, r1, r2, ho, g⟩ := q
  cases d <;> cases e <;> first | (cases ho; done) | skip
  · obtain ⟨j, e1, e2⟩ := bind_some ho
    obtain ⟨a, xs, rfl, ha, hl⟩ := r1
    obtain ⟨w, h1, h2⟩ := RpL.get hl e2
    refine .inl ⟨a, xs, _, w, rfl, r2, SqT.of (fh _ _ ha), ?_, got0 g fh h2⟩
    unfold atI
    rw [← hl.len, ← ixNat_eq, e1]
    exact h1
  · obtain ⟨j, e1, e2⟩ := bind_some ho
    obtain ⟨a, xs, rfl, ha, hl⟩ := r1
    obtain ⟨w, h1, h2⟩ := RpL.get hl e2
    refine .inr ⟨a, xs, _, w, rfl, r2, SqL.of (fh _ _ ha), ?_, got0 g fh h2⟩
    unfold atI
    rw [← hl.len, ← ixNat_eq, e1]
    exact h1
  · obtain ⟨j, e1, e2⟩ := bind_some ho
    obtain ⟨a, rfl, ha⟩ := r1
    obtain ⟨i', e3, rfl⟩ := Option.map_eq_some_iff.mp e2
    refine .inr ⟨a, _, _, .int i', rfl, r2, fh.seq ha, ?_, got0 g fh rfl⟩
    unfold atI
    rw [List.length_map, ← ixNat_eq, e1]
    show (List.map V.int _)[j]? = _
    rw [List.getElem?_map, e3]
    rfl
theorem de_neg {e : Expr} {O : List Nat} {f : DF} {pos : Pos} (h : DE X C O e f) : DE X C O (.UnaryOp .USub e pos) (d1 opNeg f) := PEw (pe_un un_neg h) fun σ H Q ⟨F, ρ, t, E, hf, k⟩ => by
  obtain ⟨x, h1, hf1⟩ := bind_some hf
  refine ⟨F, ρ, x, E, h1, fun v F1 H1 s1 r1 => ?_⟩
  cases x <;> first | (cases hf1; done) | skip
  cases hf1
  exact ⟨_, r1, k _ F1 H1 s1 rfl⟩
end
end DL
namespace DL
open PySem PySem.Spec PyProof.Rows L2
def opLen : List D → Option D
  | [.tup xs] => some (.int xs.length)
  | [.lst xs] => some (.int xs.length)
  | [.scr xs] => some (.int xs.length)
  | [.str x] => if x.length ≤ 16777216 then some (.int x.length) else none
  | _ => none
def opTuple : List D → Option D
  | [.tup xs] => some (.tup xs)
  | [.lst xs] => some (.tup xs)
  | _ => none
def opList : List D → Option D
  | [.tup xs] => some (.lst xs)
  | [.lst xs] => some (.lst xs)
  | _ => none
/-- sorted -/
def ins (a : Int) : List Int → List Int
  | [] => [a]
  | b :: r => if a ≤ b then a :: b :: r else b :: ins a r
def asBls : List D → Option (List Bool)
  | [] => some []
  | .bl i :: r => (asBls r).map (i :: ·)
  | _ :: _ => none
def opAll : List D → Option D
  | [.lst xs] => (asBls xs).bind fun bs => some (.bl (bs.all id))
  | _ => none
def opBool : List D → Option D
  | [.int i] => some (.bl (i != 0))
  | [.bl b] => some (.bl b)
  | _ => none
section
variable {X : Cx} {C : Addr}
theorem RpL.one_inv {K : PySem.W.Frag} {F : Hp} {d : D} {vs : List V} (h : RpL K C F [d] vs) : ∃ v, vs = [v] ∧ Rp K C F d v := by
  obtain ⟨x, r, e, h1, h2⟩ := h
  have e2 : r = [] := h2
  subst e2
  exact ⟨x, e, h1⟩
theorem cd_len : CallD X C (.builtin "len") opLen := CallRw (call_len_seq.or call_len_str) fun xs H Q ⟨F, ds, c, fh, r, ho, g⟩ => by
  match ds, ho, r with
  | [.tup es], ho, r =>
    cases ho
    obtain ⟨v, rfl, a, xs, rfl, ha, hl⟩ := RpL.one_inv r
    refine .inl ⟨a, xs, rfl, .inr (SqT.of (fh _ _ ha)), ?_⟩
    rw [← hl.len]
    exact got0 g fh rfl
  | [.lst es], ho, r =>
    cases ho
    obtain ⟨v, rfl, a, xs, rfl, ha, hl⟩ := RpL.one_inv r
    refine .inl ⟨a, xs, rfl, .inl (SqL.of (fh _ _ ha)), ?_⟩
    rw [← hl.len]
    exact got0 g fh rfl
  | [.scr es], ho, r =>
    cases ho
    obtain ⟨v, rfl, a, rfl, ha⟩ := RpL.one_inv r
    refine .inl ⟨a, _, rfl, .inl (fh.seq ha), ?_⟩
    rw [List.length_map]
    exact got0 g fh rfl
  | [.str z], ho, r =>
    simp only [opLen] at ho
    split at ho
    · rename_i hz
      cases ho
      obtain ⟨v, rfl, h⟩ := RpL.one_inv r
      have e : v = .str z := h
      subst e
      exact .inr ⟨z, rfl, szl_ok hz, got0 g fh rfl⟩
    · cases ho
theorem cd_tuple : CallD X C (.type "tuple") opTuple := CallRw call_tuple_of fun xs H Q ⟨F, ds, c, fh, r, ho, g⟩ => by
  match ds, ho, r with
  | [.tup es], ho, r =>
    cases ho
    obtain ⟨v, rfl, a, xs, rfl, ha, hl⟩ := RpL.one_inv r
    exact ⟨a, xs, rfl, .inr ⟨SqT.of (fh _ _ ha), got0 g fh ⟨a, xs, rfl, ha, hl⟩⟩⟩
  | [.lst es], ho, r =>
    cases ho
    obtain ⟨v, rfl, a, xs, rfl, ha, hl⟩ := RpL.one_inv r
    exact ⟨a, xs, rfl, .inl ⟨SqL.of (fh _ _ ha), fun l hn => gotN g fh hn ⟨l, xs, rfl, upd_same, RpL.mono (same_upd (none_of_same fh hn)) _ _ hl⟩⟩⟩
theorem cd_list : CallD X C (.type "list") opList := CallRw call_list_of fun xs H Q ⟨F, ds, c, fh, r, ho, g⟩ => by
  match ds, ho, r with
  | [.tup es], ho, r =>
    cases ho
    obtain ⟨v, rfl, a, xs, rfl, ha, hl⟩ := RpL.one_inv r
    exact ⟨a, xs, rfl, .inr (SqT.of (fh _ _ ha)), fun l hn => gotN g fh hn ⟨l, xs, rfl, upd_same, RpL.mono (same_upd (none_of_same fh hn)) _ _ hl⟩⟩
  | [.lst es], ho, r =>
    cases ho
    obtain ⟨v, rfl, a, xs, rfl, ha, hl⟩ := RpL.one_inv r
    exact ⟨a, xs, rfl, .inl (SqL.of (fh _ _ ha)), fun l hn => gotN g fh hn ⟨l, xs, rfl, upd_same, RpL.mono (same_upd (none_of_same fh hn)) _ _ hl⟩⟩
theorem blsRp {K : PySem.W.Frag} {F : Hp} : ∀ {ds : List D} {ns : List Bool} {vs : List V}, asBls ds = some ns → RpL K C F ds vs → vs = ns.map V.bl
  | [], ns, vs, e, h => by
    cases e
    exact h
  | .bl i :: ds, ns, vs, e, h => by
    simp only [asBls, Option.map_eq_some_iff] at e
    obtain ⟨ns', e1, rfl⟩ := e
    obtain ⟨x, r, rfl, h1, h2⟩ := h
    have h1' : x = .bl i := h1
    rw [h1', blsRp e1 h2]
    rfl
  | .non :: _, _, _, e, _ => by simp [asBls] at e
  | .int _ :: _, _, _, e, _ => by simp [asBls] at e
  | .str _ :: _, _, _, e, _ => by simp [asBls] at e
  | .tup _ :: _, _, _, e, _ => by simp [asBls] at e
  | .lst _ :: _, _, _, e, _ => by simp [asBls] at e
  | .bell _ :: _, _, _, e, _ => by simp [asBls] at e
  | .scr _ :: _, _, _, e, _ => by simp [asBls] at e
  | .ext _ :: _, _, _, e, _ => by simp [asBls] at e
theorem cd_all (hc : X.calm = true) : CallD X C (.builtin "all") opAll := CallRw (cr_all hc) fun xs H Q ⟨F, ds, c, fh, r, ho, g⟩ => by
  match ds, ho, r with
  | [.lst es], ho, r =>
    obtain ⟨ns, e1, ho1⟩ := bind_some ho
    cases ho1
    obtain ⟨v, rfl, a, xs, rfl, ha, hl⟩ := RpL.one_inv r
    rw [blsRp e1 hl] at ha
    exact ⟨a, ns, rfl, SqL.of (fh _ _ ha), got0 g fh rfl⟩
theorem cd_bool : CallD X C (.type "bool") opBool := CallRw call_bool1 fun xs H Q ⟨F, ds, c, fh, r, ho, g⟩ => by
  match ds, ho, r with
  | [.int i], ho, r =>
    cases ho
    obtain ⟨v, rfl, h⟩ := RpL.one_inv r
    rw [Rp.int h]
    exact .inl ⟨i, rfl, got0 g fh rfl⟩
  | [.bl i], ho, r =>
    cases ho
    obtain ⟨v, rfl, h⟩ := RpL.one_inv r
    rw [Rp.bl h]
    exact .inr ⟨i, rfl, got0 g fh rfl⟩
def opIsi (T : String) : D → Option D
  | .non => some (.bl false)
  | .bl _ => some (.bl (T == "bool" || T == "int"))
  | .int _ => some (.bl (T == "int"))
  | .str _ => some (.bl (T == "str"))
  | .tup _ => some (.bl (T == "tuple"))
  | .lst _ => some (.bl (T == "list"))
  | _ => none
theorem isi_tab {K : PySem.W.Frag} {T : String} (hT : T = "int" ∨ T = "bool" ∨ T = "tuple" ∨ T = "list" ∨ T = "str") : PySem.W.kitOne K (.type "NoneType") (.type T) = some false ∧
    PySem.W.kitOne K (.type "bool") (.type T) = some (T == "bool" || T == "int") ∧ PySem.W.kitOne K (.type "int") (.type T) = some (T == "int") ∧ PySem.W.kitOne K (.type "str") (.type T) = some (T == "str") ∧
    PySem.W.kitOne K (.type "tuple") (.type T) = some (T == "tuple") ∧ PySem.W.kitOne K (.type "list") (.type T) = some (T == "list") := by
  rcases hT with rfl | rfl | rfl | rfl | rfl <;> refine ⟨?_, ?_, ?_, ?_, ?_, ?_⟩ <;> exact kit_ty (by decide +kernel)
variable {O : List Nat} {e : Expr} {f : DF} {pos p p' : Pos}
theorem isi_val {K : PySem.W.Frag} {F H : Hp} {T : String} {d c : D} {v : V} {Q : VK} (hT : T = "int" ∨ T = "bool" ∨ T = "tuple" ∨ T = "list" ∨ T = "str") (fh : Same F H) (r : Rp K C F d v) (ho : opIsi T d = some c) (g : Got K C F H c Q) : rIsi K [v, .ty T] H Q := by
  obtain ⟨t1, t2, t3, t4, t5, t6⟩ := isi_tab (K := K) hT
  have go : ∀ {t : Value} {b : Bool}, TyOf K H v t → PySem.W.kitOne K t (.type T) = some b → c = .bl b → rIsi K [v, .ty T] H Q := fun {t b} ty hk e => by
    subst e
    exact ⟨v, .ty T, t, .type T, b, rfl, .ty T, .base ty, hk, got0 g fh rfl⟩
  cases d with
  | non =>
    cases ho
    have e : v = .non := r
    subst e
    exact go .non t1 rfl
  | bl b =>
    cases ho
    have e : v = .bl b := r
    subst e
    exact go (.bl b) t2 rfl
  | int i =>
    cases ho
    have e : v = .int i := r
    subst e
    exact go (.int i) t3 rfl
  | str z =>
    cases ho
    have e : v = .str z := r
    subst e
    exact go (.str z) t4 rfl
  | tup ds =>
    cases ho
    obtain ⟨a, xs, rfl, ha, _⟩ := r
    exact go (.tup (fh _ _ ha)) t5 rfl
  | lst ds =>
    cases ho
    obtain ⟨a, xs, rfl, ha, _⟩ := r
    exact go (.lst (fh _ _ ha)) t6 rfl
  | bell _ => cases ho
  | scr _ => cases ho
  | ext _ => cases ho
/-- isinstance(e, T), T a name of a built-in class -/
theorem de_isi {T : String} {x : Str} (hT : T = "int" ∨ T = "bool" ∨ T = "tuple" ∨ T = "list" ∨ T = "str") (ha : DE X C O e f) (hg : Gl X "isinstance") (hm : X.mg "isinstance" = none) (hg2 : Gl X x) (hm2 : X.mg x = none) (hv : bootBuiltins x = some (.type T))
    (hn2 : x ≠ "__name__" := by decide) (hd2 : (x == ("__debug__" : Str)) = false := by decide)
    (he : starEach [e, .Name x p'] X.env = (false, eval e X.env) :: starEach [.Name x p'] X.env := by rfl) (he2 : starEach [.Name x p'] X.env = (false, eval (.Name x p') X.env) :: starEach [] X.env := by rfl) (hpl : (backTo pos (starEach [.Name x p'] X.env)).any (·.1) = false := by rfl) :
    DE X C O (.Call (.Name "isinstance" p) [e, .Name x p'] [] pos) (d1 (opIsi T) f) := by
  have hp : PE X (.Name x p') (tC (.ty T)) := pe_bltn hg2 hm2 hv rfl hn2 hd2
  refine PEw (pe_callB call_isi hg hm PyProof.Rows.boot_isinstance (pa_cons ha (pa_cons hp pa_nil he2) he) (by decide) (by decide) he hpl) fun σ H Q ⟨F, ρ, t, E, hf, k⟩ => ?_
  obtain ⟨d, h1, hf1⟩ := bind_some hf
  exact ⟨F, ρ, d, E, h1, fun v F1 H1 s1 r1 => isi_val hT s1.fh r1 hf1 (k.step s1)⟩
/-- isinstance(e, (list, tuple)) -/
def opIsiLT : D → Option D
  | .tup _ => some (.bl true)
  | .lst _ => some (.bl true)
  | .bell _ => none
  | .scr _ => none
  | .ext _ => none
  | _ => some (.bl false)
end
def cutL (xs : List D) (lo hi : Option Int) : List D := (xs.drop (HT.sIx xs.length 0 lo)).take (HT.sIx xs.length xs.length hi - HT.sIx xs.length 0 lo)
def opSl (lo hi : Option Int) : D → Option D
  | .tup xs => some (.tup (cutL xs lo hi))
  | .lst xs => some (.lst (cutL xs lo hi))
  | _ => none
def asIx : D → Option Int
  | .int i => some i
  | _ => none
abbrev DOx := Rho → Option (Option Int)
def oNo : DOx := fun _ => some none
def oIx (f : DF) : DOx := fun ρ => (f ρ).bind fun d => (asIx d).bind fun i => some (some i)
def dSl (f : DF) (l u : DOx) : DF := fun ρ => (f ρ).bind fun x => (l ρ).bind fun lo => (u ρ).bind fun hi => opSl lo hi x
def tDO (K : PySem.W.Frag) (C : Addr) (O : List Nat) (f : DOx) : TO := fun σ H Q => ∃ F ρ o, En K C O F H σ ρ ∧ f ρ = some o ∧ ∀ F' H', Stp F H F' H' → Q o H'
section
variable {X : Cx} {C : Addr} {O : List Nat} {e : Expr} {f : DF} {l u : DOx} {pos p2 : Pos} {lo hi : Option Expr}
theorem POw {e : Option Expr} {t t' : TO} (h : PO X e t) (w : ∀ σ H Q, t' σ H Q → t σ H Q) : PO X e t' := ⟨fun pins s σ H Q I q => h.run pins s σ H Q I (w σ H Q q)⟩
theorem do_no : PO X none (tDO X.K C O oNo) := POw po_none fun σ H Q ⟨F, ρ, o, E, hf, k⟩ => by
  cases hf
  exact k F H (Stp.refl E.fh)
theorem do_ix (h : DE X C O e f) : PO X (some e) (tDO X.K C O (oIx f)) := POw (po_some h) fun σ H Q ⟨F, ρ, o, E, hf, k⟩ => by
  obtain ⟨d, h1, hf1⟩ := bind_some hf
  obtain ⟨i, h2, hf2⟩ := bind_some hf1
  cases hf2
  refine ⟨F, ρ, d, E, h1, fun v F1 H1 s1 r1 => ?_⟩
  cases d <;> first | (cases h2; done) | skip
  cases h2
  exact ⟨i, r1, k F1 H1 s1⟩
theorem RpL.cut {K : PySem.W.Frag} {F : Hp} {ds : List D} {vs : List V} (h : RpL K C F ds vs) (lo hi : Option Int) : RpL K C F (cutL ds lo hi) (cutV vs lo hi) := by
  unfold cutL cutV
  rw [h.len]
  exact RpL.take _ (RpL.drop _ h)
theorem whole_cut {ds : List D} {lo hi : Option Int} (h : HT.sIx ds.length 0 lo = 0 ∧ HT.sIx ds.length ds.length hi = ds.length) : cutL ds lo hi = ds := by
  unfold cutL
  rw [h.1, h.2, List.drop_zero, Nat.sub_zero, List.take_length]
theorem SlRw {r r' : V → Option Int → Option Int → Hp → VK → Prop} (h : SlR X r) (w : ∀ x lo hi H Q, r' x lo hi H Q → r x lo hi H Q) : SlR X r' := fun pins s σ H x v vl vu lo hi sl Q I rx hs pl pu q => h pins s σ H x v vl vu lo hi sl Q I rx hs pl pu (w x lo hi H Q q)
theorem sl_d : SlR X (fun x lo hi H Q => ∃ F d c, Same F H ∧ Rp X.K C F d x ∧ opSl lo hi d = some c ∧ Got X.K C F H c Q) := SlRw (sl_list.or sl_tupA) fun x lo hi H Q ⟨F, d, c, fh, r, ho, g⟩ => by
  cases d <;> first | (cases ho; done) | skip
  · cases ho
    obtain ⟨a, xs, rfl, ha, hl⟩ := r
    refine .inr ⟨a, xs, rfl, SqT.of (fh _ _ ha), fun hw => ?_, fun hw p hp => gotN g fh hp ⟨p, _, rfl, upd_same, (RpL.mono (same_upd (none_of_same fh hp)) _ _ (RpL.cut hl lo hi))⟩⟩
    rw [← hl.len] at hw
    rw [whole_cut hw] at g
    exact got0 g fh ⟨a, xs, rfl, ha, hl⟩
  · cases ho
    obtain ⟨a, xs, rfl, ha, hl⟩ := r
    exact .inl ⟨a, xs, rfl, SqL.of (fh _ _ ha), fun p hp => gotN g fh hp ⟨p, _, rfl, upd_same, (RpL.mono (same_upd (none_of_same fh hp)) _ _ (RpL.cut hl lo hi))⟩⟩
theorem de_slice (he : DE X C O e f) (hl : PO X lo (tDO X.K C O l)) (hu : PO X hi (tDO X.K C O u)) : DE X C O (.Subscript e (.Slice lo hi none p2) pos) (dSl f l u) := PEw (pe_slice sl_d he hl hu) fun σ H Q ⟨F, ρ, t, E, hf, k⟩ => by
  obtain ⟨x, h1, hf1⟩ := bind_some hf
  obtain ⟨lo', h2, hf2⟩ := bind_some hf1
  obtain ⟨hi', h3, hf3⟩ := bind_some hf2
  exact ⟨F, ρ, x, E, h1, fun v F1 H1 s1 r1 => ⟨F1, ρ, lo', E.step s1, h2, fun F2 H2 s2 => ⟨F2, ρ, hi', E.step (s1.trans s2), h3, fun F3 H3 s3 => ⟨F3, x, t, s3.fh, Rp.mono (s2.ff.trans s3.ff) x v r1, hf3, k.step (s1.trans (s2.trans s3))⟩⟩⟩⟩
end
end DL
namespace DL
open PySem PySem.Spec PyProof.Rows L2
theorem meets_enum1 {v : Value} {o : Obj} {H : Heap → Prop} (B : Begins v o H) :
    Meets (Builtin.«enumerate.__new__» ⟨[.type "enumerate", v], []⟩) (fun _ R s => H s.heap ∧
      R (.ok (.ret (.ref (s.heap.push o).objs.size))) { s with heap := (s.heap.push o).push { cls := .type "enumerate", data := .fields #[.none, .bool false, .ref s.heap.objs.size, rawInt 0, .none, .none] } }) :=
  .of_wp fun prog w A R s h => by
    obtain ⟨hp, g, d, tk, os⟩ := s; obtain ⟨h1, h⟩ := h
    have hsub := sub_enumerate
    have q1 : ∀ {A' : Around} {E : Value → Shared → Prop} {Q : Value → Shared → Prop}, Q (.ref hp.objs.size) ⟨hp.push o, g, d, tk, os⟩ → wpAny (model prog w) A' (pyIter v) Q E ⟨hp, g, d, tk, os⟩ :=
      fun q => B.iter prog w _ _ ⟨hp, g, d, tk, os⟩ _ h1 q
    wp_walk using q1
    refine wpAny_stack_any fun st => wpAny_pure ?_
    split
    · rename_i c _ _ _ _ _
      cases (c == Value.type "enumerate")
      · wp_walk using q1
        exact ⟨_, rfl, h⟩
      · wp_walk using q1
        exact ⟨_, rfl, h⟩
    · wp_walk using q1
      exact ⟨_, rfl, h⟩
theorem call_enum_begins {prog : Program} {w : World} {A : Around} {E : Value → Shared → Prop} {s : Shared} {v : Value} {o : Obj} {H : Heap → Prop} {Q : Value → Shared → Prop} (B : Begins v o H) (h1 : H s.heap)
    (h : ∀ h', IsEnum h' (s.heap.objs.size + 1) s.heap.objs.size 0 .none → h'.get? s.heap.objs.size = some o → h'.objs.size = s.heap.objs.size + 2 →
      (∀ b o, s.heap.get? b = some o → h'.get? b = some o) → Q (.ref (s.heap.objs.size + 1)) { s with heap := h' }) :
    wpAny (model prog w) A (call (.type "enumerate") [v]) Q E s := by
  refine callType_new F.called_enumerate (by decide) (F.typeCall_enumerate_1 _) (F.newCall_enumerate_1 _) (fun obj => F.args_object_init_2 obj _) F.entry_enumerate_new
    (meets_enum1 B) ⟨h1, ?_⟩
  have hz : (s.heap.push o).objs.size = s.heap.objs.size + 1 := Heap.size_push ..
  show _ ∧ _
  rw [hz]
  have he : IsEnum ((s.heap.push o).push { cls := .type "enumerate", data := .fields #[.none, .bool false, .ref s.heap.objs.size, rawInt 0, .none, .none] }) (s.heap.objs.size + 1) s.heap.objs.size 0 .none := by
    have := Heap.get?_push_size (s.heap.push o) (o := { cls := .type "enumerate", data := .fields #[.none, .bool false, .ref s.heap.objs.size, rawInt 0, .none, .none] }) rfl
    rw [hz] at this; exact this
  refine ⟨⟨_, he, rfl⟩, h _ he (Heap.get?_push_of_some _ (Heap.get?_push_size _ B.free)) (by rw [Heap.size_push, hz]) fun b o x => Heap.get?_push_of_some _ (Heap.get?_push_of_some _ x)⟩
def IteT (K : PySem.W.Frag) (a : Addr) : It :=
  ⟨fun i H => ∃ (xs : List V) (x : V), SqT K H a xs ∧ xs[i]? = some x, fun i H v H' => ∃ T x, v = .ref T ∧ H T = none ∧ H' = upd H T (.tup [.int (i : Nat), x]) ∧ ∀ xs, SqT K H a xs → xs[i]? = some x, fun i H => ∃ xs : List V, SqT K H a xs ∧ xs.length = i⟩
theorem turn_enumT {P : Program} {w : World} {K : PySem.W.Frag} {elts : List Expr} {kk : Nat} {tpos : Pos} (a e it : Addr) (hai : a ≠ it) (hae : a ≠ e) :
    Turn P w K (.Tuple elts kk tpos) (IteT K a) [e, it] e (fun i h => (∃ old, IsEnum h e it ((i : Nat) : Int) old) ∧ h.IsTupleIter it a i ∧ e ≠ it) where
  mem := by simp
  obj := fun i h st b hb => by
    obtain ⟨⟨old, he⟩, ⟨o, ho, hc, hd⟩, _⟩ := st
    have e' : b = e ∨ b = it := by simpa using hb
    rcases e' with z | z
    · rw [z]; exact ⟨_, he, fun v q => nomatch q⟩
    · rw [z]; exact ⟨o, ho, fun v q => by rw [hd] at q; cases q⟩
  keep := fun i h h' st k => let ⟨⟨old, he⟩, hi, hne⟩ := st; ⟨⟨old, k e (by simp) _ he⟩, hi.at fun o q => k it (by simp) o q, hne⟩
  item := by
    intro X hP hw hK hc i pins s σ H E I hf st hg
    subst hP hw hK
    obtain ⟨⟨old, he⟩, hit, hne⟩ := st
    obtain ⟨xs, x, hq, hx⟩ := hg
    obtain ⟨its, rv, p, hz⟩ := I.tuple hq
    obtain ⟨u, hu, ru⟩ := rv.get hx
    have hel : e < s.heap.objs.size := Heap.lt_size he
    have hil : it < s.heap.objs.size := by obtain ⟨_, q, _⟩ := hit; exact Heap.lt_size q
    have hi : i < its.toArray.size := by
      have := (List.getElem?_eq_some_iff.mp hu).1
      simpa using this
    refine wpAny_pyNext_enum_itemC (Draws.tuple (A := X.A.in1) (I.ok.hd hc) it a hai its.toArray) he ⟨hit, p⟩ hi hne (by
      intro z
      rcases List.mem_cons.mp z with z | z
      · exact hne z
      · exact hae (List.mem_singleton.mp z).symm) fun x' h' tk hx' ho hst' hT hsz hk => ?_
    have ex : x' = u := by
      have h1 : its.toArray[i]? = some u := by simpa using hu
      rw [h1] at hx'
      exact (Option.some.inj hx').symm
    subst ex
    refine ⟨_, rfl, wpAny_letOwnedTupleGo_enum (s := { s with heap := h', toks := tk + 1 }) ho fun h'' he' sb => ?_⟩
    have hT2 : h''.get? s.heap.objs.size = some { cls := .type "tuple", data := .seq #[.int i tk, x'] } := (sb.2 _ (Nat.ne_of_gt hel)).trans hT
    have new : ObjOk X.prog X.w (upd H s.heap.objs.size (.tup [.int (i : Nat), x])) h'' s.heap.objs.size (.tup [.int (i : Nat), x]) :=
      ⟨by show 2 ≤ sizeLine; decide, [.int i tk, x'], .cons ⟨_, rfl⟩ (.cons ru .nil), ⟨_, hT2, rfl, _, rfl⟩⟩
    have I1 : Inv X pins σ (upd H s.heap.objs.size (.tup [.int (i : Nat), x])) { s with heap := h'', toks := tk + 1 } :=
      I.turnedNew (ch := [e, it]) (fun b ob hb q => (sb.2 b (fun z => hb (by simp [z]))).trans (hk b ob (fun z => hb (by simp [z])) (fun z => hb (by simp [z])) q)) hf (Nat.le_refl _) new
    refine ⟨.ref s.heap.objs.size, _, I1, rfl, ⟨_, x, rfl, I.hok.fresh (Nat.le_refl _), rfl, fun ys hy => by rw [I.tuple_inj hy hq]; exact hx⟩, ⟨⟨x', ?_⟩, hst'.1.at fun o q => (sb.2 it (Ne.symm hne)).trans q, hne⟩, fun b hb => ?_⟩
    · have e1 : ((i + 1 : Nat) : Int) = (i : Int) + 1 := by omega
      rw [e1]; exact he'
    · have hb' : b < s.heap.objs.size := by
        have e' : b = e ∨ b = it := by simpa using hb
        rcases e' with z | z
        · rw [z]; exact hel
        · rw [z]; exact hil
      rw [upd_ne (Nat.ne_of_lt hb')]
      exact (hf b hb).1
  done := by
    intro X hP hw hK hc i pins s σ H E I hf st hg
    subst hP hw hK
    obtain ⟨⟨old, he⟩, hit, hne⟩ := st
    obtain ⟨xs, hq, hx⟩ := hg
    obtain ⟨its, rv, p, hz⟩ := I.tuple hq
    obtain ⟨f0, f1, f2, f3, f4, f5⟩ := hf it (by simp)
    have hl := rv.length
    have ei : i = its.toArray.size := by
      rw [List.size_toArray, ← hl]
      exact hx.symm
    subst ei
    refine wpAny_pyNext_enum_endD (Draws.tuple (A := X.A.in1) (I.ok.hd hc) it a hai its.toArray) he ⟨hit, p⟩ fun h' eb => ⟨rfl, I.turned (t' := s.toks) (fun b o hb q => eb b o hb q) f0 f1 f3 f4 f5⟩
  self := fun A i s Q E st h => let ⟨⟨_, he⟩, _⟩ := st; wpAny_pyIter_enum he h
def iEnumT (K : PySem.W.Frag) (ta : TA) : TI := fun σ H R => ta σ H fun vs H1 => ∃ a xs, vs = [.ref a] ∧ H1 a = some (.tup xs) ∧ R (IteT K a) H1
theorem pi_enumT {X : Cx} {e : Expr} {ta : TA} {p pos tpos : Pos} {elts : List Expr} {kk : Nat} (hg : Gl X "enumerate") (hm : X.mg "enumerate" = none) (ha : PA X [e] ta) (hs : starEach [e] X.env = [(false, eval e X.env)] := by rfl) :
    PI X (.Tuple elts kk tpos) (.Call (.Name "enumerate" p) [e] [] pos) (iEnumT X.K ta) := by
  refine ⟨fun pins s σ H R I h => ?_⟩
  refine Call_ (ld_blt I hg hm boot_enumerate (PyProof.Rows.callWith_type1 (thn (ha.run pos pins s σ H _ I h) fun us s1 ⟨vs, H1, I1, r1, q1⟩ => ?_) hs rfl))
  obtain ⟨a, xs, ex, hq, q⟩ := q1
  subst ex
  cases r1 with
  | cons r rr =>
    cases rr
    cases r
    obtain ⟨its, rv, p', hz⟩ := I1.tuple (SqT.of hq)
    have hal : a < s1.heap.objs.size := p'.lt
    refine call_enum_begins (begins_tuple a its.toArray) p' fun h' he hit hsz hk => wpAny_pyIter_enum he ?_
    have I2 : Inv X pins σ H1 { s1 with heap := h' } := I1.kept (t' := s1.toks) hk
    refine ⟨s1.heap.objs.size + 1, [s1.heap.objs.size + 1, s1.heap.objs.size], _, _, H1, rfl, I2, turn_enumT a (s1.heap.objs.size + 1) s1.heap.objs.size (Nat.ne_of_lt hal) (Nat.ne_of_lt (Nat.lt_succ_of_lt hal)), ⟨⟨.none, he⟩, ⟨_, hit, rfl, rfl⟩, Nat.succ_ne_self _⟩, fun b hb => ?_, q⟩
    have e' : b = s1.heap.objs.size + 1 ∨ b = s1.heap.objs.size := by simpa using hb
    have hle : s1.heap.objs.size ≤ b := by
      rcases e' with z | z
      · rw [z]; exact Nat.le_add_right _ _
      · rw [z]; exact Nat.le_refl _
    exact I1.fpOk hle (I1.hok.fresh hle)
theorem PIor {X : Cx} {tg e : Expr} {w w' : TI} (h : PI X tg e w) (h' : PI X tg e w') : PI X tg e (fun σ H R => w σ H R ∨ w' σ H R) :=
  ⟨fun pins s σ H R I q => q.elim (h.run pins s σ H R I) (h'.run pins s σ H R I)⟩
theorem PIw {X : Cx} {tg e : Expr} {w w' : TI} (h : PI X tg e w) (k : ∀ σ H R, w' σ H R → w σ H R) : PI X tg e w' := ⟨fun pins s σ H R I q => h.run pins s σ H R I (k σ H R q)⟩
/-- J yields ds, whatever is made meanwhile -/
def JD (K : PySem.W.Frag) (C : Addr) (J : It) (F : Hp) (ds : List D) : Prop := ∀ i F1 H1, Same F F1 → Same F1 H1 → (i = ds.length → J.stop i H1) ∧
  ∀ d, ds[i]? = some d → J.go i H1 ∧ ∀ x H2, J.yld i H1 x H2 → ∃ F2, Stp F1 H1 F2 H2 ∧ Rp K C F2 d x
def tDI (K : PySem.W.Frag) (C : Addr) (O : List Nat) (f : DFs) : TI := fun σ H R => ∃ F ρ ds, En K C O F H σ ρ ∧ f ρ = some ds ∧ ∀ J F' H', Stp F H F' H' → JD K C J F' ds → R J H'
abbrev DI (X : Cx) (C : Addr) (O : List Nat) (tg e : Expr) (f : DFs) : Prop := PI X tg e (tDI X.K C O f)
def asSeq : D → Option (List D)
  | .tup xs => some xs
  | .lst xs => some xs
  | _ => none
def iSeq (f : DF) : DFs := fun ρ => (f ρ).bind asSeq
def rngD (a : Int) (n : Nat) : List D := (List.range n).map fun (i : Nat) => D.int (a + (i : Int))
def opRng1 : List D → Option (List D)
  | [.int n] => if -4611686018427387904 ≤ n ∧ n < 4611686018427387904 then some (rngD 0 n.toNat) else none
  | _ => none
def opRng2 : List D → Option (List D)
  | [.int a, .int b] => if -4611686018427387904 ≤ a ∧ a < 4611686018427387904 ∧ -4611686018427387904 ≤ b ∧ b < 4611686018427387904 then some (rngD a (b - a).toNat) else none
  | _ => none
def iRng1 (f : DFs) : DFs := fun ρ => (f ρ).bind opRng1
def iRng2 (f : DFs) : DFs := fun ρ => (f ρ).bind opRng2
def enumD (xs : List D) : List D := (List.range xs.length).zipWith (fun i d => D.tup [.int (i : Nat), d]) xs
def iEn (f : DFs) : DFs := fun ρ => (f ρ).bind fun ds => match ds with
  | [.tup xs] => some (enumD xs)
  | [.lst xs] => some (enumD xs)
  | _ => none
section
variable {K : PySem.W.Frag} {C : Addr} {F H : Hp} {a b : Addr} {xs ys : List V} {ds es : List D}
theorem jd_list (h : F a = some (.lst xs)) (hl : RpL K C F ds xs) : JD K C (Itl K a) F ds := fun i F1 H1 s1 s2 => by
  have ha : SqL K H1 a xs := SqL.of (s2 _ _ (s1 _ _ h))
  refine ⟨fun hi => ⟨xs, ha, by rw [hi, hl.len]; exact Nat.le_refl _⟩, fun d hd => ?_⟩
  obtain ⟨v, hv, r⟩ := RpL.get hl hd
  refine ⟨⟨xs, v, ha, hv⟩, fun x H2 y => ?_⟩
  obtain ⟨rfl, y⟩ := y
  have e := y xs ha
  rw [hv] at e
  cases e
  exact ⟨F1, Stp.refl s2, Rp.mono s1 d _ r⟩
theorem jd_tup (h : F a = some (.tup xs)) (hl : RpL K C F ds xs) : JD K C (Itt K a) F ds := fun i F1 H1 s1 s2 => by
  have ha : SqT K H1 a xs := SqT.of (s2 _ _ (s1 _ _ h))
  refine ⟨fun hi => ⟨xs, ha, by rw [hi, hl.len]; exact Nat.le_refl _⟩, fun d hd => ?_⟩
  obtain ⟨v, hv, r⟩ := RpL.get hl hd
  refine ⟨⟨xs, v, ha, hv⟩, fun x H2 y => ?_⟩
  obtain ⟨rfl, y⟩ := y
  have e := y xs ha
  rw [hv] at e
  cases e
  exact ⟨F1, Stp.refl s2, Rp.mono s1 d _ r⟩
theorem rngD_len (a : Int) (n : Nat) : (rngD a n).length = n := by
  unfold rngD
  rw [List.length_map, List.length_range]
theorem rngD_get {a : Int} {n i : Nat} {d : D} (h : (rngD a n)[i]? = some d) : i < n ∧ d = .int (a + (i : Int)) := by
  unfold rngD at h
  rw [List.getElem?_map] at h
  obtain ⟨j, h1, h2⟩ := Option.map_eq_some_iff.mp h
  obtain ⟨h3, h4⟩ := List.getElem?_eq_some_iff.mp h1
  rw [List.getElem_range] at h4
  rw [List.length_range] at h3
  subst h4
  exact ⟨h3, h2.symm⟩
theorem jd_rng {lo : Int} {n : Nat} : JD K C (Itr lo n) F (rngD lo n) := fun i F1 H1 s1 s2 => by
  refine ⟨fun hi => by
    rw [hi, rngD_len]
    exact Nat.le_refl _, fun d hd => ?_⟩
  obtain ⟨h1, rfl⟩ := rngD_get hd
  refine ⟨h1, fun x H2 y => ?_⟩
  obtain ⟨rfl, rfl⟩ := y
  exact ⟨F1, Stp.refl s2, rfl⟩
theorem enumD_len (xs : List D) : (enumD xs).length = xs.length := by
  unfold enumD
  rw [List.length_zipWith, List.length_range, Nat.min_self]
theorem enumD_get {xs : List D} {i : Nat} {d : D} (h : (enumD xs)[i]? = some d) : ∃ c, xs[i]? = some c ∧ d = .tup [.int (i : Nat), c] := by
  unfold enumD at h
  rw [List.getElem?_zipWith] at h
  cases e1 : (List.range xs.length)[i]? with
  | none =>
    rw [e1] at h
    cases h
  | some j =>
    cases e2 : xs[i]? with
    | none =>
      rw [e1, e2] at h
      cases h
    | some c =>
      rw [e1, e2] at h
      obtain ⟨h3, h4⟩ := List.getElem?_eq_some_iff.mp e1
      rw [List.getElem_range] at h4
      subst h4
      exact ⟨c, rfl, (Option.some.inj h).symm⟩
theorem pair_new {F1 H1 : Hp} (s2 : Same F1 H1) {T : Addr} {x y : V} {c d : D} (hT : H1 T = none) (r1 : Rp K C F1 c x) (r2 : Rp K C F1 d y) :
    ∃ F2, Stp F1 H1 F2 (upd H1 T (.tup [x, y])) ∧ Rp K C F2 (.tup [c, d]) (.ref T) := by
  have st := Stp.new (o := .tup [x, y]) s2 hT
  exact ⟨_, st, T, [x, y], rfl, upd_same, RpL.cons (Rp.mono st.ff c x r1) (RpL.cons (Rp.mono st.ff d y r2) RpL.nil)⟩
theorem jd_enumL (h : F a = some (.lst xs)) (hl : RpL K C F ds xs) : JD K C (Ite K a) F (enumD ds) := fun i F1 H1 s1 s2 => by
  have ha : SqL K H1 a xs := SqL.of (s2 _ _ (s1 _ _ h))
  refine ⟨fun hi => ⟨xs, ha, by rw [hi, enumD_len, hl.len]; exact Nat.le_refl _⟩, fun d hd => ?_⟩
  obtain ⟨c, hc, rfl⟩ := enumD_get hd
  obtain ⟨v, hv, r⟩ := RpL.get hl hc
  refine ⟨⟨xs, v, ha, hv⟩, fun x H2 y => ?_⟩
  obtain ⟨T, x', rfl, hT, rfl, y⟩ := y
  have e := y xs ha
  rw [hv] at e
  cases e
  exact pair_new s2 hT rfl (Rp.mono s1 c _ r)
theorem jd_enumT (h : F a = some (.tup xs)) (hl : RpL K C F ds xs) : JD K C (IteT K a) F (enumD ds) := fun i F1 H1 s1 s2 => by
  have ha : SqT K H1 a xs := SqT.of (s2 _ _ (s1 _ _ h))
  refine ⟨fun hi => ⟨xs, ha, by rw [hi, enumD_len, hl.len]⟩, fun d hd => ?_⟩
  obtain ⟨c, hc, rfl⟩ := enumD_get hd
  obtain ⟨v, hv, r⟩ := RpL.get hl hc
  refine ⟨⟨xs, v, ha, hv⟩, fun x H2 y => ?_⟩
  obtain ⟨T, x', rfl, hT, rfl, y⟩ := y
  have e := y xs ha
  rw [hv] at e
  cases e
  exact pair_new s2 hT rfl (Rp.mono s1 c _ r)
end
section
variable {X : Cx} {C : Addr} {O : List Nat} {tg e e2 : Expr} {es : List Expr} {f : DF} {fs : DFs} {p pos tpos : Pos}
theorem di_seq (he : DE X C O e f) : DI X C O tg e (iSeq f) := PIw (PIor (pi_list he) (pi_tup he)) fun σ H R ⟨F, ρ, ds, E, hf, k⟩ => by
  obtain ⟨d, h1, hf1⟩ := bind_some hf
  cases d <;> first | (cases hf1; done) | skip
  · cases hf1
    refine .inr ⟨F, ρ, _, E, h1, fun v F1 H1 s1 r1 => ?_⟩
    obtain ⟨a, xs, rfl, ha, hl⟩ := r1
    exact ⟨a, rfl, ⟨xs, SqT.of (s1.fh _ _ ha)⟩, k _ F1 H1 s1 (jd_tup ha hl)⟩
  · cases hf1
    refine .inl ⟨F, ρ, _, E, h1, fun v F1 H1 s1 r1 => ?_⟩
    obtain ⟨a, xs, rfl, ha, hl⟩ := r1
    exact ⟨a, rfl, ⟨xs, SqL.of (s1.fh _ _ ha)⟩, k _ F1 H1 s1 (jd_list ha hl)⟩
theorem e62 : (2 : Int) ^ 62 = 4611686018427387904 := by decide
theorem di_rng1 (hg : Gl X "range") (hm : X.mg "range" = none) (ha : DA X C O [e] fs) (hs : starEach [e] X.env = [(false, eval e X.env)] := by rfl) : DI X C O tg (.Call (.Name "range" p) [e] [] pos) (iRng1 fs) :=
  PIw (pi_range1 hg hm ha hs) fun σ H R ⟨F, ρ, ds, E, hf, k⟩ => by
    obtain ⟨d, h1, hf1⟩ := bind_some hf
    refine ⟨F, ρ, d, E, h1, fun vs F1 H1 s1 r1 => ?_⟩
    match d, hf1, r1 with
    | [.int n], hf1, r1 =>
      simp only [opRng1] at hf1
      split at hf1
      · rename_i hz
        cases hf1
        obtain ⟨v, rfl, h⟩ := RpL.one_inv r1
        rw [Rp.int h]
        exact ⟨n, rfl, by rw [e62]; omega, by rw [e62]; omega, k _ F1 H1 s1 jd_rng⟩
      · cases hf1
variable {elts : List Expr} {kk : Nat}
theorem di_enum (hg : Gl X "enumerate") (hm : X.mg "enumerate" = none) (ha : DA X C O [e] fs) (hs : starEach [e] X.env = [(false, eval e X.env)] := by rfl) : DI X C O (.Tuple elts kk tpos) (.Call (.Name "enumerate" p) [e] [] pos) (iEn fs) :=
  PIw (PIor (pi_enum hg hm ha hs) (pi_enumT hg hm ha hs)) fun σ H R ⟨F, ρ, ds, E, hf, k⟩ => by
    obtain ⟨d, h1, hf1⟩ := bind_some hf
    match d, hf1, h1 with
    | [.tup xs], hf1, h1 =>
      cases hf1
      refine .inr ⟨F, ρ, _, E, h1, fun vs F1 H1 s1 r1 => ?_⟩
      obtain ⟨v, rfl, a, us, rfl, ha, hl⟩ := RpL.one_inv r1
      exact ⟨a, us, rfl, s1.fh _ _ ha, k _ F1 H1 s1 (jd_enumT ha hl)⟩
    | [.lst xs], hf1, h1 =>
      cases hf1
      refine .inl ⟨F, ρ, _, E, h1, fun vs F1 H1 s1 r1 => ?_⟩
      obtain ⟨v, rfl, a, us, rfl, ha, hl⟩ := RpL.one_inv r1
      exact ⟨a, us, rfl, SqL.of (s1.fh _ _ ha), k _ F1 H1 s1 (jd_enumL ha hl)⟩
end
end DL
namespace DL
open PySem PySem.Spec PyProof.Rows L2
/-- a target: what the slots hold behind it -/
abbrev DG := D → Rho → Option Rho
def gN (i : Nat) : DG := fun d ρ => some (st ρ i d)
abbrev DGs := List D → Rho → Option Rho
def gsNil : DGs := fun ds ρ => match ds with
  | [] => some ρ
  | _ => none
def gsCons (g : DG) (h : DGs) : DGs := fun ds ρ => match ds with
  | d :: r => (g d ρ).bind (h r)
  | [] => none
def gT (h : DGs) : DG := fun d ρ => (asSeq d).bind fun ds => match d with
  | .tup _ => h ds ρ
  | _ => none
/-- but at the places ws the slots are as they were -/
def Bar (ws : List Nat) (σ σ' : L2.St) : Prop := σ'.length = σ.length ∧ ∀ j, j ∉ ws → σ'[j]? = σ[j]?
/-- the lists of one's own are as they were -/
def Kp (O : List Nat) (σ σ' : L2.St) (ρ ρ' : Rho) : Prop := ∀ i ∈ O, σ'[i]? = σ[i]? ∧ lk ρ' i = lk ρ i
theorem Kp.refl {O : List Nat} {σ : L2.St} {ρ : Rho} : Kp O σ σ ρ ρ := fun _ _ => ⟨rfl, rfl⟩
theorem Kp.trans {O : List Nat} {σ σ1 σ2 : L2.St} {ρ ρ1 ρ2 : Rho} (a : Kp O σ σ1 ρ ρ1) (b : Kp O σ1 σ2 ρ1 ρ2) : Kp O σ σ2 ρ ρ2 := fun i hi => ⟨(b i hi).1.trans (a i hi).1, (b i hi).2.trans (a i hi).2⟩
def tDG (K : PySem.W.Frag) (C : Addr) (O ws : List Nat) (g : DG) : TG := fun v σ H Q => ∃ F ρ d ρ', En K C O F H σ ρ ∧ Rp K C F d v ∧ g d ρ = some ρ' ∧ ∀ σ' , En K C O F H σ' ρ' → Bar ws σ σ' → Kp O σ σ' ρ ρ' → Q σ' H
def tDGs (K : PySem.W.Frag) (C : Addr) (O ws : List Nat) (g : DGs) : TGs := fun vs σ H Q => ∃ F ρ ds ρ', En K C O F H σ ρ ∧ RpL K C F ds vs ∧ g ds ρ = some ρ' ∧ ∀ σ', En K C O F H σ' ρ' → Bar ws σ σ' → Kp O σ σ' ρ ρ' → Q σ' H
abbrev DTg (X : Cx) (C : Addr) (O ws : List Nat) (e : Expr) (g : DG) : Prop := PG X e (tDG X.K C O ws g)
abbrev DTgs (X : Cx) (C : Addr) (O ws : List Nat) (es : List Expr) (g : DGs) : Prop := PGs X es (tDGs X.K C O ws g)
theorem Bar.trans {ws vs : List Nat} {a b c : L2.St} (h : Bar ws a b) (h' : Bar vs b c) : Bar (ws ++ vs) a c :=
  ⟨h'.1.trans h.1, fun j hj => (h'.2 j fun z => hj (List.mem_append_right _ z)).trans (h.2 j fun z => hj (List.mem_append_left _ z))⟩
theorem Bar.refl {ws : List Nat} {a : L2.St} : Bar ws a a := ⟨rfl, fun _ _ => rfl⟩
theorem wipe_get (σ : L2.St) : ∀ (vs : List Nat) (j : Nat), (wipe σ vs)[j]? = if j ∈ vs ∧ j < σ.length then some none else σ[j]?
  | [], j => by
    rw [if_neg (fun z => by cases z.1)]
    rfl
  | v :: vs, j => by
    show ((wipe σ vs).set v none)[j]? = _
    by_cases hv : v = j
    · subst hv
      by_cases hl : v < σ.length
      · rw [if_pos ⟨List.mem_cons_self, hl⟩, List.getElem?_set_self (by rw [wipe_length]; exact hl)]
      · rw [if_neg (fun z => hl z.2), List.getElem?_eq_none (by rw [List.length_set, wipe_length]; omega), List.getElem?_eq_none (by omega)]
    · rw [List.getElem?_set_ne hv, wipe_get σ vs j]
      have e : (j ∈ v :: vs ∧ j < σ.length) ↔ (j ∈ vs ∧ j < σ.length) := by
        constructor
        · rintro ⟨h1, h2⟩
          exact ⟨(List.mem_cons.mp h1).elim (fun z => absurd z.symm hv) id, h2⟩
        · rintro ⟨h1, h2⟩
          exact ⟨List.mem_cons_of_mem _ h1, h2⟩
      by_cases h : j ∈ vs ∧ j < σ.length
      · rw [if_pos h, if_pos (e.mpr h)]
      · rw [if_neg h, if_neg (fun z => h (e.mp z))]
theorem wipe_bar {ws vs : List Nat} {σ σ' : L2.St} (h : Bar ws (wipe σ vs) σ') (hs : ∀ i ∈ ws, i ∈ vs) : wipe σ' vs = wipe σ vs := by
  apply List.ext_getElem?
  intro j
  have hl : σ'.length = σ.length := by rw [h.1, wipe_length]
  rw [wipe_get, wipe_get, hl]
  split
  · rfl
  · rename_i hn
    by_cases hj : j ∈ vs
    · have hjl : ¬ j < σ.length := fun z => hn ⟨hj, z⟩
      rw [List.getElem?_eq_none (by omega), List.getElem?_eq_none (by omega)]
    · rw [h.2 j fun z => hj (hs j z), wipe_get, if_neg (fun z => hj z.1)]
section
variable {X : Cx} {C : Addr} {O : List Nat} {e : Expr} {es : List Expr} {g : DG} {h : DGs} {ws vs' : List Nat} {pos : Pos}
theorem PGw {e : Expr} {t t' : TG} (h : PG X e t) (w : ∀ v σ H Q, t' v σ H Q → t v σ H Q) : PG X e t' := ⟨fun pins s σ H v u Q I r q => h.run pins s σ H v u Q I r (w v σ H Q q)⟩
theorem PGsw {e : List Expr} {t t' : TGs} (h : PGs X e t) (w : ∀ v σ H Q, t' v σ H Q → t v σ H Q) : PGs X e t' := ⟨fun pins s σ H v u Q I r q => h.run pins s σ H v u Q I r (w v σ H Q q)⟩
theorem dg_name (i : Nat) {x : Str} (hN : X.N.Nodup) (hi : X.N[i]? = some x := by rfl) (hx : Loc X.env.scope x := by first | exact Or.inl rfl | exact Or.inr rfl) (hO : i ∉ O := by decide)
    (hf : X.fn x = true ∨ X.env.scope.names.lookup x = some .local := by first | exact .inl rfl | exact .inr rfl) : DTg X C O [i] (.Name x pos) (gN i) := PGw (pg_name hN hi hx hf) fun v σ H Q ⟨F, ρ, d, ρ', E, r, hg, k⟩ => by
  cases hg
  exact k _ (E.set hO r) ⟨by rw [List.length_set], fun j hj => List.getElem?_set_ne fun z => hj (by rw [z]; exact List.mem_cons_self)⟩ fun j hj => ⟨List.getElem?_set_ne fun (z : i = j) => hO (by rw [z]; exact hj), lk_st_ne fun (z : j = i) => hO (by rw [← z]; exact hj)⟩
theorem dg_nil : DTgs X C O [] [] gsNil := PGsw pgs_nil fun vs σ H Q ⟨F, ρ, ds, ρ', E, r, hg, k⟩ => by
  cases ds with
  | nil =>
    cases hg
    exact ⟨r, k σ E Bar.refl Kp.refl⟩
  | cons _ _ => cases hg
theorem dg_cons (h1 : DTg X C O ws e g) (h2 : DTgs X C O vs' es h) (hs : (assignEach (e :: es) X.env).map (·.2) = assign e X.env :: (assignEach es X.env).map (·.2) := by rfl) : DTgs X C O (ws ++ vs') (e :: es) (gsCons g h) := PGsw (pgs_cons h1 h2 hs) fun vs σ H Q ⟨F, ρ, ds, ρ', E, r, hg, k⟩ => by
  cases ds with
  | nil => cases hg
  | cons d ds =>
    obtain ⟨ρ1, g1, g2⟩ := bind_some hg
    obtain ⟨v, vr, rfl, r1, r2⟩ := r
    exact ⟨v, vr, rfl, F, ρ, d, ρ1, E, r1, g1, fun σ1 E1 b1 k1 => ⟨F, ρ1, ds, ρ', E1, r2, g2, fun σ2 E2 b2 k2 => k σ2 E2 (b1.trans b2) (k1.trans k2)⟩⟩
theorem dg_tup {n k : Nat} (hc : X.calm = true) (h1 : DTgs X C O ws es h) (hl : ∀ ds ρ ρ', h ds ρ = some ρ' → ds.length = n) (hn : (assignEach es X.env).length = n := by rfl) (hst : (assignEach es X.env).findIdx? (·.1) = none := by rfl) :
    DTg X C O ws (.Tuple es k pos) (gT h) := PGw (pg_tup hc h1 hn hst) fun v σ H Q ⟨F, ρ, d, ρ', E, r, hg, kk⟩ => by
  obtain ⟨ds, g1, g2⟩ := bind_some hg
  cases d with
  | tup es' =>
    cases g1
    obtain ⟨a, xs, rfl, ha, hr⟩ := r
    exact ⟨a, xs, rfl, SqT.of (E.fh _ _ ha), by rw [← hr.len]; exact hl _ _ _ g2, F, ρ, _, ρ', E, hr, g2, kk⟩
  | _ => cases g2
theorem gl0 : ∀ ds ρ ρ', gsNil ds ρ = some ρ' → ds.length = 0 := fun ds ρ ρ' h => by
  cases ds with
  | nil => rfl
  | cons _ _ => cases h
theorem gl1 {n : Nat} {g : DG} {h : DGs} (hh : ∀ ds ρ ρ', h ds ρ = some ρ' → ds.length = n) : ∀ ds ρ ρ', gsCons g h ds ρ = some ρ' → ds.length = n + 1 := fun ds ρ ρ' q => by
  cases ds with
  | nil => cases q
  | cons d r =>
    obtain ⟨ρ1, _, g2⟩ := bind_some q
    rw [List.length_cons, hh _ _ _ g2]
end
def compL (g : DG) (t : DB) (e : DF) (ρ : Rho) : List D → Option (List D)
  | [] => some []
  | d :: ds => (g d ρ).bind fun ρ1 => (t ρ1).bind fun b => if b = true then (e ρ1).bind fun x => (compL g t e ρ ds).bind fun r => some (x :: r) else compL g t e ρ ds
def lstOk (ds : List D) : Option D := if ds.length ≤ 16777216 then some (.lst ds) else none
def dComp (it : DFs) (g : DG) (t : DB) (e : DF) (vs : List Nat) : DF := fun ρ => (it ρ).bind fun ds => (compL g t e (wipeR ρ vs) ds).bind lstOk
def bYes : DB := fun _ => some true
abbrev DTs (X : Cx) (C : Addr) (O : List Nat) (ifs : List Expr) (t : DB) : Prop := PTs X ifs (tDT X.K C O t)
section
variable {X : Cx} {C : Addr} {O : List Nat}
theorem PTsw {ifs : List Expr} {t t' : TT} (h : PTs X ifs t) (w : ∀ σ H Q, t' σ H Q → t σ H Q) : PTs X ifs t' := ⟨fun pins s σ H Q I q => h.run pins s σ H Q I (w σ H Q q)⟩
theorem dts_nil : DTs X C O [] bYes := PTsw pts_nil fun σ H Q ⟨F, ρ, b, E, hf, k⟩ => by
  cases hf
  exact k F H (Stp.refl E.fh)
theorem dts_one {c : Expr} {t : DB} (h : DT X C O c t) : DTs X C O [c] t := pts_one h
/-- the comprehension's loop: acc, what is made so far; rest: what is to come -/
def CW (K : PySem.W.Frag) (C : Addr) (F0 H0 : Hp) (g : DG) (t : DB) (e : DF) (ρ : Rho) (ds rs : List D) (Dl : Addr) (i m : Nat) (H : Hp) : Prop :=
  m = ds.length - i ∧ i ≤ ds.length ∧ ∃ F acc racc rest, Stp F0 H0 F H ∧ H Dl = some (.lst acc) ∧ F Dl = none ∧ RpL K C F racc acc ∧ compL g t e ρ (ds.drop i) = some rest ∧ rs = racc ++ rest
theorem comp_rd {K : PySem.W.Frag} {it : DFs} {g : DG} {t : DB} {e : DF} {ws vs : List Nat} {σ : L2.St} {H : Hp} {Q : VK} (hs : ∀ i ∈ ws, i ∈ vs) (hw : tD K C O (dComp it g t e vs) σ H Q) :
    tLc (tDI K C O it) (tDG K C O ws g) (tDT K C O t) (tD K C O e) vs σ H Q := by
  obtain ⟨F, ρ, d, E, hf, k⟩ := hw
  obtain ⟨ds, h1, hf1⟩ := bind_some hf
  obtain ⟨rs, h2, hf2⟩ := bind_some hf1
  clear hf hf1
  unfold lstOk at hf2
  split at hf2
  · rename_i hz
    cases hf2
    refine ⟨F, ρ, ds, E, h1, fun J F1 H1 s1 jd Dl hD => ?_⟩
    have E1 : En K C O F1 H1 (wipe σ vs) (wipeR ρ vs) := (E.step s1).wipe vs
    refine ⟨CW K C F1 H1 g t e (wipeR ρ vs) ds rs Dl, ⟨ds.length, rfl, Nat.zero_le _, F1, [], [], rs, Stp.own s1.fh hD, upd_same, none_of_same s1.fh hD, RpL.nil, h2, rfl⟩, fun i m H2 hW => ?_⟩
    obtain ⟨rfl, hi, F2, acc, racc, rest, s2, hH, hF, hR, hc, he⟩ := hW
    by_cases hlt : i < ds.length
    · right
      obtain ⟨_, jg⟩ := jd i F2 H2 s2.ff s2.fh
      obtain ⟨go, yl⟩ := jg ds[i] (List.getElem?_eq_getElem hlt)
      rw [List.drop_eq_getElem_cons hlt] at hc
      unfold compL at hc
      obtain ⟨ρ1, c1, hc1⟩ := bind_some hc
      obtain ⟨b, c2, hc2⟩ := bind_some hc1
      clear hc hc1
      refine ⟨go, fun H' => CW K C F1 H1 g t e (wipeR ρ vs) ds rs Dl (i + 1) (ds.length - (i + 1)) H', fun H' hN => ⟨_, by omega, hN⟩, fun x H3 y => ?_⟩
      obtain ⟨F3, s3, r3⟩ := yl x H3 y
      have s13 := s2.trans s3
      refine ⟨F3, wipeR ρ vs, ds[i], ρ1, E1.step s13, r3, c1, fun σ4 E4 bar _ => ⟨wipe_bar bar hs, F3, ρ1, b, E4, c2, fun F5 H5 s5 => ?_⟩⟩
      have s15 := s13.trans s5
      have sD := s3.trans s5
      cases b with
      | true =>
        dsimp only
        rw [if_pos rfl] at hc2 ⊢
        obtain ⟨z, c3, hc3⟩ := bind_some hc2
        obtain ⟨rest', c4, hc4⟩ := bind_some hc3
        cases hc4
        refine ⟨F5, ρ1, z, E4.step s5, c3, fun v F6 H6 s6 r6 => ?_⟩
        have s16 := s15.trans s6
        have sE := sD.trans s6
        have hlen := hR.len
        have hl2 : acc.length < 16777216 := by
          rw [he, List.length_append, List.length_cons] at hz
          omega
        refine ⟨acc, sE.hh _ _ hH, Nat.lt_of_lt_of_le hl2 (szl_ok (Nat.le_refl _)), rfl, hlt, F6, acc ++ [v], racc ++ [z], rest', ?_, upd_same, (sE.old _ _ hH).trans hF, RpL.append (RpL.mono sE.ff _ _ hR) (RpL.one r6), c4, by rw [he, List.append_assoc]; rfl⟩
        have hFn : F6 Dl = none := (sE.old _ _ hH).trans hF
        refine ⟨s16.ff, fun a o q => ?_, fun a o q => ?_, s16.old⟩
        · rw [upd_ne (ne_of_none q hD)]
          exact s16.hh a o q
        · rw [upd_ne (ne_of_none q hFn)]
          exact s16.fh a o q
      | false =>
        dsimp only
        rw [if_neg Bool.false_ne_true] at hc2 ⊢
        exact ⟨rfl, hlt, F5, acc, racc, rest, s15, sD.hh _ _ hH, (sD.old _ _ hH).trans hF, RpL.mono sD.ff _ _ hR, hc2, he⟩
    · left
      have ei : i = ds.length := by omega
      subst ei
      obtain ⟨js, _⟩ := jd ds.length F2 H2 s2.ff s2.fh
      refine ⟨js rfl, ?_⟩
      rw [List.drop_length] at hc
      cases hc
      rw [List.append_nil] at he
      subst he
      have sF : Same F2 (upd F2 Dl (.lst acc)) := same_upd hF
      refine k _ (upd F2 Dl (.lst acc)) H2 (s1.trans ⟨s2.ff.trans sF, s2.hh, fun a o q => ?_, fun a o q => ?_⟩) ⟨Dl, acc, rfl, upd_same, RpL.mono sF _ _ hR⟩
      · by_cases ha : a = Dl
        · subst ha
          rw [upd_same] at q
          rw [← q]
          exact hH
        · rw [upd_ne ha] at q
          exact s2.fh a o q
      · rw [upd_ne (ne_of_none q hD)]
        exact s2.old a o q
  · cases hf2
variable {elt tg iter : Expr} {ifs : List Expr} {scope : Scope} {pos : Pos} {it : DFs} {g : DG} {t : DB} {e : DF} {ws : List Nat}
theorem de_comp {own : List (Str × Nat)} (hc : X.calm = true) (hN : X.N.Nodup) (hi : DI X C O tg iter it) (ok : BlkOk X.N X.env.scope scope own)
    (hg : ∀ (s : Shared) (H : Hp) (D : Addr) (cl : List (Str × Addr)) (fp : List Addr), DTg (X.blk s H scope (compEnvC scope cl D X.env) fp) C O ws tg g) (ht : ∀ (s : Shared) (H : Hp) (D : Addr) (cl : List (Str × Addr)) (fp : List Addr), DTs (X.blk s H scope (compEnvC scope cl D X.env) fp) C O ifs t)
    (he : ∀ (s : Shared) (H : Hp) (D : Addr) (cl : List (Str × Addr)) (fp : List Addr), DE (X.blk s H scope (compEnvC scope cl D X.env) fp) C O elt e) (hv : ∀ i ∈ ws, i ∈ own.map (·.2) := by decide) (hs : ∀ x, foldedSetIterable iter X.env x = pure x := by intro _; rfl) :
    DE X C O (.ListComp elt [⟨tg, iter, ifs, 0⟩] scope pos) (dComp it g t e (own.map (·.2))) := PEw (pe_lc hc hN hi ok hg ht he hs) fun _ _ _ hw => comp_rd hv hw
end
end DL
namespace DL
open PySem PySem.Spec PyProof.Rows L2
inductive R where
  | nx (ρ : Rho) | rt (d : D)
abbrev DS := Rho → Option R
/-- the slots at a statement; F0, H0: as the def was entered -/
structure Sn (K : PySem.W.Frag) (C : Addr) (O : List Nat) (F0 H0 F H : Hp) (σ : L2.St) (ρ : Rho) : Prop where
  en : En K C O F H σ ρ
  sp : Stp F0 H0 F H
  nw : ∀ i d p, i ∈ O → lk ρ i = some d → σ[i]? = some (some (.ref p)) → H0 p = none
def endR (K : PySem.W.Frag) (C : Addr) (O' : List Nat) (F0 H0 F : Hp) (Z : Ends) : R → Prop
  | .nx ρ' => ∀ σ' F' H', Sn K C O' F0 H0 F' H' σ' ρ' → Same F F' → Z.nx σ' H'
  | .rt d => ∀ v F' H', Stp F0 H0 F' H' → Rp K C F' d v → Z.rt v H'
def tDS (K : PySem.W.Frag) (C : Addr) (O O' : List Nat) (f : DS) : TS := fun Z σ H => ∃ F0 H0 F ρ r, Sn K C O F0 H0 F H σ ρ ∧ f ρ = some r ∧ endR K C O' F0 H0 F Z r
abbrev DSt (X : Cx) (C : Addr) (O O' : List Nat) (s : Stmt) (f : DS) : Prop := PS X s (tDS X.K C O O' f)
abbrev DSs (X : Cx) (C : Addr) (O O' : List Nat) (s : List Stmt) (f : DS) : Prop := PSs X s (tDS X.K C O O' f)
section
variable {K : PySem.W.Frag} {C : Addr} {O O' : List Nat} {F0 H0 F H F' H' : Hp} {σ : L2.St} {ρ : Rho} {Z : Ends}
theorem endR.mono {r : R} (h : endR K C O' F0 H0 F Z r) (s : Same F F') : endR K C O' F0 H0 F' Z r := by
  cases r with
  | nx ρ' => exact fun σ' F2 H2 S sm => h σ' F2 H2 S (s.trans sm)
  | rt d => exact h
theorem Sn.step (h : Sn K C O F0 H0 F H σ ρ) (s : Stp F H F' H') : Sn K C O F0 H0 F' H' σ ρ := ⟨h.en.step s, h.sp.trans s, h.nw⟩
theorem Sn.set {i : Nat} {d : D} {v : V} (h : Sn K C O F0 H0 F H σ ρ) (hi : i ∉ O) (hv : Rp K C F d v) : Sn K C O F0 H0 F H (σ.set i (some v)) (st ρ i d) := by
  refine ⟨h.en.set hi hv, h.sp, fun j e p hj q1 q2 => ?_⟩
  have hji : j ≠ i := fun z => hi (z ▸ hj)
  rw [lk_st_ne hji] at q1
  rw [List.getElem?_set_ne (Ne.symm hji)] at q2
  exact h.nw j e p hj q1 q2
/-- the slots are another, the lists of one's own the same -/
theorem Sn.keep {σ' : L2.St} {ρ' : Rho} (h : Sn K C O F0 H0 F H σ ρ) (E : En K C O F H σ' ρ') (kp : Kp O σ σ' ρ ρ') : Sn K C O F0 H0 F H σ' ρ' := by
  refine ⟨E, h.sp, fun j e p hj q1 q2 => ?_⟩
  rw [(kp j hj).2] at q1
  rw [(kp j hj).1] at q2
  exact h.nw j e p hj q1 q2
/-- a list that nobody knows becomes one's own -/
theorem Sn.adopt {i : Nat} {p : Addr} {ds : List D} {vs : List V} (h : Sn K C O F0 H0 F H σ ρ) (hi : i ∉ O) (hH : H p = some (.lst vs)) (hF : F p = none) (h0 : H0 p = none)
    (hn : ∀ j d, j ∈ O → lk ρ j = some d → σ[j]? ≠ some (some (.ref p))) (hl : RpL K C F ds vs) : Sn K C (i :: O) F0 H0 F H (σ.set i (some (.ref p))) (st ρ i (.lst ds)) := by
  have hE := h.en
  have nlt : ∀ {d : D}, lk (st ρ i (.lst ds)) i = some d → i < σ.length := fun {d} q => by
    have := lk_lt q
    rw [st_len, ← hE.len] at this
    exact this
  refine ⟨⟨hE.fh, by rw [List.length_set, st_len]; exact hE.len, fun j e hj q => ?_, fun j e hj q => ?_, fun j k e e' p' hj hk q1 q2 q3 q4 => ?_⟩, h.sp, fun j e p' hj q1 q2 => ?_⟩
  · have hji : j ≠ i := fun z => hj (by rw [z]; exact List.mem_cons_self)
    rw [lk_st_ne hji] at q
    rw [List.getElem?_set_ne (Ne.symm hji)]
    exact hE.pl j e (fun z => hj (List.mem_cons_of_mem _ z)) q
  · by_cases hji : j = i
    · subst hji
      have e1 := lk_st_same q
      subst e1
      exact ⟨p, vs, ds, List.getElem?_set_self (nlt q), rfl, hH, hF, hl⟩
    · rw [lk_st_ne hji] at q
      rw [List.getElem?_set_ne (Ne.symm hji)]
      exact hE.ow j e ((List.mem_cons.mp hj).elim (fun z => absurd z hji) id) q
  · by_cases hji : j = i
    · by_cases hki : k = i
      · rw [hji, hki]
      · exfalso
        subst hji
        rw [lk_st_ne hki] at q2
        rw [List.getElem?_set_ne (Ne.symm hki)] at q4
        rw [List.getElem?_set_self (nlt q1)] at q3
        cases q3
        exact hn k e' ((List.mem_cons.mp hk).elim (fun z => absurd z hki) id) q2 q4
    · by_cases hki : k = i
      · exfalso
        subst hki
        rw [lk_st_ne hji] at q1
        rw [List.getElem?_set_ne (Ne.symm hji)] at q3
        rw [List.getElem?_set_self (nlt q2)] at q4
        cases q4
        exact hn j e ((List.mem_cons.mp hj).elim (fun z => absurd z hji) id) q1 q3
      · rw [lk_st_ne hji] at q1
        rw [lk_st_ne hki] at q2
        rw [List.getElem?_set_ne (Ne.symm hji)] at q3
        rw [List.getElem?_set_ne (Ne.symm hki)] at q4
        exact hE.ap j k e e' p' ((List.mem_cons.mp hj).elim (fun z => absurd z hji) id) ((List.mem_cons.mp hk).elim (fun z => absurd z hki) id) q1 q2 q3 q4
  · by_cases hji : j = i
    · subst hji
      rw [List.getElem?_set_self (nlt q1)] at q2
      cases q2
      exact h0
    · rw [lk_st_ne hji] at q1
      rw [List.getElem?_set_ne (Ne.symm hji)] at q2
      exact h.nw j e p' ((List.mem_cons.mp hj).elim (fun z => absurd z hji) id) q1 q2
/-- a list just made, known to nobody, becomes one's own -/
theorem Sn.own {i : Nat} {p : Addr} {ds : List D} {vs : List V} (h : Sn K C O F0 H0 F H σ ρ) (hi : i ∉ O) (hH : H p = none) (hl : RpL K C F ds vs) :
    Sn K C (i :: O) F0 H0 F (upd H p (.lst vs)) (σ.set i (some (.ref p))) (st ρ i (.lst ds)) := by
  refine (h.step (Stp.own h.en.fh hH)).adopt hi upd_same (none_of_same h.en.fh hH) (h.sp.hh.free hH) (fun j d hj q1 q2 => ?_) hl
  obtain ⟨p', _, _, g1, _, g3, _, _⟩ := h.en.ow j d hj q1
  rw [g1] at q2
  cases q2
  rw [hH] at g3
  cases g3
theorem Sn.mut {i : Nat} {ds ds' : List D} {vs' : List V} {p : Addr} (h : Sn K C O F0 H0 F H σ ρ) (hi : i ∈ O) (he : lk ρ i = some (.lst ds)) (hp : σ[i]? = some (some (.ref p))) (hl : RpL K C F ds' vs') :
    Sn K C O F0 H0 F (upd H p (.lst vs')) σ (st ρ i (.lst ds')) := by
  obtain ⟨p', vs, ds2, g1, g2, g3, g4, g5⟩ := h.en.ow i _ hi he
  rw [g1] at hp
  cases hp
  have h0 : H0 p = none := h.nw i _ p hi he g1
  refine ⟨h.en.mut hi he g1 g3 g4 hl, ⟨h.sp.ff, fun a o q => ?_, fun a o q => ?_, h.sp.old⟩, fun j e p' hj q1 q2 => ?_⟩
  · rw [upd_ne (ne_of_none q h0)]
    exact h.sp.hh a o q
  · rw [upd_ne (ne_of_none q g4)]
    exact h.en.fh a o q
  · by_cases hji : j = i
    · subst hji
      rw [g1] at q2
      cases q2
      exact h0
    · rw [lk_st_ne hji] at q1
      exact h.nw j e p' hj q1 q2
theorem Sn.freeze {i : Nat} (h : Sn K C O F0 H0 F H σ ρ) (hO : ∀ j, j ∈ O' ↔ j ∈ O ∧ j ≠ i) : ∃ F', Same F F' ∧ Sn K C O' F0 H0 F' H σ ρ := by
  obtain ⟨F', sm, E, ch⟩ := h.en.freeze hO
  refine ⟨F', sm, E, ⟨h.sp.ff.trans sm, h.sp.hh, E.fh, fun a o q => ?_⟩, fun j d p hj q1 q2 => h.nw j d p ((hO j).mp hj).1 q1 q2⟩
  by_cases hne : F' a = F a
  · rw [hne]
    exact h.sp.old a o q
  · obtain ⟨hi, d, e1, e2⟩ := ch a hne
    rw [h.nw i d a hi e1 e2] at q
    cases q
end
def dSeq (f g : DS) : DS := fun ρ => (f ρ).bind fun r => match r with
  | .nx ρ' => g ρ'
  | .rt d => some (.rt d)
def dNx : DS := fun ρ => some (.nx ρ)
def dRet (f : DF) : DS := fun ρ => (f ρ).bind fun d => some (.rt d)
def dSet (i : Nat) (f : DF) : DS := fun ρ => (f ρ).bind fun d => some (.nx (st ρ i d))
def dIfS (t : DB) (f g : DS) : DS := fun ρ => (t ρ).bind fun b => if b = true then f ρ else g ρ
def dAsg (g : DG) (f : DF) : DS := fun ρ => (f ρ).bind fun d => (g d ρ).bind fun ρ' => some (.nx ρ')
def forL (g : DG) (b : DS) : List D → Rho → Option R
  | [], ρ => some (.nx ρ)
  | d :: ds, ρ => (g d ρ).bind fun ρ1 => (b ρ1).bind fun r => match r with
    | .nx ρ2 => forL g b ds ρ2
    | .rt x => some (.rt x)
def dFor (it : DFs) (g : DG) (b : DS) : DS := fun ρ => (it ρ).bind fun ds => forL g b ds ρ
def whileN (t : DB) (b : DS) : Nat → Rho → Option R
  | 0, _ => none
  | n + 1, ρ => (t ρ).bind fun c => if c = true then (b ρ).bind fun r => match r with
    | .nx ρ' => whileN t b n ρ'
    | .rt d => some (.rt d) else some (.nx ρ)
def FUEL : Nat := 1000000000000000000000000000000
def dWhile (t : DB) (b : DS) : DS := fun ρ => whileN t b FUEL ρ
def dPar (i j : Nat) (f g : DF) : DS := fun ρ => (f ρ).bind fun x => (g ρ).bind fun y => some (.nx (st (st ρ i x) j y))
def asI : D → Option Int
  | .int i => some i
  | _ => none
def dAug (i : Nat) (f : DF) : DS := fun ρ => (lk ρ i).bind fun x => (asI x).bind fun a => (f ρ).bind fun y => (asI y).bind fun b => some (.nx (st ρ i (.int (a + b))))
def asL : D → Option (List D)
  | .lst xs => some xs
  | _ => none
def dApp (i : Nat) (f : DF) : DS := fun ρ => (f ρ).bind fun d => (lk ρ i).bind fun x => (asL x).bind fun ds => if ds.length < 16777216 then some (.nx (st ρ i (.lst (ds ++ [d])))) else none
def dSetIx (i : Nat) (k f : DF) : DS := fun ρ => (f ρ).bind fun d => (k ρ).bind fun j => (asI j).bind fun n => (lk ρ i).bind fun x => (asL x).bind fun ds => (ixNat ds.length n).bind fun m => some (.nx (st ρ i (.lst (ds.set m d))))
theorem asI_some {d : D} {b : Int} (h : asI d = some b) : d = .int b := by
  cases d <;> first | (cases h; rfl) | cases h
theorem asL_some {d : D} {b : List D} (h : asL d = some b) : d = .lst b := by
  cases d <;> first | (cases h; rfl) | cases h
section
variable {X : Cx} {C : Addr} {O O' O1 : List Nat} {s : Stmt} {ss : List Stmt} {f g : DS} {e a b c : Expr} {fe ge : DF} {t : DB} {pos : Pos}
theorem dss_nil : DSs X C O O [] dNx := PSsw pss_nil fun D σ H ⟨F0, H0, F, ρ, r, S, hf, k⟩ => by
  cases hf
  exact k σ F H S (Same.refl _)
theorem dss_cons (h1 : DSt X C O O1 s f) (h2 : DSs X C O1 O' ss g) : DSs X C O O' (s :: ss) (dSeq f g) := PSsw (pss_cons h1 h2) fun D σ H ⟨F0, H0, F, ρ, r, S, hf, k⟩ => by
  obtain ⟨r1, e1, e2⟩ := bind_some hf
  refine ⟨F0, H0, F, ρ, r1, S, e1, ?_⟩
  cases r1 with
  | nx ρ1 => exact fun σ1 F1 H1 S1 sm => ⟨F0, H0, F1, ρ1, r, S1, e2, k.mono sm⟩
  | rt d =>
    cases e2
    exact k
theorem dss_one (h1 : DSt X C O O' s f) : DSs X C O O' [s] f := pss_one h1
/-- ghosts: a list of one's own is frozen ahead of a statement, of a block -/
theorem ds_frz (i : Nat) (h : DSt X C O1 O' s f) (hO : ∀ j, j ∈ O1 ↔ j ∈ O ∧ j ≠ i := by intro j; simp only [List.mem_cons, List.not_mem_nil, or_false]; constructor <;> (intro h; first | omega | exact h.elim)) : DSt X C O O' s f := PSw h fun D σ H ⟨F0, H0, F, ρ, r, S, hf, k⟩ => by
  obtain ⟨F', sm, S'⟩ := S.freeze hO
  exact ⟨F0, H0, F', ρ, r, S', hf, k.mono sm⟩
/-- .. behind a block -/
theorem dss_thaw (i : Nat) (h : DSs X C O O1 ss f) (hO : ∀ j, j ∈ O' ↔ j ∈ O1 ∧ j ≠ i := by intro j; simp only [List.mem_cons, List.not_mem_nil, or_false]; constructor <;> (intro h; first | omega | exact h.elim)) : DSs X C O O' ss f := PSsw h fun D σ H ⟨F0, H0, F, ρ, r, S, hf, k⟩ => by
  refine ⟨F0, H0, F, ρ, r, S, hf, ?_⟩
  cases r with
  | nx ρ' =>
    intro σ' F' H' S' sm
    obtain ⟨F2, sm2, S2⟩ := S'.freeze hO
    exact k σ' F2 H' S2 (sm.trans sm2)
  | rt d => exact k
theorem ds_ret (h : DE X C O e fe) : DSt X C O O (.Return (some e) pos) (dRet fe) := PSw (ps_ret h) fun D σ H ⟨F0, H0, F, ρ, r, S, hf, k⟩ => by
  obtain ⟨d, e1, e2⟩ := bind_some hf
  cases e2
  exact ⟨F, ρ, d, S.en, e1, fun v F1 H1 s1 r1 => k v F1 H1 (S.sp.trans s1) r1⟩
theorem ds_if (hc : DT X C O c t) (ha : DSs X C O O' ss f) {us : List Stmt} (hb : DSs X C O O' us g) : DSt X C O O' (.If c ss us pos) (dIfS t f g) := PSw (ps_if hc ha hb) fun D σ H ⟨F0, H0, F, ρ, r, S, hf, k⟩ => by
  obtain ⟨d, e1, e2⟩ := bind_some hf
  refine ⟨F, ρ, d, S.en, e1, fun F1 H1 s1 => ?_⟩
  cases d with
  | true =>
    rw [if_pos rfl] at e2 ⊢
    exact ⟨F0, H0, F1, ρ, r, S.step s1, e2, k.mono s1.ff⟩
  | false =>
    rw [if_neg Bool.false_ne_true] at e2 ⊢
    exact ⟨F0, H0, F1, ρ, r, S.step s1, e2, k.mono s1.ff⟩
theorem set_rd {K : PySem.W.Frag} {i : Nat} {Z : Ends} {σ : L2.St} {H : Hp} (hi : i ∉ O) (hw : tDS K C O O (dSet i fe) Z σ H) : tAsg (tD K C O fe) (gName i) Z σ H := by
  obtain ⟨F0, H0, F, ρ, r, S, hf, k⟩ := hw
  obtain ⟨d, e1, e2⟩ := bind_some hf
  cases e2
  exact ⟨F, ρ, d, S.en, e1, fun v F1 H1 s1 r1 => k _ F1 H1 ((S.step s1).set hi r1) s1.ff⟩
theorem ds_set (i : Nat) {x : Str} {pos' : Pos} (hN : X.N.Nodup) (he : DE X C O e fe) (hi : X.N[i]? = some x := by rfl) (hx : Loc X.env.scope x := by first | exact Or.inl rfl | exact Or.inr rfl) (hO : i ∉ O := by decide)
    (hs : swapsWith e (some (.Name x pos')) pos.line X.env = pure false := by rfl) (hf : X.fn x = true ∨ X.env.scope.names.lookup x = some .local := by first | exact .inl rfl | exact .inr rfl) :
    DSt X C O O (.Assign [.Name x pos'] e pos) (dSet i fe) := PSw (ps_set hN hi hx he hs hf) fun D σ H hw => set_rd hO hw
/-- any target -/
theorem ds_asg {tg : Expr} {ws : List Nat} {gg : DG} (he : DE X C O e fe) (hg : DTg X C O ws tg gg) (hs : swapsWithSole [tg] e pos.line X.env = pure false := by rfl) (hw : swappedStores [tg] e X.env = pure none := by rfl)
    (h1 : (assignEach [tg] X.env).map (·.2) = [assign tg X.env] := by rfl) : DSt X C O O (.Assign [tg] e pos) (dAsg gg fe) := PSw (ps_asg he hg hs hw h1) fun D σ H ⟨F0, H0, F, ρ, r, S, hf, k⟩ => by
  obtain ⟨d, e1, e2⟩ := bind_some hf
  obtain ⟨ρ', e3, e4⟩ := bind_some e2
  cases e4
  refine ⟨F, ρ, d, S.en, e1, fun v F1 H1 s1 r1 => ⟨F1, ρ, d, ρ', S.en.step s1, r1, e3, fun σ' E' bar kp => k σ' F1 H1 ((S.step s1).keep E' kp) s1.ff⟩⟩
theorem ds_par (i j : Nat) {x y : Str} {px py pt : Pos} {kt k2 : Nat} {pt2 : Pos} (hc : X.calm = true) (hN : X.N.Nodup) (ha : DE X C O a fe) (hb : DE X C O b ge) (hi : X.N[i]? = some x := by rfl) (hj : X.N[j]? = some y := by rfl) (hij : i ≠ j := by decide)
    (hx : X.env.scope.names.lookup x = some .local := by rfl) (hy : X.env.scope.names.lookup y = some .local := by rfl) (hO : i ∉ O := by decide) (hO2 : j ∉ O := by decide)
    (hw : swappedStores [.Tuple [.Name x px, .Name y py] kt pt] (.Tuple [a, b] k2 pt2) X.env = pure (some [x, y]) := by rfl)
    (hs : swapsWithSole [.Tuple [.Name x px, .Name y py] kt pt] (.Tuple [a, b] k2 pt2) pos.line X.env = pure false := by rfl)
    (h1 : starEach [a, b] X.env = (false, eval a X.env) :: starEach [b] X.env := by rfl) (h2 : starEach [b] X.env = (false, eval b X.env) :: starEach [] X.env := by rfl) :
    DSt X C O O (.Assign [.Tuple [.Name x px, .Name y py] kt pt] (.Tuple [a, b] k2 pt2) pos) (dPar i j fe ge) := PSw (ps_par hc hN hi hj hij hx hy (pa_cons ha (pa_cons hb pa_nil h2) h1) hw hs) fun D σ H ⟨F0, H0, F, ρ, r, S, hf, k⟩ => by
  obtain ⟨d, e1, e2⟩ := bind_some hf
  obtain ⟨d', e3, e4⟩ := bind_some e2
  cases e4
  exact ⟨F, ρ, d, S.en, e1, fun v F1 H1 s1 r1 => ⟨F1, ρ, d', S.en.step s1, e3, fun v2 F2 H2 s2 r2 => ⟨v, v2, rfl, k _ F2 H2 (((S.step (s1.trans s2)).set hO (Rp.mono s2.ff _ _ r1)).set hO2 r2) (s1.ff.trans s2.ff)⟩⟩⟩
theorem ds_while {body : List Stmt} (hp : PassesOwn (model X.prog X.w) X.A X.env X.xe) (hc : DT X C O c t) (hb : DSs X C O O body f) : DSt X C O O (.While c body [] pos) (dWhile t f) := PSw (ps_while hp hc hb) fun D σ H ⟨F0, H0, F, ρ, r, S, hf, k⟩ => by
  refine ⟨fun m σ H => ∃ F1 ρ, Sn X.K C O F0 H0 F1 H σ ρ ∧ Same F F1 ∧ whileN t f m ρ = some r, ⟨FUEL, F, ρ, S, Same.refl _, hf⟩, fun m σ1 H1 ⟨F1, ρ1, S1, sm, hw⟩ => ?_⟩
  cases m with
  | zero => cases hw
  | succ m =>
    obtain ⟨c', e1, e2⟩ := bind_some hw
    refine ⟨F1, ρ1, c', S1.en, e1, fun F2 H2 s2 => ?_⟩
    cases c' with
    | true =>
      dsimp only
      rw [if_pos rfl] at e2 ⊢
      obtain ⟨r1, e3, e4⟩ := bind_some e2
      refine ⟨fun σ H => ∃ F1 ρ, Sn X.K C O F0 H0 F1 H σ ρ ∧ Same F F1 ∧ whileN t f m ρ = some r, fun σ' H' q => ⟨m, Nat.lt_succ_self _, q⟩, F0, H0, F2, ρ1, r1, S1.step s2, e3, ?_⟩
      cases r1 with
      | nx ρ2 => exact fun σ' F' H' S' sm' => ⟨F', ρ2, S', sm.trans (s2.ff.trans sm'), e4⟩
      | rt d =>
        cases e4
        exact k
    | false =>
      dsimp only
      rw [if_neg Bool.false_ne_true] at e2 ⊢
      cases e2
      exact k σ1 F2 H2 (S1.step s2) (sm.trans s2.ff)
theorem ds_for {tg iter : Expr} {body : List Stmt} {it : DFs} {ws : List Nat} {gg : DG} (hp : PassesOwn (model X.prog X.w) X.A X.env X.xe) (hc : X.calm = true) (hi : DI X C O tg iter it) (hg : DTg X C O ws tg gg) (hb : DSs X C O O body f)
    (hs : ∀ x, foldedSetIterable iter X.env x = pure x := by intro _; rfl) : DSt X C O O (.For tg iter body [] pos) (dFor it gg f) := PSw (ps_for hp hc hi hg hb hs) fun D σ H ⟨F0, H0, F, ρ, r, S, hf, k⟩ => by
  obtain ⟨ds, e1, e2⟩ := bind_some hf
  refine ⟨F, ρ, ds, S.en, e1, fun J F1 H1 s1 jd => ?_⟩
  refine ⟨fun i m σ H => m = ds.length - i ∧ i ≤ ds.length ∧ ∃ F2 ρ, Sn X.K C O F0 H0 F2 H σ ρ ∧ Same F1 F2 ∧ forL gg f (ds.drop i) ρ = some r, ⟨ds.length, rfl, Nat.zero_le _, F1, ρ, S.step s1, Same.refl _, e2⟩, fun i m σ2 H2 ⟨em, hi, F2, ρ2, S2, sm, hw⟩ => ?_⟩
  subst em
  by_cases hlt : i < ds.length
  · right
    obtain ⟨_, jg⟩ := jd i F2 H2 sm S2.en.fh
    obtain ⟨go, yl⟩ := jg ds[i] (List.getElem?_eq_getElem hlt)
    rw [List.drop_eq_getElem_cons hlt] at hw
    unfold forL at hw
    obtain ⟨ρ3, c1, c2⟩ := bind_some hw
    obtain ⟨r3, c3, c4⟩ := bind_some c2
    refine ⟨go, fun σ H => (ds.length - (i + 1)) = ds.length - (i + 1) ∧ i + 1 ≤ ds.length ∧ ∃ F2 ρ, Sn X.K C O F0 H0 F2 H σ ρ ∧ Same F1 F2 ∧ forL gg f (ds.drop (i + 1)) ρ = some r, fun σ' H' q => ⟨_, by omega, q⟩, fun x H3 y => ?_⟩
    obtain ⟨F3, s3, r3'⟩ := yl x H3 y
    refine ⟨F3, ρ2, ds[i], ρ3, S2.en.step s3, r3', c1, fun σ4 E4 bar kp => ⟨F0, H0, F3, ρ3, r3, (S2.step s3).keep E4 kp, c3, ?_⟩⟩
    cases r3 with
    | nx ρ4 => exact fun σ' F' H' S' sm' => ⟨rfl, hlt, F', ρ4, S', sm.trans (s3.ff.trans sm'), c4⟩
    | rt d =>
      cases c4
      exact k
  · left
    have ei : i = ds.length := by omega
    subst ei
    obtain ⟨js, _⟩ := jd ds.length F2 H2 sm S2.en.fh
    rw [List.drop_length] at hw
    cases hw
    exact ⟨js rfl, k σ2 F2 H2 S2 (s1.ff.trans sm)⟩
end
end DL
namespace DL
open PySem PySem.Spec PyProof.Rows L2
/-- a new list that nobody knows yet -/
def tDN (K : PySem.W.Frag) (C : Addr) (O : List Nat) (f : DFs) : TE := fun σ H Q => ∃ F ρ ds, En K C O F H σ ρ ∧ f ρ = some ds ∧ ∀ p vs F' H1, Stp F H F' H1 → H1 p = none → RpL K C F' ds vs → Q (.ref p) (upd H1 p (.lst vs))
abbrev DN (X : Cx) (C : Addr) (O : List Nat) (e : Expr) (f : DFs) : Prop := PE X e (tDN X.K C O f)
def nLst (f : DFs) : DFs := fun ρ => (f ρ).bind fun ds => if ds.length ≤ 100000 then some ds else none
def nRep (f g : DF) : DFs := fun ρ => (f ρ).bind fun x => (asL x).bind fun ds => (g ρ).bind fun y => (asI y).bind fun k => if k ≤ 16777216 ∧ -16777216 ≤ k ∧ ds.length * k.toNat ≤ 16777216 then some (List.replicate k.toNat ds).flatten else none
def nOf (f : DF) : DFs := fun ρ => (f ρ).bind asSeq
def dSetN (i : Nat) (f : DFs) : DS := fun ρ => (f ρ).bind fun ds => some (.nx (st ρ i (.lst ds)))
def dParN1 (i j : Nat) (f : DFs) (g : DF) : DS := fun ρ => (f ρ).bind fun ds => (g ρ).bind fun y => some (.nx (st (st ρ i (.lst ds)) j y))
def dParNN (i j : Nat) (f g : DFs) : DS := fun ρ => (f ρ).bind fun ds => (g ρ).bind fun es => some (.nx (st (st ρ i (.lst ds)) j (.lst es)))
section
variable {X : Cx} {C : Addr} {O O' O1 : List Nat} {s : Stmt} {ss : List Stmt} {f g : DS} {e a b c : Expr} {es : List Expr} {fe ge : DF} {fs gs : DFs} {t : DB} {pos : Pos}
theorem dn_lst (ha : DA X C O es fs) : DN X C O (.List es pos) (nLst fs) := PEw (pe_lst ha) fun σ H Q ⟨F, ρ, t, E, hf, k⟩ => by
  obtain ⟨ds, h1, hf1⟩ := bind_some hf
  split at hf1
  · rename_i hz
    cases hf1
    exact ⟨F, ρ, _, E, h1, fun vs F1 H1 s1 r1 => ⟨by rw [← r1.len]; exact sz100 hz, fun p hp => k p vs F1 H1 s1 hp r1⟩⟩
  · cases hf1
theorem dn_of {p : Pos} (hg : Gl X "list") (hm : X.mg "list" = none) (ha : DE X C O e fe) (hs : starEach [e] X.env = (false, eval e X.env) :: starEach [] X.env := by rfl) (hpl : (backTo pos (starEach [] X.env)).any (·.1) = false := by rfl) :
    DN X C O (.Call (.Name "list" p) [e] [] pos) (nOf fe) := PEw (pe_callTy call_list_of hg hm PyProof.Rows.boot_list (pa_cons ha pa_nil hs) (by decide) (by decide) hs hpl) fun σ H Q ⟨F, ρ, t, E, hf, k⟩ => by
  obtain ⟨x, h1, hf1⟩ := bind_some hf
  refine ⟨F, ρ, x, E, h1, fun v F1 H1 s1 r1 => ?_⟩
  cases x <;> first | (cases hf1; done) | skip
  · cases hf1
    obtain ⟨p, vs, rfl, hp, hl⟩ := r1
    exact ⟨p, vs, rfl, .inr (SqT.of (s1.fh _ _ hp)), fun q hq => k q vs F1 H1 s1 hq hl⟩
  · cases hf1
    obtain ⟨p, vs, rfl, hp, hl⟩ := r1
    exact ⟨p, vs, rfl, .inl (SqL.of (s1.fh _ _ hp)), fun q hq => k q vs F1 H1 s1 hq hl⟩
theorem ds_setN (i : Nat) {x : Str} {pos' : Pos} (hN : X.N.Nodup) (he : DN X C O e fs) (hi : X.N[i]? = some x := by rfl) (hx : Loc X.env.scope x := by first | exact Or.inl rfl | exact Or.inr rfl) (hO : i ∉ O := by decide)
    (hs : swapsWith e (some (.Name x pos')) pos.line X.env = pure false := by rfl) (hf : X.fn x = true ∨ X.env.scope.names.lookup x = some .local := by first | exact .inl rfl | exact .inr rfl) :
    DSt X C O (i :: O) (.Assign [.Name x pos'] e pos) (dSetN i fs) := PSw (ps_set hN hi hx he hs hf) fun Z σ H ⟨F0, H0, F, ρ, r, S, hf, k⟩ => by
  obtain ⟨ds, e1, e2⟩ := bind_some hf
  cases e2
  exact ⟨F, ρ, ds, S.en, e1, fun p vs F1 H1 s1 hp r1 => k _ F1 _ ((S.step s1).own hO hp r1) s1.ff⟩
/-- x.append(e) -/
theorem ds_app (i : Nat) {x : Str} {p1 p2 p3 : Pos} (he : DE X C O e fe) (hi : X.N[i]? = some x := by rfl) (hv : Vis X.env.scope x := by first | exact Or.inl rfl | exact Or.inr (Or.inl rfl) | exact Or.inr (Or.inr rfl)) (hO : i ∈ O := by decide)
    (hd : (x == ("__debug__" : Str)) = false := by decide) (hcd : (x == ("__classdict__" : Str)) = false := by decide)
    (hbase : attributeBase (.Name x p1) "append" X.env (eval (.Name x p1) X.env) = eval (.Name x p1) X.env := by rfl)
    (hfew : ((backTo p3 (starEach [e] X.env)).all (fun x => !x.1) && (backToKw p3 (keywordEach [] X.env)).all (fun x => x.1.isSome)
      && decide ([e].length + ([] : List Keyword).length + (if ([] : List Keyword).isEmpty then 0 else 1) < 30)) = true := by rfl)
    (hline : (p2.endLine == p3.line) = true := by rfl) (hs : starEach [e] X.env = (false, eval e X.env) :: starEach [] X.env := by rfl) (hplain : (backTo p3 (starEach [] X.env)).any (·.1) = false := by rfl)
    (hsw : swapsWith (.Call (.Attribute (.Name x p1) "append" p2) [e] [] p3) none pos.line X.env = pure false := by rfl) :
    DSt X C O O (.Expr (.Call (.Attribute (.Name x p1) "append" p2) [e] [] p3) pos) (dApp i fe) :=
  PSw (ps_expr (pe_bm PySem.F.plainAttrs_list PySem.F.slot_list_append PySem.F.type_list_append mt_append (pe_var hi hv hd hcd) (pa_cons he pa_nil hs) hbase hfew hline hs hplain) hsw) fun Z σ H ⟨F0, H0, F, ρ, r, S, hf, k⟩ => by
    obtain ⟨d, e1, e2⟩ := bind_some hf
    obtain ⟨y, e3, e4⟩ := bind_some e2
    obtain ⟨ds, e5, e6⟩ := bind_some e4
    obtain rfl := asL_some e5
    split at e6
    · rename_i hz
      cases e6
      obtain ⟨p, vs, ds2, g1, g2, g3, g4, g5⟩ := S.en.ow i _ hO e3
      cases g2
      refine ⟨.ref p, g1, .inl ⟨rfl, vs, SqL.of g3⟩, F, ρ, d, S.en, e1, fun v F1 H1 s1 r1 => ?_⟩
      have S1 := S.step s1
      have hl : RpL X.K C F1 (ds ++ [d]) (vs ++ [v]) := RpL.append (RpL.mono s1.ff _ _ g5) (RpL.one r1)
      exact ⟨p, vs, v, rfl, rfl, s1.hh _ _ g3, Nat.lt_of_lt_of_le (by rw [← g5.len]; exact hz) (szl_ok (Nat.le_refl _)), k σ F1 _ (S1.mut hO e3 g1 hl) s1.ff⟩
    · cases e6
/-- x[k] = e -/
theorem ds_setIx (i : Nat) {x : Str} {p1 p2 : Pos} (he : DE X C O e fe) (hk : DE X C O a ge) (hi : X.N[i]? = some x := by rfl) (hv : Vis X.env.scope x := by first | exact Or.inl rfl | exact Or.inr (Or.inl rfl) | exact Or.inr (Or.inr rfl)) (hO : i ∈ O := by decide)
    (hd : (x == ("__debug__" : Str)) = false := by decide) (hcd : (x == ("__classdict__" : Str)) = false := by decide)
    (ha : ∀ v, assign (.Subscript (.Name x p1) a p2) X.env v = (do
      let ov ← holding [v] (eval (.Name x p1) X.env)
      let iv ← holding [v, ov] (eval a X.env)
      standAt p2
      holding [v, ov, iv] (setItem ov iv v)
      release [v, ov, iv] []) := by intro _; rfl)
    (hs : swapsWithSole [.Subscript (.Name x p1) a p2] e pos.line X.env = pure false := by rfl) (hw : swappedStores [.Subscript (.Name x p1) a p2] e X.env = pure none := by rfl)
    (h1 : (assignEach [.Subscript (.Name x p1) a p2] X.env).map (·.2) = [assign (.Subscript (.Name x p1) a p2) X.env] := by rfl) :
    DSt X C O O (.Assign [.Subscript (.Name x p1) a p2] e pos) (dSetIx i ge fe) :=
  PSw (ps_asg he (pg_sub (pe_var hi hv hd hcd) hk set_list ha) hs hw h1) fun Z σ H ⟨F0, H0, F, ρ, r, S, hf, k⟩ => by
    obtain ⟨d, e1, e2⟩ := bind_some hf
    obtain ⟨j, e3, e4⟩ := bind_some e2
    obtain ⟨n, e5, e6⟩ := bind_some e4
    obtain ⟨y, e7, e8⟩ := bind_some e6
    obtain ⟨ds, e9, e10⟩ := bind_some e8
    obtain ⟨m, e11, e12⟩ := bind_some e10
    obtain rfl := asI_some e5
    obtain rfl := asL_some e9
    cases e12
    obtain ⟨p, vs, ds2, g1, g2, g3, g4, g5⟩ := S.en.ow i _ hO e7
    cases g2
    refine ⟨F, ρ, d, S.en, e1, fun v F1 H1 s1 r1 => ⟨.ref p, g1, F1, ρ, _, S.en.step s1, e3, fun u F2 H2 s2 r2 => ?_⟩⟩
    have s12 := s1.trans s2
    have hl : RpL X.K C F2 (ds.set m d) (vs.set m v) := RpL.set m (RpL.mono s12.ff _ _ g5) (Rp.mono s2.ff _ _ r1)
    refine ⟨p, vs, n, m, rfl, r2, s12.hh _ _ g3, ?_, k σ F2 _ ((S.step s12).mut hO e7 g1 hl) s12.ff⟩
    rw [← g5.len, ← ixNat_eq]
    exact e11
/-- x[k], len(x) of a list of one's own -/
theorem de_ownIx (i : Nat) {x : Str} {p1 : Pos} (hk : DE X C O a ge) (hi : X.N[i]? = some x := by rfl) (hv : Vis X.env.scope x := by first | exact Or.inl rfl | exact Or.inr (Or.inl rfl) | exact Or.inr (Or.inr rfl)) (hO : i ∈ O := by decide)
    (hd : (x == ("__debug__" : Str)) = false := by decide) (hcd : (x == ("__classdict__" : Str)) = false := by decide) (hs : PlainIx a := by exact fun _ _ => rfl) : DE X C O (.Subscript (.Name x p1) a pos) (d2 opIx (dv i) ge) :=
  PEw (pe_ix ix_list (pe_var hi hv hd hcd) hk hs) fun σ H Q ⟨F, ρ, d, E, hf, k⟩ => by
    obtain ⟨y, e1, e2⟩ := bind_some hf
    obtain ⟨j, e3, e4⟩ := bind_some e2
    obtain ⟨p, vs, ds, g1, g2, g3, g4, g5⟩ := E.ow i _ hO e1
    subst g2
    refine ⟨.ref p, g1, F, ρ, j, E, e3, fun v F1 H1 s1 r1 => ?_⟩
    cases j <;> first | (cases e4; done) | skip
    obtain ⟨m, e5, e6⟩ := bind_some e4
    obtain ⟨u, h1, h2⟩ := RpL.get g5 e6
    refine ⟨p, vs, _, u, rfl, r1, SqL.of (s1.hh _ _ g3), ?_, k _ F1 H1 s1 (Rp.mono s1.ff _ _ h2)⟩
    unfold atI
    rw [← g5.len, ← ixNat_eq, e5]
    exact h1
/-- a, b = e1, e2: lists of one's own on the right -/
theorem par_rd1 {K : PySem.W.Frag} {F0 H0 F H F1 H1 F2 H2 : Hp} {σ : L2.St} {ρ : Rho} {i j : Nat} {p : Addr} {ds : List D} {vs : List V} {d : D} {v : V} (S : Sn K C O F0 H0 F H σ ρ) (s1 : Stp F H F1 H1) (hp : H1 p = none) (r1 : RpL K C F1 ds vs) (s2 : Stp F1 (upd H1 p (.lst vs)) F2 H2)
    (r2 : Rp K C F2 d v) (hi : i ∉ O) (hj : j ∉ O) (hij : i ≠ j) : Sn K C (i :: O) F0 H0 F2 H2 ((σ.set i (some (.ref p))).set j (some v)) (st (st ρ i (.lst ds)) j d) := by
  have S1 := (S.step s1).own (i := i) hi hp r1
  refine (S1.step s2).set (fun z => ?_) r2
  rcases List.mem_cons.mp z with z | z
  · exact hij z.symm
  · exact hj z
theorem ds_parN1 (i j : Nat) {x y : Str} {px py pt : Pos} {kt k2 : Nat} {pt2 : Pos} (hc : X.calm = true) (hN : X.N.Nodup) (ha : DN X C O a fs) (hb : DE X C O b ge) (hi : X.N[i]? = some x := by rfl) (hj : X.N[j]? = some y := by rfl) (hij : i ≠ j := by decide)
    (hx : X.env.scope.names.lookup x = some .local := by rfl) (hy : X.env.scope.names.lookup y = some .local := by rfl) (hO : i ∉ O := by decide) (hO2 : j ∉ O := by decide)
    (hw : swappedStores [.Tuple [.Name x px, .Name y py] kt pt] (.Tuple [a, b] k2 pt2) X.env = pure (some [x, y]) := by rfl)
    (hs : swapsWithSole [.Tuple [.Name x px, .Name y py] kt pt] (.Tuple [a, b] k2 pt2) pos.line X.env = pure false := by rfl)
    (h1 : starEach [a, b] X.env = (false, eval a X.env) :: starEach [b] X.env := by rfl) (h2 : starEach [b] X.env = (false, eval b X.env) :: starEach [] X.env := by rfl) :
    DSt X C O (i :: O) (.Assign [.Tuple [.Name x px, .Name y py] kt pt] (.Tuple [a, b] k2 pt2) pos) (dParN1 i j fs ge) := PSw (ps_par hc hN hi hj hij hx hy (pa_cons ha (pa_cons hb pa_nil h2) h1) hw hs) fun Z σ H ⟨F0, H0, F, ρ, r, S, hf, k⟩ => by
  obtain ⟨ds, e1, e2⟩ := bind_some hf
  obtain ⟨d', e3, e4⟩ := bind_some e2
  cases e4
  exact ⟨F, ρ, ds, S.en, e1, fun p vs F1 H1 s1 hp r1 => ⟨F1, ρ, d', S.en.step (s1.trans (Stp.own s1.fh hp)), e3, fun v2 F2 H2 s2 r2 => ⟨.ref p, v2, rfl, k _ F2 H2 (par_rd1 S s1 hp r1 s2 r2 hO hO2 hij) (s1.ff.trans s2.ff)⟩⟩⟩
/-- y = [..] on one line -/
theorem ds_setLc (i : Nat) {y : Str} {py : Pos} {elt tg iter : Expr} {ifs : List Expr} {scope : Scope} {own : List (Str × Nat)} {pos spos : Pos} {it : DFs} {gg : DG} {tt : DB} {ee : DF} {ws : List Nat} (hc : X.calm = true) (hN : X.N.Nodup)
    (hi : DI X C O tg iter it) (ok : BlkOk X.N X.env.scope scope own)
    (hg : ∀ (s : Shared) (H : Hp) (D : Addr) (cl : List (Str × Addr)) (fp : List Addr), DTg (X.blk s H scope (compEnvC scope cl D X.env) fp) C O ws tg gg) (ht : ∀ (s : Shared) (H : Hp) (D : Addr) (cl : List (Str × Addr)) (fp : List Addr), DTs (X.blk s H scope (compEnvC scope cl D X.env) fp) C O ifs tt)
    (he : ∀ (s : Shared) (H : Hp) (D : Addr) (cl : List (Str × Addr)) (fp : List Addr), DE (X.blk s H scope (compEnvC scope cl D X.env) fp) C O elt ee)
    (hy : X.N[i]? = some y := by rfl) (hyl : X.env.scope.names.lookup y = some .local := by rfl)
    (hsw : swapsWith (.ListComp elt [⟨tg, iter, ifs, 0⟩] scope pos) (some (.Name y py)) spos.line X.env = pure true := by exact sw_true rfl rfl rfl (by decide +kernel)) (hO : i ∉ O := by decide)
    (hv : ∀ i ∈ ws, i ∈ own.map (·.2) := by decide) (hs : ∀ x, foldedSetIterable iter X.env x = pure x := by intro _; rfl) :
    DSt X C O O (.Assign [.Name y py] (.ListComp elt [⟨tg, iter, ifs, 0⟩] scope pos) spos) (dSet i (dComp it gg tt ee (own.map (·.2)))) := PSw (ps_setLc hc hN hy hyl hsw hi ok hg ht he hs) fun Z σ H hw => by
  obtain ⟨F0, H0, F, ρ, r, S, hf, k⟩ := hw
  obtain ⟨d, e1, e2⟩ := bind_some hf
  cases e2
  exact comp_rd hv ⟨F, ρ, d, S.en, e1, fun v F1 H1 s1 r1 => k _ F1 H1 ((S.step s1).set hO r1) s1.ff⟩
end
def runD (n a : Nat) (f : DS) : List D → Option D := fun ds => if ds.length = a then (f (ds.map some ++ List.replicate (n - a) none)).bind fun r => match r with
  | .rt d => some d
  | .nx _ => some .non else none
theorem lk_app : ∀ {ds : List D} {r : Nat} {i : Nat} {d : D}, lk (ds.map some ++ List.replicate r none) i = some d → ds[i]? = some d
  | [], r, i, d, h => by
    exfalso
    have z : ∀ (r i : Nat), lk (List.replicate r none) i = none := by
      intro r
      induction r with
      | zero => intro i; rfl
      | succ r ih =>
        intro i
        cases i with
        | zero => rfl
        | succ i => exact ih i
    have h' : lk (List.replicate r none) i = some d := h
    rw [z] at h'
    cases h'
  | x :: ds, r, 0, d, h => h
  | x :: ds, r, i + 1, d, h => by
    rw [List.getElem?_cons_succ]
    exact lk_app (ds := ds) h
theorem start_get : ∀ {vs : List V} {r : List (Option V)} {i : Nat} {v : V}, vs[i]? = some v → (vs.map some ++ r)[i]? = some (some v)
  | [], r, i, v, h => by simp at h
  | x :: vs, r, 0, v, h => by
    have e : x = v := by simpa using h
    subst e
    rfl
  | x :: vs, r, i + 1, v, h => by
    rw [List.getElem?_cons_succ] at h
    show ((some x :: (vs.map some ++ r)))[i + 1]? = _
    rw [List.getElem?_cons_succ]
    exact start_get h
section
variable {P : Program} {w : World} {K : PySem.W.Frag} {mg : Str → Option Value} {base : Heap} {C : Addr}
/-- THE RULE for a pure def -/
theorem fnD {x qual : Str} {st : Stmt} {f : Addr} {fd : FuncData} {N ps : List Str} {k : Nat} {O' : List Nat} {body : DS} (F : Fun K x qual st f fd) (S : FnScope N ps (defScope st)) (hl : ps.length ≤ N.length)
    (h : ∀ (cdv : Value) (A : Around) (outer : List Env) (s : Shared) (H : Hp) (E : XK), Room k (A.deeper (envOfC qual (defScope st) s.heap.objs.size f cdv)) → DSs ((cxOf CX0 P w K mg base N qual (defScope st) f cdv A outer s H E).nox) C [] O' (defBody st) body) :
    FnOk P w K mg base CX0 (k + 1) f fd ps (spD K C (runD N.length ps.length body)) := by
  have ln : ∀ vs H Q E, spD K C (runD N.length ps.length body) vs H Q E → vs.length = ps.length := fun vs H Q E ⟨F, ds, d, fh, r, hm, _⟩ => by
    unfold runD at hm
    split at hm
    · rename_i hz
      rw [← r.len]
      exact hz
    · cases hm
  refine F.ok S ln fun cdv A outer s H vs Q E hr hsp => ⟨_, h cdv A outer s H E hr, ?_⟩
  have lv := ln vs H Q E hsp
  obtain ⟨F1, ds, d, fh, r, hm, g⟩ := hsp
  unfold runD at hm
  split at hm
  · rename_i hz
    obtain ⟨r1, e1, e2⟩ := bind_some hm
    refine ⟨F1, H, F1, _, r1, ⟨⟨fh, ?_, fun i d hi q => ?_, fun i d hi _ => absurd hi (List.not_mem_nil), fun i j d e p hi _ _ _ _ _ => absurd hi (List.not_mem_nil)⟩, Stp.refl fh, fun i d p hi _ _ => absurd hi (List.not_mem_nil)⟩, e1, ?_⟩
    · unfold L2.start
      rw [List.length_append, List.length_append, List.length_map, List.length_map, List.length_replicate, List.length_replicate, lv, hz]
    · have q1 := lk_app q
      obtain ⟨v, h1, h2⟩ := RpL.get r q1
      exact ⟨v, start_get h1, h2⟩
    · cases r1 with
      | nx ρ' =>
        cases e2
        exact fun σ' F' H' S' _ => g .non F' H' S'.sp rfl
      | rt d' =>
        cases e2
        exact fun v F' H' s' r' => g v F' H' s' r'
  · cases hm
end
end DL
namespace DL
open PySem PySem.Spec PyProof.Rows L2
theorem bt_len : bootBuiltins "len" = some (.builtin "len") := by decide +kernel
theorem bt_all : bootBuiltins "all" = some (.builtin "all") := by decide +kernel
theorem bt_tuple : bootBuiltins "tuple" = some (.type "tuple") := by decide +kernel
theorem bt_list : bootBuiltins "list" = some (.type "list") := by decide +kernel
theorem bt_int : bootBuiltins "int" = some (.type "int") := by decide +kernel
theorem bt_bool : bootBuiltins "bool" = some (.type "bool") := by decide +kernel
def compL2 (g : DG) (it2 : DFs) (g2 : DG) (t : DB) (e : DF) (vs1 : List Nat) (ρ : Rho) : List D → Option (List D)
  | [] => some []
  | d :: ds => (g d ρ).bind fun ρ1 => (it2 ρ1).bind fun es => (compL g2 t e (wipeR ρ1 vs1) es).bind fun r => (compL2 g it2 g2 t e vs1 ρ ds).bind fun q => some (r ++ q)
def dComp2 (it : DFs) (g : DG) (it2 : DFs) (g2 : DG) (t : DB) (e : DF) (vs vs1 : List Nat) : DF := fun ρ => (it ρ).bind fun ds => (compL2 g it2 g2 t e vs1 (wipeR ρ vs) ds).bind lstOk
theorem En.mono0 {K : PySem.W.Frag} {C : Addr} {F F' H H' : Hp} {σ : L2.St} {ρ : Rho} (h : En K C [] F H σ ρ) (s : Same F F') (fh : Same F' H') : En K C [] F' H' σ ρ where
  fh := fh
  len := h.len
  pl := fun i d hi e => by
    obtain ⟨v, h1, h2⟩ := h.pl i d hi e
    exact ⟨v, h1, Rp.mono s d v h2⟩
  ow := fun i d hi => absurd hi (List.not_mem_nil)
  ap := fun i j d e p hi => absurd hi (List.not_mem_nil)
section
variable {X : Cx} {C : Addr}
def CW2 (K : PySem.W.Frag) (C : Addr) (F0 H0 : Hp) (Rst : Nat → Option (List D)) (n : Nat) (rs : List D) (Dl : Addr) (i m : Nat) (H : Hp) : Prop :=
  m = n - i ∧ i ≤ n ∧ ∃ F acc racc rest, Stp F0 H0 F H ∧ H Dl = some (.lst acc) ∧ F Dl = none ∧ RpL K C F racc acc ∧ Rst i = some rest ∧ rs = racc ++ rest
theorem comp2_rd {K : PySem.W.Frag} {it it2 : DFs} {g g2 : DG} {t : DB} {e : DF} {ws ws1 vs vs1 : List Nat} {σ : L2.St} {H : Hp} {Q : VK} (hs : ∀ i ∈ ws, i ∈ vs) (hs1 : ∀ i ∈ ws1, i ∈ vs1) (hw : tD K C [] (dComp2 it g it2 g2 t e vs vs1) σ H Q) :
    tLc2 (tDI K C [] it) (tDG K C [] ws g) (fun _ H Q => Q true H) (tDI K C [] it2) (tDG K C [] ws1 g2) (tDT K C [] t) (tD K C [] e) vs vs1 σ H Q := by
  obtain ⟨F, ρ, d, E, hf, k⟩ := hw
  obtain ⟨ds, h1, hf1⟩ := bind_some hf
  obtain ⟨rs, h2, hf2⟩ := bind_some hf1
  clear hf hf1
  unfold lstOk at hf2
  split at hf2
  · rename_i hz
    cases hf2
    refine ⟨F, ρ, ds, E, h1, fun J F1 H1 s1 jd Dl hD => ?_⟩
    have E1 : En K C [] F1 H1 (wipe σ vs) (wipeR ρ vs) := (E.step s1).wipe vs
    refine ⟨CW2 K C F1 H1 (fun i => compL2 g it2 g2 t e vs1 (wipeR ρ vs) (ds.drop i)) ds.length rs Dl, ⟨ds.length, rfl, Nat.zero_le _, F1, [], [], rs, Stp.own s1.fh hD, upd_same, none_of_same s1.fh hD, RpL.nil, h2, rfl⟩, fun i m H2 hW => ?_⟩
    obtain ⟨rfl, hi, F2, acc, racc, rest, s2, hH, hF, hR, hc, he⟩ := hW
    by_cases hlt : i < ds.length
    · right
      obtain ⟨_, jg⟩ := jd i F2 H2 s2.ff s2.fh
      obtain ⟨go, yl⟩ := jg ds[i] (List.getElem?_eq_getElem hlt)
      dsimp only at hc
      rw [List.drop_eq_getElem_cons hlt] at hc
      unfold compL2 at hc
      obtain ⟨ρ1, c1, hc1⟩ := bind_some hc
      obtain ⟨es, c2, hc2⟩ := bind_some hc1
      obtain ⟨rin, c3, hc3⟩ := bind_some hc2
      obtain ⟨rout, c4, hc4⟩ := bind_some hc3
      clear hc hc1 hc2 hc3
      cases hc4
      refine ⟨go, CW2 K C F1 H1 (fun i => compL2 g it2 g2 t e vs1 (wipeR ρ vs) (ds.drop i)) ds.length rs Dl (i + 1) (ds.length - (i + 1)), fun H' hN => ⟨_, by omega, hN⟩, fun x H3 y => ?_⟩
      obtain ⟨F3, s3, r3⟩ := yl x H3 y
      have s13 := s2.trans s3
      refine ⟨F3, wipeR ρ vs, ds[i], ρ1, E1.step s13, r3, c1, fun σ4 E4 bar _ => ⟨wipe_bar bar hs, ?_⟩⟩
      dsimp only
      rw [if_pos rfl]
      refine ⟨F3, ρ1, es, E4, c2, fun J1 F5 H5 s5 jd1 => ?_⟩
      have s15 := s13.trans s5
      have sD := s3.trans s5
      have E5 : En K C [] F5 H5 (wipe σ4 vs1) (wipeR ρ1 vs1) := (E4.step s5).wipe vs1
      have hlen0 : rs.length ≤ 16777216 := hz
      have e0 : rs = racc ++ (rin ++ rout) := he
      refine ⟨fun j m H => m = es.length - j ∧ j ≤ es.length ∧ ∃ F acc racc' rest, Stp F1 H1 F H ∧ Same F5 F ∧ H Dl = some (.lst acc) ∧ F Dl = none ∧ RpL K C F racc' acc ∧ compL g2 t e (wipeR ρ1 vs1) (es.drop j) = some rest ∧ rs = racc' ++ (rest ++ rout),
        ⟨es.length, rfl, Nat.zero_le _, F5, acc, racc, rin, s15, Same.refl _, sD.hh _ _ hH, (sD.old _ _ hH).trans hF, RpL.mono sD.ff _ _ hR, c3, e0⟩, fun j kk H6 hW => ?_⟩
      obtain ⟨rfl, hj, F6, acc6, racc6, rest6, s16, s56, hH6, hF6, hR6, hc6, he6⟩ := hW
      have E6 := E5.mono0 s56 s16.fh
      by_cases hltj : j < es.length
      · right
        obtain ⟨_, jg1⟩ := jd1 j F6 H6 s56 s16.fh
        obtain ⟨go1, yl1⟩ := jg1 es[j] (List.getElem?_eq_getElem hltj)
        rw [List.drop_eq_getElem_cons hltj] at hc6
        unfold compL at hc6
        obtain ⟨ρ7, c7, hc7⟩ := bind_some hc6
        obtain ⟨b, c8, hc8⟩ := bind_some hc7
        clear hc6 hc7
        refine ⟨go1, fun H => (es.length - (j + 1)) = es.length - (j + 1) ∧ j + 1 ≤ es.length ∧ ∃ F acc racc' rest, Stp F1 H1 F H ∧ Same F5 F ∧ H Dl = some (.lst acc) ∧ F Dl = none ∧ RpL K C F racc' acc ∧ compL g2 t e (wipeR ρ1 vs1) (es.drop (j + 1)) = some rest ∧ rs = racc' ++ (rest ++ rout), fun H' hN => ⟨_, by omega, hN⟩, fun x7 H7 y7 => ?_⟩
        obtain ⟨F7, s7, r7⟩ := yl1 x7 H7 y7
        refine ⟨F7, wipeR ρ1 vs1, es[j], ρ7, E6.step s7, r7, c7, fun σ8 E8 bar8 _ => ⟨wipe_bar bar8 hs1, F7, ρ7, b, E8, c8, fun F9 H9 s9 => ?_⟩⟩
        have s79 := s7.trans s9
        have s19 := s16.trans s79
        cases b with
        | true =>
          dsimp only
          rw [if_pos rfl] at hc8 ⊢
          obtain ⟨z, c9, hc9⟩ := bind_some hc8
          obtain ⟨rest', c10, hc10⟩ := bind_some hc9
          cases hc10
          refine ⟨F9, ρ7, z, E8.step s9, c9, fun v Fa Ha sa ra => ?_⟩
          have s1a := s19.trans sa
          have s6a := s79.trans sa
          have hlen := hR6.len
          have hl2 : acc6.length < 16777216 := by
            rw [he6, List.length_append, List.length_append, List.length_cons] at hz
            omega
          have hFn : Fa Dl = none := (s6a.old _ _ hH6).trans hF6
          refine ⟨acc6, s6a.hh _ _ hH6, Nat.lt_of_lt_of_le hl2 (szl_ok (Nat.le_refl _)), rfl, hltj, Fa, acc6 ++ [v], racc6 ++ [z], rest', ⟨s1a.ff, fun a o q => ?_, fun a o q => ?_, s1a.old⟩, s56.trans s6a.ff, upd_same, hFn, RpL.append (RpL.mono s6a.ff _ _ hR6) (RpL.one ra), c10, by rw [he6, List.append_assoc]; rfl⟩
          · rw [upd_ne (ne_of_none q hD)]
            exact s1a.hh a o q
          · rw [upd_ne (ne_of_none q hFn)]
            exact s1a.fh a o q
        | false =>
          dsimp only
          rw [if_neg Bool.false_ne_true] at hc8 ⊢
          exact ⟨rfl, hltj, F9, acc6, racc6, rest6, s19, s56.trans s79.ff, s79.hh _ _ hH6, (s79.old _ _ hH6).trans hF6, RpL.mono s79.ff _ _ hR6, hc8, he6⟩
      · left
        have ej : j = es.length := by omega
        subst ej
        obtain ⟨js1, _⟩ := jd1 es.length F6 H6 s56 s16.fh
        rw [List.drop_length] at hc6
        cases hc6
        exact ⟨js1 rfl, rfl, hlt, F6, acc6, racc6, rout, s16, hH6, hF6, hR6, c4, he6⟩
    · left
      have ei : i = ds.length := by omega
      subst ei
      obtain ⟨js, _⟩ := jd ds.length F2 H2 s2.ff s2.fh
      refine ⟨js rfl, ?_⟩
      dsimp only at hc
      rw [List.drop_length] at hc
      cases hc
      rw [List.append_nil] at he
      subst he
      have sF : Same F2 (upd F2 Dl (.lst acc)) := same_upd hF
      refine k _ (upd F2 Dl (.lst acc)) H2 (s1.trans ⟨s2.ff.trans sF, s2.hh, fun a o q => ?_, fun a o q => ?_⟩) ⟨Dl, acc, rfl, upd_same, RpL.mono sF _ _ hR⟩
      · by_cases ha : a = Dl
        · subst ha
          rw [upd_same] at q
          rw [← q]
          exact hH
        · rw [upd_ne ha] at q
          exact s2.fh a o q
      · rw [upd_ne (ne_of_none q hD)]
        exact s2.old a o q
  · cases hf2
variable {elt tg iter tg1 iter1 : Expr} {ifs1 : List Expr} {scope : Scope} {pos : Pos} {it it2 : DFs} {g g2 : DG} {t : DB} {e : DF} {ws ws1 : List Nat}
theorem de_comp2 {own : List (Str × Nat)} {vs1 : List Nat} (hc : X.calm = true) (hN : X.N.Nodup) (hi : DI X C [] tg iter it) (ok : BlkOk X.N X.env.scope scope own)
    (hg : ∀ (s : Shared) (H : Hp) (D : Addr) (cl : List (Str × Addr)) (fp : List Addr), DTg (X.blk s H scope (compEnvC scope cl D X.env) fp) C [] ws tg g)
    (hi1 : ∀ (s : Shared) (H : Hp) (D : Addr) (cl : List (Str × Addr)) (fp : List Addr), DI (X.blk s H scope (compEnvC scope cl D X.env) fp) C [] tg1 iter1 it2)
    (hg1 : ∀ (s : Shared) (H : Hp) (D : Addr) (cl : List (Str × Addr)) (fp : List Addr), DTg (X.blk s H scope (compEnvC scope cl D X.env) fp) C [] ws1 tg1 g2) (ht1 : ∀ (s : Shared) (H : Hp) (D : Addr) (cl : List (Str × Addr)) (fp : List Addr), DTs (X.blk s H scope (compEnvC scope cl D X.env) fp) C [] ifs1 t)
    (he : ∀ (s : Shared) (H : Hp) (D : Addr) (cl : List (Str × Addr)) (fp : List Addr), DE (X.blk s H scope (compEnvC scope cl D X.env) fp) C [] elt e) (hv : ∀ i ∈ ws, i ∈ own.map (·.2) := by decide) (hv1 : ∀ i ∈ ws1, i ∈ vs1 := by decide) (hvv : ∀ i ∈ vs1, i ∈ own.map (·.2) := by decide)
    (hs : ∀ x, foldedSetIterable iter X.env x = pure x := by intro _; rfl) (hs1 : ∀ env x, foldedSetIterable iter1 env x = pure x := by intro _ _; rfl) :
    DE X C [] (.ListComp elt [⟨tg, iter, [], 0⟩, ⟨tg1, iter1, ifs1, 0⟩] scope pos) (dComp2 it g it2 g2 t e (own.map (·.2)) vs1) := PEw (pe_lc2 hc hN hi ok hvv hg (fun _ _ _ _ _ => pts_nil) hi1 hg1 ht1 he hs hs1) fun _ _ _ hw => comp2_rd hv hv1 hw
end
end DL
namespace DL
open PySem PySem.Spec PyProof.Rows L2
theorem RpL.ofGet {K : PySem.W.Frag} {C : Addr} {F : Hp} : ∀ {ds : List D} {vs : List V}, ds.length = vs.length → (∀ (j : Nat) (d : D) (v : V), ds[j]? = some d → vs[j]? = some v → Rp K C F d v) → RpL K C F ds vs
  | [], vs, hl, _ => List.eq_nil_of_length_eq_zero hl.symm
  | d :: ds, vs, hl, h => by
    cases vs with
    | nil => cases hl
    | cons v vs => exact RpL.cons (h 0 d v rfl rfl) (RpL.ofGet (by simpa using hl) fun j d' v' h1 h2 => h (j + 1) d' v' (by simpa using h1) (by simpa using h2))
structure Nst (K : PySem.W.Frag) (C : Addr) (H0 F H : Hp) (p : Addr) (qs : List Addr) (dss : List (List D)) : Prop where
  hp : H p = some (.lst (qs.map V.ref))
  fp : F p = none
  h0 : H0 p = none
  ln : qs.length = dss.length
  at_ : ∀ (j : Nat) (q : Addr) (ds : List D), qs[j]? = some q → dss[j]? = some ds → ∃ vs, H q = some (.lst vs) ∧ F q = none ∧ H0 q = none ∧ RpL K C F ds vs
  nd : ∀ (j k : Nat) (q : Addr), qs[j]? = some q → qs[k]? = some q → j = k
  np : p ∉ qs
structure Sn2 (K : PySem.W.Frag) (C : Addr) (i : Nat) (F0 H0 F H : Hp) (σ : L2.St) (ρ : Rho) : Prop where
  en : En K C [] F H σ (un ρ i)
  sp : Stp F0 H0 F H
  ns : ∃ p qs dss, lk ρ i = some (.lst (dss.map D.lst)) ∧ σ[i]? = some (some (.ref p)) ∧ Nst K C H0 F H p qs dss
section
variable {K : PySem.W.Frag} {C : Addr} {i : Nat} {F0 H0 F H F' H' : Hp} {σ : L2.St} {ρ : Rho}
/-- all is frozen -/
theorem Sn2.freeze (S : Sn2 K C i F0 H0 F H σ ρ) : ∃ F', Same F F' ∧ Sn K C [] F0 H0 F' H σ ρ := by
  obtain ⟨p, qs, dss, e1, e2, N⟩ := S.ns
  have memq : ∀ {q : Addr}, q ∈ qs → ∃ vs ds j, qs[j]? = some q ∧ dss[j]? = some ds ∧ H q = some (.lst vs) ∧ F q = none ∧ H0 q = none ∧ RpL K C F ds vs := fun {q} hq => by
    obtain ⟨j, hj, rfl⟩ := List.getElem_of_mem hq
    have hj2 : j < dss.length := by rw [← N.ln]; exact hj
    obtain ⟨vs, h1, h2, h3, h4⟩ := N.at_ j qs[j] dss[j] (List.getElem?_eq_getElem hj) (List.getElem?_eq_getElem hj2)
    exact ⟨vs, dss[j], j, List.getElem?_eq_getElem hj, List.getElem?_eq_getElem hj2, h1, h2, h3, h4⟩
  let G : Hp := fun a => if a = p ∨ a ∈ qs then H a else F a
  have gin : ∀ {a}, (a = p ∨ a ∈ qs) → G a = H a := fun {a} h => if_pos h
  have gout : ∀ {a}, ¬ (a = p ∨ a ∈ qs) → G a = F a := fun {a} h => if_neg h
  have fin : ∀ {a}, (a = p ∨ a ∈ qs) → F a = none := fun {a} h => by
    rcases h with rfl | h
    · exact N.fp
    · obtain ⟨_, _, _, _, _, _, hf, _⟩ := memq h
      exact hf
  have hin : ∀ {a}, (a = p ∨ a ∈ qs) → H0 a = none := fun {a} h => by
    rcases h with rfl | h
    · exact N.h0
    · obtain ⟨_, _, _, _, _, _, _, hf, _⟩ := memq h
      exact hf
  have sm : Same F G := fun a o e => by
    have hn : ¬ (a = p ∨ a ∈ qs) := fun h => by rw [fin h] at e; cases e
    rw [gout hn]
    exact e
  have gh : Same G H := fun a o e => by
    by_cases h : a = p ∨ a ∈ qs
    · rw [gin h] at e
      exact e
    · rw [gout h] at e
      exact S.en.fh a o e
  refine ⟨G, sm, ⟨gh, ?_, fun j d hj q => ?_, fun j d hj => absurd hj List.not_mem_nil, fun j k d e p hj => absurd hj List.not_mem_nil⟩, ⟨S.sp.ff.trans sm, S.sp.hh, gh, fun a o e => ?_⟩, fun j d p hj => absurd hj List.not_mem_nil⟩
  · rw [S.en.len, un_len]
  · by_cases hji : j = i
    · subst hji
      rw [e1] at q
      cases q
      refine ⟨.ref p, e2, p, _, rfl, (gin (.inl rfl)).trans N.hp, RpL.ofGet (by rw [List.length_map, List.length_map, N.ln]) fun j d v h1 h2 => ?_⟩
      rw [List.getElem?_map] at h1 h2
      obtain ⟨ds, g1, rfl⟩ := Option.map_eq_some_iff.mp h1
      obtain ⟨q, g2, rfl⟩ := Option.map_eq_some_iff.mp h2
      obtain ⟨vs, g3, g4, g5, g6⟩ := N.at_ j q ds g2 g1
      exact ⟨q, vs, rfl, (gin (.inr (List.mem_of_getElem? g2))).trans g3, RpL.mono sm _ _ g6⟩
    · have q' : lk (un ρ i) j = some d := by rw [lk_un_ne hji]; exact q
      obtain ⟨v, h1, h2⟩ := S.en.pl j d List.not_mem_nil q'
      exact ⟨v, h1, Rp.mono sm _ _ h2⟩
  · have hn : ¬ (a = p ∨ a ∈ qs) := fun h => by rw [hin h] at e; cases e
    rw [gout hn]
    exact S.sp.old a o e
/-- what was evaluated meanwhile leaves it as it is -/
theorem Sn2.step (S : Sn2 K C i F0 H0 F H σ ρ) (hh : Same H H') : Sn2 K C i F0 H0 F H' σ ρ := by
  obtain ⟨p, qs, dss, e1, e2, N⟩ := S.ns
  have st : Stp F H F H' := ⟨Same.refl _, hh, S.en.fh.trans hh, fun _ _ _ => rfl⟩
  refine ⟨S.en.step st, S.sp.trans st, p, qs, dss, e1, e2, ⟨hh _ _ N.hp, N.fp, N.h0, N.ln, fun j q ds h1 h2 => ?_, N.nd, N.np⟩⟩
  obtain ⟨vs, g1, g2⟩ := N.at_ j q ds h1 h2
  exact ⟨vs, hh _ _ g1, g2⟩
theorem un_st_ne : ∀ {ρ : Rho} {i j : Nat} {d : D}, j ≠ i → un (st ρ j d) i = st (un ρ i) j d
  | [], _, _, _, _ => rfl
  | _ :: _, 0, 0, _, h => absurd rfl h
  | _ :: _, 0, j + 1, _, _ => rfl
  | _ :: _, i + 1, 0, _, _ => rfl
  | x :: r, i + 1, j + 1, d, h => by
    show x :: un (st r j d) i = x :: st (un r i) j d
    rw [un_st_ne fun z => h (by rw [z])]
/-- a scalar is stored -/
theorem Sn2.set {j : Nat} {d : D} {v : V} (S : Sn2 K C i F0 H0 F H σ ρ) (hj : j ≠ i) (r : Rp K C F d v) : Sn2 K C i F0 H0 F H (σ.set j (some v)) (st ρ j d) := by
  obtain ⟨p, qs, dss, e1, e2, N⟩ := S.ns
  refine ⟨?_, S.sp, p, qs, dss, ?_, ?_, N⟩
  · rw [un_st_ne hj]
    exact S.en.set List.not_mem_nil r
  · rw [lk_st_ne (Ne.symm hj)]
    exact e1
  · rw [List.getElem?_set_ne hj]
    exact e2
end
def endR2 (K : PySem.W.Frag) (C : Addr) (i : Nat) (F0 H0 F : Hp) (Z : Ends) : R → Prop
  | .nx ρ' => ∀ σ' F' H', Sn2 K C i F0 H0 F' H' σ' ρ' → Same F F' → Z.nx σ' H'
  | .rt d => ∀ v F' H', Stp F0 H0 F' H' → Rp K C F' d v → Z.rt v H'
theorem endR2.mono {K : PySem.W.Frag} {C : Addr} {i : Nat} {F0 H0 F F' : Hp} {Z : Ends} {r : R} (h : endR2 K C i F0 H0 F Z r) (s : Same F F') : endR2 K C i F0 H0 F' Z r := by
  cases r with
  | nx ρ' => exact fun σ' F2 H2 S sm => h σ' F2 H2 S (s.trans sm)
  | rt d => exact h
end DL
namespace DL
open PySem PySem.Spec PyProof.Rows L2
end DL
namespace DL
open PySem PySem.Spec PyProof.Rows L2
end DL
namespace DL
open PySem PySem.Spec PyProof.Rows L2
/-- the truth of None, bools and ints -/
def truI : D → Option Bool
  | .non => some false
  | .bl b => some b
  | .int i => some (i != 0)
  | _ => none
def dOrT (f g : DF) : DF := fun ρ => (f ρ).bind fun x => (truI x).bind fun k => if k = true then some x else g ρ
end DL
namespace DL
open PySem PySem.Spec PyProof.Rows L2
def so0 (w : World) : Obj := { cls := .type "set", dict := none, data := .set #[] 0 (.fresh 0 0 (!w.params.followText "set-order")) }
section
variable {P : Program} {w : World} {A : Around} {E : Value → Shared → Prop} {s : Shared}
theorem so0_set {h : Heap} {a : Addr} {ns : List Int} (ho : h.get? a = some (so0 w)) : SetR w h a (fun j => decide (j ∈ ns.take 0)) 0 := setR_new_at ho
theorem setR_few {h : Heap} {a : Addr} {S : Int → Bool} {n : Nat} {L : List Int} (R : SetR w h a S n) (hL : ∀ k, S k = true → k ∈ L) : n ≤ L.length := by
  obtain ⟨_, ets, _, _, _, _, _, _, nod, mm, _, _, sz, _⟩ := R
  have q := List.Nodup.length_le_of_subset nod (l₂ := L) fun k hk => hL k ((mm k).2 hk)
  rw [List.length_map, Array.length_toList] at q
  omega
theorem set_fill {I : Addr} {fp wr : List Addr} {G : Array GenState → Array GenState → Prop} {n : Nat} {Pv : Nat → Value → Prop} {St : Nat → Shared → Prop} {R : Result → Shared → Prop}
    (W : WalksS P w A.in1 I fp wr G n Pv St) (S : Addr) (nf : S ∉ fp) (ns L : List Int) (ln : n = ns.length) (few : L.length + 1 < scanBound) (sub : ∀ k ∈ ns, k ∈ L) (vals : ∀ i v, Pv i v → ∃ k t, ns[i]? = some k ∧ v = .int k t) :
    ∀ (k i : Nat) (s1 : Shared), n - i = k → i ≤ n → St i s1 → (∃ c, SetR w s1.heap S (fun j => decide (j ∈ ns.take i)) c) →
      (∀ s2 c, Moved (S :: wr) G s1 s2 → SetR w s2.heap S (fun j => decide (j ∈ ns)) c → R (.ok (.ret .none)) s2) →
      codeAny (model P w) A (.builtin "set.update.loop" ⟨[.ref S, .ref I], []⟩) R s1 := by
  have nw : S ∉ wr := fun z => nf (W.sub _ z)
  have up : ∀ b ∈ wr, b ∈ S :: wr := fun b z => List.mem_cons_of_mem _ z
  intro k
  induction k with
  | zero =>
    intro i s1 ek le st0 ⟨c, sr⟩ fin
    obtain rfl : i = n := by omega
    refine codeAny_builtin F.entry_set_update_loop ?_
    rw [Around.under_plainId F.plain_set_update_loop _]
    show wpAny _ A.in1 (pyNext (.ref I) >>= _) _ _ s1
    refine wpAny_bind (W.done s1 _ _ st0 fun s2 mv => ?_)
    show wpAny _ A.in1 (ret Value.none) _ _ s2
    rw [List.take_of_length_le (Nat.le_of_eq ln.symm)] at sr
    exact wpAny_pure (fin s2 c (mv.mono up) (sr.at fun o z => mv.heap S o nw z))
  | succ k ih =>
    intro i s1 ek le st0 ⟨c, sr⟩ fin
    have lt : i < n := by omega
    refine codeAny_builtin F.entry_set_update_loop ?_
    rw [Around.under_plainId F.plain_set_update_loop _]
    show wpAny _ A.in1 (pyNext (.ref I) >>= _) _ _ s1
    refine wpAny_bind (W.item i s1 _ _ lt st0 fun v s2 pv st1 mv => ?_)
    obtain ⟨z, t, hz, rfl⟩ := vals i v pv
    have sr2 : SetR w s2.heap S (fun j => decide (j ∈ ns.take i)) c := sr.at fun o q => mv.heap S o nw q
    have room := setR_few sr2 (L := L) fun k hk => sub k (List.mem_of_mem_take (of_decide_eq_true hk))
    show wpAny _ A.in1 (holding [Value.int z t] (setAdd S (.int z t)) >>= _) _ _ s2
    refine wpAny_bind (wpAny_holding ?_)
    unfold setAdd
    refine wpAny_holding (wpAny_bind ((intKind P w).pyHash (k := z) (intKind_is _ _ _ _) ?_))
    refine setR_add_hashed (s := { s2 with toks := s2.toks + 1 }) sr2 (by omega) fun h3 but sr3 => ?_
    have sr4 : SetR w h3 S (fun j => decide (j ∈ ns.take (i + 1))) (if decide (z ∈ ns.take i) = true then c else c + 1) := sr3.congr fun j => by
      rw [List.take_add_one, hz]
      simp [List.mem_append]
    refine wpAny_pure ⟨plainId_quiet F.plain_set_update_loop _, ih (i + 1) _ (by omega) lt (W.frame _ s2 _ _ st1 (Nat.le_succ _) fun b hb o q => ?_) ⟨_, sr4⟩ fun s4 c4 mv4 sr5 => ?_⟩
    · rw [but.2 b (fun y : b = S => nf (y ▸ hb))]
      exact q
    · refine fin s4 c4 (Moved.trans W.gtrans ((mv.mono up).then_heap (Nat.le_succ _) fun b o nb q => ?_) mv4) sr5
      rw [but.2 b (fun y : b = S => nb (y ▸ List.mem_cons_self))]
      exact q
set_option maxRecDepth 100000 in
/-- set(l) of a list of ints -/
theorem set_of_list {l : Addr} {its : Array Value} (ns L : List Int) {Q : Value → Shared → Prop} (calm : A.handled = none) (isl : s.heap.IsList l its) (hni : IntsAre its.toList ns) (few : L.length + 1 < scanBound) (sub : ∀ k ∈ ns, k ∈ L)
    (fin : ∀ (h2 : Heap) (tk c : Nat), SetR w h2 s.heap.objs.size (fun j => decide (j ∈ ns)) c → (∀ b o, s.heap.get? b = some o → h2.get? b = some o) → Q (.ref s.heap.objs.size) { s with heap := h2, toks := tk }) :
    wpAny (model P w) A (call (.type "set") [.ref l]) Q E s := by
  have isz : its.size = ns.length := by
    have q := IntsAre.length hni
    rwa [Array.length_toList] at q
  obtain ⟨c, tl, mro1⟩ := F.called_set.mro
  have made1 := F.called_set.made
  have sub1 := F.called_set.sub
  refine wpAny_call (codeAny_of_tree ?_)
  show wpAny _ _ (callAny (.type "set") _) _ _ _
  refine wpAny_pure ⟨Code.quiet_builtin _ (by decide +kernel), codeAny_builtin F.entry_type_call ?_⟩
  rw [Around.under_plain (weight_type_call_type "set" [.ref l] []) rfl]
  have nt1 := F.called_set.notType
  have cc1 := F.called_set.canCreate
  have tc1 := F.typeCall_set_1 (.ref l)
  repeat (any_goals (first | assumption | wp_step))
  refine codeAny_mono (code_set_led1 (.ref l) (E := E) (Q₁ := fun obj s1 => obj = .ref s.heap.objs.size ∧ s1 = { s with heap := s.heap.push (so0 w) }) ⟨rfl, rfl⟩) fun r s1 hr => ?_
  cases r with
  | error e => exact hr
  | ok fl =>
    cases fl with
    | ret obj =>
      obtain ⟨rfl, rfl⟩ := hr
      have hS : (s.heap.push (so0 w)).get? s.heap.objs.size = some (so0 w) := Heap.get?_push_size _ rfl
      have hT : Shared.TypeIs { s with heap := s.heap.push (so0 w) } (.ref s.heap.objs.size) "set" := ⟨_, hS, rfl⟩
      have li1 := F.called_set.init.lookup
      have bi1 := F.called_set.init.bind (.ref s.heap.objs.size)
      repeat (any_goals (first | assumption | wp_step))
      refine codeAny_mono (codeAny_call_builtin (R := wants (fun r s2 => r = .none ∧ ∃ h2 tk c, s2 = { s with heap := h2, toks := tk } ∧ SetR w h2 s.heap.objs.size (fun j => decide (j ∈ ns)) c ∧
          (∀ b o, s.heap.get? b = some o → h2.get? b = some o)) E) F.called_set.init.plain F.entry_set_init (check_set_init_1 hT ?_)) fun r2 s2 hr2 => ?_
      · obtain ⟨⟨ocl, odc, oda, osl⟩, hol, q1, nl, q2⟩ := isl
        simp only at q1 q2
        subst q1; subst q2
        have hol2 : (s.heap.push (so0 w)).get? l = some { cls := .type "list", dict := odc, data := .seq its nl, slots := osl } := Heap.get?_push_of_some _ hol
        have sl1 := F.sub_list_set
        have sl2 := F.sub_list_frozenset
        have nd1 : (Value.type "list" == Value.type "dict") = false := by decide
        have isl1 : (s.heap.push (so0 w)).IsList l its := ⟨_, hol2, rfl, nl, rfl⟩
        unfold Builtin.«set.__init__» noKeywords Builtin.Frozenset.updateFrom
        generalize ePI : pyIter = PI
        wp_walk
        subst ePI
        refine wpAny_pyIter_list isl1 (wpAny_bind (wpAny_runValue ?_))
        have ll : l < s.heap.objs.size := Heap.lt_size hol
        have calm3 : A.in1.in1.in1.handled = none := by simp [calm]
        have nI : l ≠ (s.heap.push (so0 w)).objs.size := by
          rw [Heap.size_push]
          exact Nat.ne_of_lt (Nat.lt_succ_of_lt ll)
        have nS : s.heap.objs.size ∉ [(s.heap.push (so0 w)).objs.size, l] := by
          rw [Heap.size_push]
          simp only [List.mem_cons, List.mem_singleton, List.not_mem_nil, or_false, not_or]
          exact ⟨Nat.ne_of_lt (Nat.lt_succ_self _), Nat.ne_of_gt ll⟩
        have vals : ∀ (i : Nat) (v : Value), its[i]? = some v → ∃ k t, ns[i]? = some k ∧ v = .int k t := fun i v hv => by
          have hi : i < ns.length := by
            rw [← isz]
            exact (Array.getElem?_eq_some_iff.mp hv).1
          obtain ⟨t, e⟩ := PyProof.Rows.IntsAre.int_at hni i v (by rw [Array.getElem?_toList]; exact hv)
          refine ⟨ns[i], t, List.getElem?_eq_getElem hi, ?_⟩
          rw [e, List.getD_eq_getElem?_getD, List.getElem?_eq_getElem hi]
          rfl
        refine set_fill ((Walks.list calm3 _ l nI its).toS) s.heap.objs.size nS ns L isz few sub vals (its.size - 0) 0 _ (by omega) (Nat.zero_le _) ⟨⟨_, Heap.get?_push_size _ rfl, rfl, rfl⟩, (isl1.push _)⟩ ?start ?stop
        case start => exact ⟨0, so0_set (Heap.get?_push_of_some _ hS)⟩
        case stop =>
          intro s3 c3 mv sr3
          obtain ⟨h3, g3, d3, t3, o3⟩ := s3
          obtain rfl : g3 = s.gens := mv.gens
          obtain rfl : d3 = s.drawn := mv.drawn
          obtain rfl : o3 = s.os := mv.os
          show wpAny _ _ _ _ _ _
          refine wpAny_pure ?_
          show wpAny _ _ (ret Value.none) _ _ _
          refine wpAny_pure ⟨rfl, h3, t3, c3, rfl, sr3, fun b o q => ?_⟩
          have b0 : b < s.heap.objs.size := Heap.lt_size q
          have b2 : b ≠ (s.heap.push (so0 w)).objs.size := by
            rw [Heap.size_push]
            exact Nat.ne_of_lt (Nat.lt_succ_of_lt b0)
          refine mv.heap b o ?_ (Heap.get?_push_of_some _ (Heap.get?_push_of_some _ q))
          simp only [List.mem_cons, List.mem_singleton, List.not_mem_nil, or_false, not_or]
          exact ⟨Nat.ne_of_lt b0, b2⟩
      · cases r2 with
        | error e => exact hr2
        | ok fl2 =>
          cases fl2 with
          | ret r =>
            obtain ⟨rfl, h2, tk, c2, rfl, sr2, kp2⟩ := hr2
            repeat (any_goals (first | assumption | wp_step))
            exact fin _ _ _ sr2 kp2
          | _ => exact hr2.elim
    | _ => exact hr.elim
/-- sorted(set), any number of members -/
theorem sorted_set_any {a : Addr} {S : Int → Bool} {n : Nat} {Q : Value → Shared → Prop} (R : SetR w s.heap a S n) (calm : A.handled = none)
    (fin : ∀ s2 p (out : Array Value) (c : Nat) (ns : List Int), (∀ b o, s.heap.get? b = some o → s2.heap.get? b = some o) → s2.gens = s.gens → s2.os = s.os → s.heap.objs.size ≤ p →
      s2.heap.get? p = some (seqObj "list" out c) → IntsAre out.toList ns → ns.Pairwise (· < ·) → (∀ k, k ∈ ns ↔ S k = true) → ns.length = n → Q (.ref p) s2) :
    wpAny (model P w) A (call (.builtin "sorted") [.ref a]) Q E s := by
  obtain ⟨o, es, ep, t, ho, hex, hd, good, nod, mm, few, fits, sz, ris, led⟩ := R
  refine Calls.call_function_entry kind_sorted plain_sorted entry_sorted (args_sorted1 _) ?_
  unfold Builtin.«sorted»
  refine wpAny_bind (m := checkCount "sorted" 1 1 _) (wpAny_pure ?_)
  refine wpAny_bind (collect_set (A := A.in1) calm ⟨o, ho, hex.1, hd⟩ fits few ris led fun s1 vs k1 z1 g1 o1 pm => ?_)
  have lv : vs.length = n := by
    rw [pm.length_eq, List.length_map, Array.length_toList]
    exact sz
  have hI : IntsAre vs (vs.map Builtin.Re.reRawOf) := ints_of vs fun v hv => by
    obtain ⟨e, he, q⟩ := List.mem_map.mp (pm.mem_iff.mp hv)
    obtain ⟨k, tk, h1, _⟩ := good e he
    exact ⟨k, tk, by rw [← q]; exact h1⟩
  have pk : (vs.map Builtin.Re.reRawOf).Perm (es.toList.map keyOf) := by
    have q := pm.map Builtin.Re.reRawOf
    rwa [List.map_map] at q
  have lz : vs.length ≤ sizeLine := by
    rw [lv, ← sz]
    exact fits_of_scanBound few
  refine wpAny_bind (wpAny_newList ?_ lz)
  have hoL : (s1.heap.push (seqObj "list" vs.toArray 0)).get? s1.heap.objs.size = some (seqObj "list" vs.toArray 0) := Heap.get?_push_size _ rfl
  refine wpAny_bind (wpAny_holding (wpAny_call_entry slot_list_sort ⟨_, hoL, rfl⟩ entry_list_sort (SrtO.list_sort_ord SrtO.swo_int hoL lz (fun h2 => SrtO.ints_sortable hI h2) fun out q1 q2 => ⟨_, rfl, ?_⟩) (args_list_sort _)))
  obtain ⟨a1, a2, a3⟩ := SrtO.ints_out hI q1 q2
  obtain ⟨c, hc⟩ := sortedHeap_at (vs := vs) (out := out.toArray) hoL
  have pn := a2.trans pk
  refine wpAny_pure ⟨_, rfl, fin _ s1.heap.objs.size out.toArray c (out.map SrtO.iv) (fun b u e => ?_) g1 o1 z1 hc a1 (lt_of_le_nodup _ a3 (pn.nodup_iff.mpr nod)) (fun k => by rw [pn.mem_iff, ← mm k]) ?_⟩
  · have q := k1 b u e
    have bl := Heap.lt_size q
    show (sortedHeap (s1.heap.push (seqObj "list" vs.toArray 0)) s1.heap.objs.size vs out.toArray).get? b = some u
    rw [sortedHeap_old (Nat.ne_of_lt bl) (by rw [size_push']; exact Nat.lt_succ_of_lt bl)]
    exact Heap.get?_push_of_some _ q
  · rw [pn.length_eq, List.length_map, Array.length_toList]
    exact sz
end
def rSetL (K : PySem.W.Frag) (w : World) : List V → Hp → VK → Prop := fun vs H Q => ∃ (l : Addr) (ns L : List Int), vs = [V.ref l] ∧ SqL K H l (ns.map V.int) ∧ L.length < 4000 ∧ (∀ k ∈ ns, k ∈ L) ∧
  ∀ p c, H p = none → Q (.ref p) (upd H p (SetO w p (fun j => decide (j ∈ ns)) c))
def rSortedS (w : World) : List V → Hp → VK → Prop := fun vs H Q => ∃ (a : Addr) (S : Int → Bool) (n : Nat), vs = [V.ref a] ∧ H a = some (SetO w a S n) ∧
  ∀ (ns : List Int) (p : Addr), ns.Pairwise (· < ·) → (∀ k : Int, k ∈ ns ↔ S k = true) → H p = none → Q (.ref p) (upd H p (.lst (ns.map V.int)))
section
variable {X : Cx}
theorem cr_setL (hc : X.calm = true) : CallR X (.type "set") (rSetL X.K X.w) := by
  intro pins s σ H vs us Q I r h
  obtain ⟨l, ns, L, rfl, hs, hL, sub, q⟩ := h
  obtain ⟨its, rv, hl, hz⟩ := I.list hs
  rw [Vals.ref1 r]
  refine set_of_list ns L (I.ok.hd hc) hl.isList (ints_of_vals rv) (by unfold scanBound; omega) sub fun h2 tk c R kp => ?_
  have hn : H s.heap.objs.size = none := I.hok.fresh (Nat.le_refl _)
  have J : Inv X pins σ (upd H s.heap.objs.size (SetO X.w s.heap.objs.size (fun j => decide (j ∈ ns)) c)) { s with heap := h2, toks := tk } :=
    I.call (ch := []) (Un.laid kp (Nat.le_refl _) hn) (I.hok.laid kp (Nat.le_refl _) (setO_new R)) I.bare (fun _ z => nomatch z)
  exact ⟨.ref s.heap.objs.size, _, J, rfl, q _ c hn⟩
theorem cr_sortedS (hc : X.calm = true) : CallR X (.builtin "sorted") (rSortedS X.w) := by
  intro pins s σ H vs us Q I r h
  obtain ⟨a, S, n, rfl, ha, q⟩ := h
  have R := setO_get I ha
  have sz : n < scanBound := by
    obtain ⟨_, _, _, _, _, _, _, _, _, _, few, _, e, _⟩ := R
    omega
  rw [Vals.ref1 r]
  refine sorted_set_any R (I.ok.hd hc) fun s2 p out c ns kp g o hp hg hi hs hm hl => ?_
  have hlen : (ns.map V.int).length ≤ sizeLine := by
    rw [List.length_map, hl]
    exact fits_of_scanBound sz
  have hn : H p = none := I.hok.fresh hp
  have J : Inv X pins σ (upd H p (.lst (ns.map V.int))) { s with heap := s2.heap, gens := s2.gens, drawn := s2.drawn, toks := s2.toks } :=
    I.call (ch := []) (Un.laid kp hp hn) (I.hok.laid kp hp ⟨hlen, out.toList, c, vals_of_ints hi, hg⟩) (by rw [g]; exact I.bare) (fun _ z => nomatch z)
  have e : s2 = { s with heap := s2.heap, gens := s2.gens, drawn := s2.drawn, toks := s2.toks } := by
    cases s2; cases s; cases o; rfl
  rw [e]
  exact ⟨.ref p, _, J, rfl, q ns p hs hm hn⟩
end
def insU (a : Int) : List Int → List Int
  | [] => [a]
  | b :: l => if a < b then a :: b :: l else if a = b then b :: l else b :: insU a l
def usort : List Int → List Int
  | [] => []
  | a :: l => insU a (usort l)
theorem mem_insU (a x : Int) : ∀ l : List Int, x ∈ insU a l ↔ x = a ∨ x ∈ l
  | [] => by simp [insU]
  | b :: l => by
    unfold insU
    by_cases h : a < b
    · rw [if_pos h]; simp
    · rw [if_neg h]
      by_cases h2 : a = b
      · rw [if_pos h2]; subst h2; simp
      · rw [if_neg h2, List.mem_cons, mem_insU a x l, List.mem_cons]
        constructor
        · rintro (h | h | h)
          · exact .inr (.inl h)
          · exact .inl h
          · exact .inr (.inr h)
        · rintro (h | h | h)
          · exact .inr (.inl h)
          · exact .inl h
          · exact .inr (.inr h)
theorem insU_asc (a : Int) : ∀ {l : List Int}, l.Pairwise (· < ·) → (insU a l).Pairwise (· < ·)
  | [], _ => by simp [insU]
  | b :: l, h => by
    obtain ⟨h1, h2⟩ := List.pairwise_cons.mp h
    unfold insU
    by_cases q : a < b
    · rw [if_pos q]
      refine List.pairwise_cons.mpr ⟨fun y hy => ?_, h⟩
      rcases List.mem_cons.mp hy with e | e
      · omega
      · have := h1 y e; omega
    · rw [if_neg q]
      by_cases q2 : a = b
      · rw [if_pos q2]; exact h
      · rw [if_neg q2]
        refine List.pairwise_cons.mpr ⟨fun y hy => ?_, insU_asc a h2⟩
        rcases (mem_insU a y l).mp hy with e | e
        · omega
        · exact h1 y e
theorem mem_usort (x : Int) : ∀ l : List Int, x ∈ usort l ↔ x ∈ l
  | [] => by simp [usort]
  | a :: l => by
    unfold usort
    rw [mem_insU, mem_usort x l, List.mem_cons]
theorem usort_asc : ∀ l : List Int, (usort l).Pairwise (· < ·)
  | [] => List.Pairwise.nil
  | a :: l => insU_asc a (usort_asc l)
theorem ascI_ext : ∀ {a b : List Int}, a.Pairwise (· < ·) → b.Pairwise (· < ·) → (∀ x, x ∈ a ↔ x ∈ b) → a = b
  | [], [], _, _, _ => rfl
  | [], y :: b, _, _, h => absurd ((h y).mpr List.mem_cons_self) List.not_mem_nil
  | x :: a, [], _, _, h => absurd ((h x).mp List.mem_cons_self) List.not_mem_nil
  | x :: a, y :: b, ha, hb, h => by
    obtain ⟨a1, a2⟩ := List.pairwise_cons.mp ha
    obtain ⟨b1, b2⟩ := List.pairwise_cons.mp hb
    have e : x = y := by
      rcases List.mem_cons.mp ((h x).mp List.mem_cons_self) with q | q
      · exact q
      · rcases List.mem_cons.mp ((h y).mpr List.mem_cons_self) with q' | q'
        · exact q'.symm
        · have := a1 y q'
          have := b1 x q
          omega
    subst e
    rw [ascI_ext a2 b2 fun z => ?_]
    constructor
    · intro hz
      rcases List.mem_cons.mp ((h z).mp (List.mem_cons_of_mem _ hz)) with q | q
      · have := a1 z hz; omega
      · exact q
    · intro hz
      rcases List.mem_cons.mp ((h z).mpr (List.mem_cons_of_mem _ hz)) with q | q
      · have := b1 z hz; omega
      · exact q
def opSset : D → Option D
  | .lst ds => (asInts ds).bind fun ns => if (usort ns).length < 4000 then some (.lst ((usort ns).map .int)) else none
  | _ => none
section
variable {X : Cx} {C : Addr} {O : List Nat} {e : Expr} {f : DF}
/-- sorted(set(e)) -/
theorem de_sset {p p2 pos pos2 : Pos} (hc : X.calm = true) (hg : Gl X "sorted") (hm : X.mg "sorted" = none) (hg2 : Gl X "set") (hm2 : X.mg "set" = none) (ha : DE X C O e f)
    (h1 : starEach [e] X.env = (false, eval e X.env) :: starEach [] X.env := by rfl) (h2 : starEach [Expr.Call (.Name "set" p2) [e] [] pos2] X.env = (false, eval (Expr.Call (.Name "set" p2) [e] [] pos2) X.env) :: starEach [] X.env := by rfl) :
    DE X C O (.Call (.Name "sorted" p) [.Call (.Name "set" p2) [e] [] pos2] [] pos) (d1 opSset f) :=
  PEw (pe_callB (cr_sortedS hc) hg hm PyProof.Rows.boot_sorted (pa_cons (pe_callTy (he := h1) (hpl := rfl) (cr_setL hc) hg2 hm2 PyProof.Rows.boot_set (pa_cons ha pa_nil h1)) pa_nil h2) (he := h2)) fun σ H Q ⟨F, ρ, d, E, hf, k⟩ => by
    obtain ⟨x, q1, q2⟩ := bind_some hf
    refine ⟨F, ρ, x, E, q1, fun v F1 H1 s1 r1 => ?_⟩
    cases x with
    | lst ds =>
      obtain ⟨ns, q3, q4⟩ := bind_some q2
      by_cases hl : (usort ns).length < 4000
      · rw [if_pos hl] at q4
        cases q4
        obtain ⟨a, xs, rfl, ha, hr⟩ := r1
        rw [intsRp q3 hr] at ha
        refine ⟨a, ns, usort ns, rfl, SqL.of (s1.fh _ _ ha), hl, fun k hk => (mem_usort k ns).mpr hk, fun p2 c hp => ?_⟩
        refine ⟨p2, _, _, rfl, upd_same, fun ms p3 asc mem hp3 => ?_⟩
        have em : ms = usort ns := ascI_ext asc (usort_asc ns) fun x => by
          rw [mem x, decide_eq_true_eq, mem_usort]
        subst em
        have hp3' : H1 p3 = none := by
          by_cases z : p3 = p2
          · rw [z]; exact hp
          · rwa [upd_ne z] at hp3
        have f2 : F1 p3 = none := s1.fh.free hp3'
        refine k (.ref p3) (upd F1 p3 (.lst ((usort ns).map V.int))) _ ?_ ⟨p3, _, rfl, upd_same, RpL.ofInts _⟩
        have b1 := Stp.own (o := SetO X.w p2 (fun j => decide (j ∈ ns)) c) s1.fh hp
        exact s1.trans (b1.trans (Stp.new b1.fh hp3))
      · rw [if_neg hl] at q4
        cases q4
    | _ => cases q2
end
end DL
namespace DL
open PySem PySem.Spec PyProof.Rows L2
end DL
namespace DL
open PySem PySem.Spec PyProof.Rows L2
abbrev Pr := Int × List Int
def prD (p : Pr) : D := .tup [.int p.1, .tup (p.2.map .int)]
end DL
namespace HT
open PySem PyProof.Rows
section
variable {prog : Program} {w : World} {A : Around} {E : Value → Shared → Prop} {s : Shared}
theorem adjust_back (n : Nat) : Builtin.Slice.sliceAdjust none none (-1) (n : Int) = ((n : Int) - 1, -1) := by
  unfold Builtin.Slice.sliceAdjust
  have h1 : ((-1 : Int) < 0) := by decide
  simp only [h1, if_true]
theorem places_back (n : Nat) : Builtin.Slice.slicePlaces ((n : Int) - 1) (-1) (-1) = n := by
  unfold Builtin.Slice.slicePlaces
  have h1 : ¬ ((-1 : Int) > 0) := by decide
  rw [if_neg h1]
  by_cases h : (n : Int) - 1 > -1
  · rw [if_pos h]
    have e : -(-1 : Int) = 1 := rfl
    rw [e, Int.ediv_one]
    omega
  · rw [if_neg h]
    have : n = 0 := by omega
    rw [this]
    rfl
theorem applied_back {sl : Addr} {n : Nat} {t : Tok} {Q : Int × Int × Nat → Shared → Prop} (hs : s.heap.IsSliceOf sl .none .none (.int (-1) t)) (h : Q ((n : Int) - 1, -1, n) s) :
    wpAny (model prog w) A (Builtin.Slice.sliceApplied (.ref sl) (pure (n : Int))) Q E s := by
  obtain ⟨ob, hob, _, hfd⟩ := hs
  unfold Builtin.Slice.sliceApplied Builtin.Slice.sliceFields
  refine wpAny_bind (wpAny_bind (wpAny_field hob hfd (x := .none) rfl (wpAny_bind (wpAny_field hob hfd (x := .none) rfl (wpAny_bind (wpAny_field hob hfd (x := .int (-1) t) rfl (wpAny_pure ?_)))))))
  refine wpAny_bind (slicePart_ (.int (-1) t) ?_)
  show wpAny _ _ (if ((-1 : Int) == 0) = true then _ else _) _ _ s
  rw [if_neg (by decide)]
  refine wpAny_bind (slicePart_ .none (wpAny_bind (slicePart_ .none (wpAny_bind (wpAny_pure ?_)))))
  show wpAny _ _ (match Builtin.Slice.sliceAdjust none none (-1) (n : Int) with | (lo, hi) => pure (lo, (-1 : Int), Builtin.Slice.slicePlaces lo hi (-1))) _ _ s
  rw [adjust_back n]
  show wpAny _ _ (pure ((n : Int) - 1, (-1 : Int), Builtin.Slice.slicePlaces ((n : Int) - 1) (-1) (-1))) _ _ s
  rw [places_back]
  exact wpAny_pure h
theorem fm_congr {α β : Type} {f g : α → Option β} : ∀ {l : List α}, (∀ x ∈ l, f x = g x) → l.filterMap f = l.filterMap g
  | [], _ => rfl
  | x :: l, h => by
    rw [List.filterMap_cons, List.filterMap_cons, h x List.mem_cons_self, fm_congr fun y hy => h y (List.mem_cons_of_mem _ hy)]
theorem pick_back (xs : Array Value) : ((List.range xs.size).filterMap fun (k : Nat) => xs[((xs.size : Int) - 1 + (k : Int) * -1).toNat]?).toArray = xs.toList.reverse.toArray := by
  congr 1
  have e : ∀ k ∈ List.range xs.size, xs[((xs.size : Int) - 1 + (k : Int) * -1).toNat]? = some (xs.toList.reverse[k]?.getD .none) := fun k hk => by
    have hk := List.mem_range.mp hk
    have e1 : ((xs.size : Int) - 1 + (k : Int) * -1).toNat = xs.size - 1 - k := by omega
    rw [e1, List.getElem?_reverse (by simpa using hk)]
    simp only [Array.length_toList, Array.getElem?_toList]
    rw [Array.getElem?_eq_getElem (by omega)]
    rfl
  have e2 : (List.range xs.size).filterMap (fun (k : Nat) => xs[((xs.size : Int) - 1 + (k : Int) * -1).toNat]?) = (List.range xs.size).filterMap fun k => some (xs.toList.reverse[k]?.getD .none) := fm_congr e
  rw [e2]
  have e3 : (List.range xs.size).filterMap (fun k => some (xs.toList.reverse[k]?.getD .none)) = (List.range xs.size).map fun k => xs.toList.reverse[k]?.getD .none := by
    rw [← List.filterMap_eq_map]
    rfl
  rw [e3]
  apply List.ext_getElem
  · simp
  · intro i h1 h2
    simp only [List.getElem_map, List.getElem_range]
    rw [List.getElem?_eq_getElem h2]
    rfl
theorem getItem_tuple_back {t sl : Addr} {items : Array Value} {tk : Tok} {Q : Value → Shared → Prop} (ht : IsTup s.heap t items) (hs : s.heap.IsSliceOf sl .none .none (.int (-1) tk))
    (h : Q (.ref s.heap.objs.size) { s with heap := s.heap.push { cls := .type "tuple", data := .seq items.toList.reverse.toArray } }) (hsz : items.size ≤ sizeLine) : wpAny (model prog w) A (getItem (.ref t) (.ref sl)) Q E s := by
  have hz : sizeOk (.seq items.toList.reverse.toArray) := by
    show items.toList.reverse.toArray.size ≤ sizeLine
    rw [List.size_toArray, List.length_reverse, Array.length_toList]
    exact hsz
  obtain ⟨ob, hob, hcb, _⟩ := id hs
  have tys : s.TypeIs (.ref sl) "slice" := ⟨ob, hob, hcb⟩
  unfold getItem
  try with_reducible refine wpAny_holding ?_
  first | refine wpAny_bind (wpAny_pure ?_) | skip
  refine wpAny_bind (wpAny_sequenceKey ht.typeIs (by decide) ?_)
  refine wpAny_bind (wpAny_callSpecial?_slot (name := Str.ofString "__getitem__") ht.typeIs PyProof.Rows.slot_tuple_getitem (wpAny_call_entry PyProof.Rows.slot_tuple_getitem ht.typeIs entry_tuple_getitem ?_ (args_tuple_getitem _ _)))
  show wpAny _ _ (Builtin.Tuple.tupleItemsOf (.ref t) >>= _) _ _ s
  refine wpAny_bind (tupleItemsOf_ ht (wpAny_bind (wpAny_typeOf tys ?_)))
  rw [if_pos (by decide)]
  refine wpAny_bind (applied_back hs ?_)
  show wpAny _ _ (if ((items.size : Int) - 1 == 0 && (-1 : Int) == 1 && items.size == items.size) = true then _ else _) _ _ s
  rw [if_neg (by simp), pick_back]
  first
    | exact wpAny_bind (m := Builtin.Tuple.tupleExact _) (wpAny_newObj_type (wpAny_pure ⟨_, rfl, wpAny_pure h⟩) hz)
    | exact wpAny_bind (m := Builtin.Tuple.tupleExact _) (wpAny_newObj_type (wpAny_bind (wpAny_pure (wpAny_pure ⟨_, rfl, wpAny_pure h⟩))) hz)
    | exact wpAny_bind (wpAny_bind (m := Builtin.Tuple.tupleExact _) (wpAny_newObj_type (wpAny_pure (wpAny_pure ⟨_, rfl, wpAny_pure h⟩)) hz))
    | exact wpAny_bind (wpAny_bind (m := Builtin.Tuple.tupleExact _) (wpAny_newObj_type (wpAny_pure ⟨_, rfl, wpAny_pure h⟩) hz))
end
end HT
namespace DL
open PySem PySem.Spec PyProof.Rows L2
def opRev : D → Option D
  | .tup ds => some (.tup ds.reverse)
  | .lst ds => some (.lst ds.reverse)
  | _ => none
section
variable {X : Cx} {C : Addr} {O : List Nat} {e b : Expr} {f g : DF}
/-- x[::-1] of a tuple, a list -/
theorem de_rev {k : Nat} {p1 p2 p3 pos : Pos} (he : DE X C O e f) : DE X C O (.Subscript e (.Slice none none (some (.UnaryOp .USub (.Constant (.int 1) k p1) p2)) p3) pos) (d1 opRev f) := by
  refine ⟨fun pins s σ H Q I ⟨F, ρ, d, E, hf, kk⟩ => ?_⟩
  obtain ⟨x0, hx0, ho⟩ := bind_some hf
  refine Subscript_ (thn (he.run pins s σ H (fun v H1 => ∃ F1, Stp F H F1 H1 ∧ Rp X.K C F1 x0 v) I ⟨F, ρ, x0, E, hx0, fun v F1 H1 s1 r1 => ⟨F1, s1, r1⟩⟩) fun v s1 ⟨x, H1, I1, r1, F1, st1, rp1⟩ => ?_)
  have hst : PO X (some (.UnaryOp .USub (.Constant (.int 1) k p1) p2)) (tPart (tUn (rU fun i => .int (-i)) (tC (.int 1)))) := po_some (pe_un un_neg pe_int)
  refine wpAny_Slice (thn (po_none.run pins s1 σ H1 (fun o H2 => o = none ∧ H2 = H1) I1 ⟨rfl, rfl⟩) fun vl s2 ⟨l, H2, I2, pl, el, e2⟩ => ?_)
  subst el e2
  refine thn (po_none.run pins s2 σ H2 (fun o H3 => o = none ∧ H3 = H2) I2 ⟨rfl, rfl⟩) fun vu s3 ⟨u, H3, I3, pu, eu, e3⟩ => ?_
  subst eu e3
  refine thn (hst.run pins s3 σ H3 (fun o H4 => o = some (-1) ∧ H4 = H3) I3 ⟨1, rfl, -1, rfl, rfl, rfl⟩) fun vs s4 ⟨o, H4, I4, ps, eo, e4⟩ => ?_
  subst eo e4
  have I5 : Inv X pins σ H4 { s4 with heap := s4.heap.push { cls := .type "slice", data := .fields #[vl, vu, vs] } } := I4.kept (t' := s4.toks) fun b ob q => Heap.get?_push_of_some _ q
  cases pl
  cases pu
  cases ps with
  | int _ tk =>
  cases x0 with
  | tup ds =>
    cases ho
    obtain ⟨a, xs, rfl, ha, hl⟩ := rp1
    cases r1
    obtain ⟨its, r, ht, hz⟩ := I5.tuple (SqT.of (st1.fh _ _ ha))
    have hlen : its.toArray.size = xs.length := by rw [List.size_toArray]; exact r.length.symm
    refine tail_any (ops := [.ref a, .ref s4.heap.objs.size]) ht.typeIs PyProof.Rows.slot_tuple_getitem.lookup ?_ (by with_unfolding_all rfl)
    refine HT.getItem_tuple_back (tk := tk) ht (Heap.IsSliceOf.new _ .none .none (.int (-1) tk)) ?_ (by rw [hlen]; exact hz)
    have hn := I5.hok.fresh (Nat.le_refl _)
    refine ⟨.ref _, _, I5.laid (t' := s4.toks) (o := .tup xs.reverse) (fun b ob q => Heap.get?_push_of_some _ q) (Nat.le_refl _) ?_, rfl, kk _ _ _ (st1.trans (Stp.new st1.fh hn)) ⟨_, xs.reverse, rfl, upd_same, RpL.mono (same_upd (none_of_same st1.fh hn)) _ _ (RpL.rev hl)⟩⟩
    exact ⟨by rw [List.length_reverse]; exact hz, _, r.reverse, IsTup.new _ _⟩
  | lst ds =>
    cases ho
    obtain ⟨a, xs, rfl, ha, hl⟩ := rp1
    cases r1
    obtain ⟨its, r, ht, hz⟩ := I5.list (SqL.of (st1.fh _ _ ha))
    have hlen := r.length
    refine tail_any (ops := [.ref a, .ref s4.heap.objs.size]) ht.isList.typeIs (PySem.slot_list_getitem.lookup) ?_ (by with_unfolding_all rfl)
    refine wpAny_getItem_list_slice ht.isList (Heap.IsSliceOf.new _ .none .none (.int (-1) tk)) .none .none (.int (-1) tk) (by decide) ?_ (by rw [List.size_toArray]; omega)
    rw [PySem.W.krv_pick]
    have hn := I5.hok.fresh (Nat.le_refl _)
    refine ⟨.ref _, _, I5.laid (t' := s4.toks) (o := .lst xs.reverse) (fun b ob q => Heap.get?_push_of_some _ q) (Nat.le_refl _) ?_, rfl, kk _ _ _ (st1.trans (Stp.new st1.fh hn)) ⟨_, xs.reverse, rfl, upd_same, RpL.mono (same_upd (none_of_same st1.fh hn)) _ _ (RpL.rev hl)⟩⟩
    exact ⟨by rw [List.length_reverse]; exact hz, _, 0, r.reverse, Heap.get?_push_size _ rfl⟩
  | _ => cases ho
end
end DL
namespace DL
open PySem PySem.Spec PyProof.Rows L2
inductive Kd
  | l
  | t
def ItrK (k : Kd) (h : Heap) (it a : Addr) (i : Nat) : Prop := match k with
  | .l => h.IsListIter it a i
  | .t => h.IsTupleIter it a i
def obK (k : Kd) (a : Addr) : Obj := match k with
  | .l => { cls := .type "list_iterator", data := .fields #[.ref a, .int 0 0] }
  | .t => { cls := .type "tuple_iterator", data := .fields #[.ref a, .int 0 0] }
theorem ItrK.start {k : Kd} {h : Heap} {it a : Addr} (g : h.get? it = some (obK k a)) : ItrK k h it a 0 := by
  cases k
  · exact ⟨_, g, rfl, rfl⟩
  · exact ⟨_, g, rfl, rfl⟩
theorem ItrK.at {k : Kd} {h h' : Heap} {it a : Addr} {i : Nat} (g : ItrK k h it a i) (f : ∀ o, h.get? it = some o → h'.get? it = some o) : ItrK k h' it a i := by
  cases k
  · exact Heap.IsListIter.at g f
  · exact Heap.IsTupleIter.at g f
section
variable {K : PySem.W.Frag} {C : Addr} {F H : Hp} {a b : Addr} {xs ys : List V} {ds es : List D}
def InK (F : Hp) (k : Kd) (a : Addr) (us : List V) : Prop := (k = Kd.l ∧ F a = some (.lst us)) ∨ (k = Kd.t ∧ F a = some (.tup us))
end
section
variable {X : Cx} {C : Addr} {O : List Nat} {e e2 e3 : Expr} {fs : DFs} {p pos tpos : Pos} {elts : List Expr} {kk : Nat}
theorem InK.mono {F F1 : Hp} {k : Kd} {a : Addr} {us : List V} (h : InK F k a us) (s : Same F F1) : InK F1 k a us := by
  rcases h with ⟨rfl, h⟩ | ⟨rfl, h⟩
  · exact .inl ⟨rfl, s _ _ h⟩
  · exact .inr ⟨rfl, s _ _ h⟩
end
end DL
namespace DL
open PySem PySem.Spec PyProof.Rows L2
end DL
namespace DL
open PySem PySem.Spec PyProof.Rows L2
end DL
namespace DL
open PySem PySem.Spec PyProof.Rows L2
end DL
namespace DL
open PySem PySem.Spec PyProof.Rows L2
end DL
namespace DL
open PySem PySem.Spec PyProof.Rows L2
end DL
namespace DL
open PySem PySem.Spec PyProof.Rows L2
end DL
namespace DL
open PySem PySem.Spec PyProof.Rows L2
abbrev KVI := List (List Int × Int)
def valI (kvs : KVI) (k : List Int) : Option Int := (kvs.find? fun p => decide (p.1 = k)).map (·.2)
def putI (kvs : KVI) (k : List Int) (v : Int) : KVI := if (kvs.any fun p => decide (p.1 = k)) = true then kvs.map (fun p => if p.1 = k then (p.1, v) else p) else kvs ++ [(k, v)]
def HasD (i : Nat) (σ : L2.St) (H0 F H : Hp) (kvs : KVI) : Prop := ∃ p, σ[i]? = some (some (.ref p)) ∧ H p = some (.dT (encD kvs)) ∧ F p = none ∧ H0 p = none
abbrev D3 := Rho → KVI → Option (Rho × KVI)
def t3 (K : PySem.W.Frag) (C : Addr) (i : Nat) (f : D3) : TS := fun Z σ H => ∃ F0 H0 F ρ kvs r, Sn K C [] F0 H0 F H σ ρ ∧ lk ρ i = none ∧ HasD i σ H0 F H kvs ∧ f ρ kvs = some r ∧
  ∀ σ' F' H', Sn K C [] F0 H0 F' H' σ' r.1 → lk r.1 i = none → HasD i σ' H0 F' H' r.2 → Same F F' → Z.nx σ' H'
theorem HasD.step {i : Nat} {σ : L2.St} {H0 F H F' H' : Hp} {kvs : KVI} (h : HasD i σ H0 F H kvs) (s : Stp F H F' H') : HasD i σ H0 F' H' kvs := by
  obtain ⟨p, h1, h2, h3, h4⟩ := h
  exact ⟨p, h1, s.hh _ _ h2, (s.old _ _ h2).trans h3, h4⟩
end DL
namespace DL
open PySem PySem.Spec PyProof.Rows L2
/-- what the loop needs of the list -/
structure Mds (H : Hp) (p : Addr) (vs : List V) (inner : Addr → Prop) : Prop where
  hp : H p = some (.lst vs)
  np : ¬ inner p
  el : ∀ v ∈ vs, ∃ a i j u, v = .ref a ∧ ¬ inner a ∧ H a = some (.tup [.int i, .int j, u]) ∧ (u = .non ∨ ∃ q, u = .ref q ∧ inner q)
  ln : ∀ q, inner q → ∃ ws, H q = some (.lst ws) ∧ ws.length ≤ 1000000
theorem Mds.mono {H H' : Hp} {p : Addr} {vs : List V} {inner : Addr → Prop} (h : Mds H p vs inner) (s : Same H H') : Mds H' p vs inner := by
  refine ⟨s _ _ h.hp, h.np, fun v hv => ?_, fun q hq => ?_⟩
  · obtain ⟨a, i, j, u, e, n, ha, hu⟩ := h.el v hv
    exact ⟨a, i, j, u, e, n, s _ _ ha, hu⟩
  · obtain ⟨ws, hw, hl⟩ := h.ln q hq
    exact ⟨ws, s _ _ hw, hl⟩
end DL
namespace DL
open PySem PySem.Spec PyProof.Rows L2
section
variable {X : Cx} {C : Addr} {O : List Nat} {e : Expr} {f : DF} {pos p p' p2 p3 : Pos}
theorem isi2_tab {K : PySem.W.Frag} {t : String} {b : Bool} (h1 : PySem.W.kitOne K (.type t) (.type "list") = some (t == "list")) (h2 : PySem.W.kitOne K (.type t) (.type "tuple") = some (t == "tuple")) (hb : b = (t == "list" || t == "tuple")) : PySem.W.kitAny K (.type t) [.type "list", .type "tuple"] = some b := by
  subst hb
  refine kitAny_cons h1 (fun e => ?_) fun e => by rw [e, Bool.true_or]
  rw [e, Bool.false_or]
  exact kitAny_cons h2 (fun e => by rw [e]; exact kitAny_nil) fun e => e
theorem de_isiLT {k : Nat} (ha : DE X C O e f) (hg : Gl X "isinstance") (hm : X.mg "isinstance" = none) (hgl : Gl X "list") (hml : X.mg "list" = none) (hgt : Gl X "tuple") (hmt : X.mg "tuple" = none)
    (he : starEach [e, .Tuple [.Name "list" p', .Name "tuple" p2] k p3] X.env = (false, eval e X.env) :: starEach [.Tuple [.Name "list" p', .Name "tuple" p2] k p3] X.env := by rfl) (he2 : starEach [.Tuple [.Name "list" p', .Name "tuple" p2] k p3] X.env = (false, eval (.Tuple [.Name "list" p', .Name "tuple" p2] k p3) X.env) :: starEach [] X.env := by rfl)
    (h3 : starEach [.Name "list" p', .Name "tuple" p2] X.env = (false, eval (.Name "list" p') X.env) :: starEach [.Name "tuple" p2] X.env := by rfl) (h4 : starEach [.Name "tuple" p2] X.env = (false, eval (.Name "tuple" p2) X.env) :: starEach [] X.env := by rfl)
    (hpl : (backTo pos (starEach [.Tuple [.Name "list" p', .Name "tuple" p2] k p3] X.env)).any (·.1) = false := by rfl) :
    DE X C O (.Call (.Name "isinstance" p) [e, .Tuple [.Name "list" p', .Name "tuple" p2] k p3] [] pos) (d1 opIsiLT f) := by
  have p1 : PE X (.Name "list" p') (tC (.ty "list")) := pe_bltn hgl hml bt_list rfl (by decide) (by decide)
  have q1 : PE X (.Name "tuple" p2) (tC (.ty "tuple")) := pe_bltn hgt hmt bt_tuple rfl (by decide) (by decide)
  refine PEw (pe_callB call_isiT hg hm PyProof.Rows.boot_isinstance (pa_cons ha (pa_cons (pe_tup (x1 := k) (pa_cons p1 (pa_cons q1 pa_nil h4) h3)) pa_nil he2) he) (by decide) (by decide) he hpl) fun σ H Q ⟨F, ρ, t, E, hf, kk⟩ => ?_
  obtain ⟨d, h1, hf1⟩ := bind_some hf
  refine ⟨F, ρ, d, E, h1, fun v F1 H1 s1 r1 => ⟨by rw [sizeLine_eq]; decide, fun a ha => ?_⟩⟩
  have s2 := Stp.new (o := .tup [.ty "list", .ty "tuple"]) s1.fh ha
  have sm : Same H1 (upd H1 a (.tup [.ty "list", .ty "tuple"])) := s2.hh
  obtain ⟨l1, l2, l3, l4, l5, l6⟩ := isi_tab (K := X.K) (T := "list") (by simp)
  obtain ⟨t1, t2, t3, t4, t5, t6⟩ := isi_tab (K := X.K) (T := "tuple") (by simp)
  have go : ∀ {t' : String} {b : Bool}, TyOf X.K (upd H1 a (.tup [.ty "list", .ty "tuple"])) v (.type t') → PySem.W.kitAny X.K (.type t') [.type "list", .type "tuple"] = some b → t = .bl b → rIsiT X.K [v, .ref a] (upd H1 a (.tup [.ty "list", .ty "tuple"])) Q := fun {t' b} ty hk e => by
    subst e
    exact ⟨v, a, _, .type t', _, b, rfl, upd_same, .cons (.ty "list") (.cons (.ty "tuple") .nil), .base ty, hk, kk _ _ _ (s1.trans s2) rfl⟩
  cases d with
  | non =>
    cases hf1
    have e : v = .non := r1
    subst e
    exact go .non (isi2_tab l1 t1 rfl) rfl
  | bl b =>
    cases hf1
    have e : v = .bl b := r1
    subst e
    exact go (.bl b) (isi2_tab l2 t2 rfl) rfl
  | int i =>
    cases hf1
    have e : v = .int i := r1
    subst e
    exact go (.int i) (isi2_tab l3 t3 rfl) rfl
  | str z =>
    cases hf1
    have e : v = .str z := r1
    subst e
    exact go (.str z) (isi2_tab l4 t4 rfl) rfl
  | tup ds =>
    cases hf1
    obtain ⟨b, xs, rfl, hb, _⟩ := r1
    exact go (.tup (sm _ _ (s1.fh _ _ hb))) (isi2_tab l5 t5 rfl) rfl
  | lst ds =>
    cases hf1
    obtain ⟨b, xs, rfl, hb, _⟩ := r1
    exact go (.lst (sm _ _ (s1.fh _ _ hb))) (isi2_tab l6 t6 rfl) rfl
  | bell _ => cases hf1
  | scr _ => cases hf1
  | ext _ => cases hf1
end
theorem fn_none {P : Program} {w : World} {K : PySem.W.Frag} {mg : Str → Option Value} {base : Heap} {C : Addr} {k : Nat} {f : Addr} {fd : FuncData} {ps : List Str} : FnOk P w K mg base CX0 k f fd ps (spD K C fun _ => none) :=
  ⟨fun _ _ _ _ ⟨_, _, _, _, _, h, _⟩ => (by cases h), fun _ _ _ _ _ _ _ _ _ _ _ _ _ ⟨_, _, _, _, _, h, _⟩ => (by cases h)⟩
end DL
namespace Mi
open DL
def m_gcd_b1 : DS := (dPar 0 1 (dv 1) (d2 opMod (dv 0) (dv 1)))
def m_gcd : List D → Option D := runD 2 2 ((dSeq (dWhile (bV (d2 opGt (dv 1) (dc (.int 0)))) m_gcd_b1)
    (dRet (dv 0))))
def m_law_cell : List D → Option D := runD 2 2 ((dSeq (dIfS (bV (d2 opLt (dv 1) (dL opLen (dcons (dv 0) dnil)))) (dRet (d2 opIx (dv 0) (dv 1))) dNx)
    (dSeq (dIfS (bV (d2 opEq (dL opLen (dcons (dv 0) dnil)) (dc (.int 0)))) (dRet (d2 opAdd (d2 opMul (dc (.int 7919)) (dv 1)) (dc (.int 101)))) dNx)
    (dRet (d2 opAdd (d2 opMod (d2 opIx (dv 0) (d2 opMod (dv 1) (dL opLen (dcons (dv 0) dnil)))) (dc (.int 1000003))) (d2 opMul (dc (.int 7919)) (dv 1)))))))
def m_law_digits_b1 : DS := (dSeq (dSet 9 (d2 opMul (d2 opMod (dv 5) (d2 opIx (dv 4) (d2 opMod (dv 8) (dc (.int 8))))) (d2 opAdd (dc (.int 48271)) (d2 opMul (d2 opMul (dc (.int 2)) (dv 8)) (dv 8)))))
    (dSeq (dSet 9 (d2 opAdd (d2 opAdd (dv 9) (d2 opMul (d2 opMul (dc (.int 7919)) (d2 opAdd (dv 8) (dc (.int 1)))) (d2 opAdd (dv 8) (dc (.int 1))))) (d2 opMul (dc (.int 104729)) (dv 1))))
    (dSeq (dSet 9 (d2 opMod (dv 9) (d2 opIx (dv 4) (d2 opMod (d2 opAdd (d2 opMul (dc (.int 3)) (dv 8)) (dv 1)) (dc (.int 8))))))
    (dSeq (dSet 9 (d2 opMod (d2 opMul (d2 opMul (dv 9) (dv 9)) (dv 9)) (d2 opIx (dv 4) (d2 opMod (d2 opAdd (dv 8) (dc (.int 5))) (dc (.int 8))))))
    (dSeq (dIfS (bV (d2 opGt (dv 6) (dc (.int 0)))) (dSet 9 (dv 6)) dNx)
    (dSeq (dApp 7 (d2 opMod (dv 9) (dv 3)))
    (dSet 6 (d2 opFdiv (dv 6) (dv 3)))))))))
def m_law_digits : List D → Option D := runD 10 4 ((dSeq (dSet 4 (dL opTup (dcons (dc (.int 2147483647)) (dcons (dc (.int 2147483629)) (dcons (dc (.int 2147483587)) (dcons (dc (.int 2147483579)) (dcons (dc (.int 2147483563)) (dcons (dc (.int 2147483549)) (dcons (dc (.int 2147483543)) (dcons (dc (.int 2147483497)) dnil))))))))))
    (dSeq (dSet 5 (dL m_law_cell (dcons (dv 0) (dcons (dv 1) dnil))))
    (dSeq (dSet 6 (dIf (bV (d2 opGe (dv 5) (d2 opPow (dc (.int 10)) (dc (.int 18))))) (dv 5) (dc (.int 0))))
    (dSeq (dSetN 7 (nLst dnil))
    (dSeq (dFor (iRng1 (dcons (dv 2) dnil)) (gN 8) m_law_digits_b1)
    (dRet (dv 7))))))))
def m_law_same_bool : List D → Option D := runD 2 2 ((dRet (dAnd (d1 (opIsi "bool") (dv 0)) (d2 opEq (dv 0) (dv 1)))))
def m_law_gcd_b1 : DS := (dPar 0 1 (dv 1) (d2 opMod (dv 0) (dv 1)))
def m_law_gcd : List D → Option D := runD 2 2 ((dSeq (dWhile (bV (d2 opGt (dv 1) (dc (.int 0)))) m_law_gcd_b1)
    (dRet (dv 0))))
def m_law_lcm : List D → Option D := runD 2 2 ((dRet (d2 opFdiv (d2 opMul (dv 0) (dv 1)) (dL m_law_gcd (dcons (dv 0) (dcons (dv 1) dnil))))))
def m_law_numbers_c1 : DF := (dComp (iRng1 (dcons (dv 1) dnil)) (gN 6) bYes (d2 opIx (dv 3) (d2 opMod (d2 opIx (dv 0) (d2 opAdd (dc (.int 1)) (dv 6))) (dv 4))) [6])
def m_law_numbers_c2 : DF := (dComp (iRng1 (dcons (dv 2) dnil)) (gN 6) bYes (d2 opIx (dv 3) (d2 opMod (d2 opIx (dv 0) (d2 opAdd (dc (.int 6)) (dv 6))) (dv 4))) [6])
def m_law_numbers : List D → Option D := runD 7 3 ((dSeq (dSet 3 (dL opLst (dcons (dc (.int 1)) (dcons (dc (.int 2)) (dcons (dc (.int 3)) (dcons (dc (.int 4)) (dcons (dc (.int 6)) (dcons (dc (.int 8)) (dcons (dc (.int 9)) (dcons (dc (.int 12)) (dcons (dc (.int 5)) (dcons (dc (.int 10)) (dcons (dc (.int 18)) (dcons (dc (.int 30)) dnil))))))))))))))
    (dSeq (dSet 4 (d2 opIx (dL opLst (dcons (dc (.int 4)) (dcons (dc (.int 7)) (dcons (dc (.int 12)) dnil)))) (d2 opMod (d2 opIx (dv 0) (dc (.int 0))) (dc (.int 3)))))
    (dSeq (dSet 5 (dL opTuple (dcons m_law_numbers_c1 dnil)))
    (dRet (dL opTup (dcons (dv 5) (dcons (dL opTuple (dcons m_law_numbers_c2 dnil)) dnil))))))))
def m_law_table_c1 : DF := (dComp (iSeq (dv 1)) (gN 3) bYes (dL m_law_lcm (dcons (dv 2) (dcons (dv 3) dnil))) [3])
def m_law_table_c2 : DF := (dComp (iSeq (dv 0)) (gN 2) bYes (dL opTuple (dcons m_law_table_c1 dnil)) [2])
def m_law_table : List D → Option D := runD 4 2 ((dRet (dL opTuple (dcons m_law_table_c2 dnil))))
def m_law_hidden_b1 : DS := (dSeq (dApp 6 (dIf (bV (d2 opEq (d2 opMod (d2 opIx (dv 1) (d2 opMod (dv 4) (dL opLen (dcons (dv 1) dnil)))) (dv 2)) (dc (.int 0)))) (dc .non) (dv 7)))
    (dSet 4 (d2 opAdd (dv 4) (dc (.int 1)))))
def m_law_hidden_b2 : DS := (dSeq (dSetN 6 (nLst dnil))
    (dSeq (dFor (iSeq (dv 5)) (gN 7) m_law_hidden_b1)
    (dApp 3 (dL opTuple (dcons (dv 6) dnil)))))
def m_law_hidden : List D → Option D := runD 8 3 ((dSeq (dParN1 3 4 (nLst dnil) (dc (.int 0)))
    (dSeq (dFor (iSeq (dv 0)) (gN 5) m_law_hidden_b2)
    (dRet (dL opTuple (dcons (dv 3) dnil))))))
end Mi
namespace Mi
open DL
end Mi
namespace Mi
open DL
end Mi
namespace Mi
open DL
end Mi
namespace Mi
open DL
end Mi
namespace Mi
open DL
end Mi
namespace Mi
open DL
end Mi
namespace Mi
open DL
end Mi
namespace Mi
open DL
end Mi
namespace Mi
open DL
end Mi
namespace Mi
open DL
end Mi
namespace Mi
open DL
end Mi
namespace Mi
open DL
end Mi
namespace Mi
open DL
end Mi
namespace Mi
open DL
def m_is_integer : List D → Option D := runD 3 3 ((dRet (dAnd (d1 (opIsi "int") (dv 0)) (dAnd (dNot (d1 (opIsi "bool") (dv 0))) (dCh opLe opLe (dv 1) (dv 0) (dv 2))))))
end Mi
namespace Mi
open DL
end Mi
namespace Mi
open DL
end Mi
namespace Mi
open DL
end Mi
namespace Mi
open DL
end Mi
namespace Mi
open DL
end Mi
namespace Mi
open DL
end Mi
namespace Mi
open DL
def m_is_table_c1 : DF := (dComp (iSeq (dv 0)) (gN 1) bYes (dAnd (d1 (opIsi "tuple") (dv 1)) (dCh opLe opLe (dc (.int 1)) (dL opLen (dcons (dv 1) dnil)) (dc (.int 5)))) [1])
def m_is_table_c2 : DF := (dComp (iSeq (dv 0)) (gN 1) bYes (dL opLen (dcons (dv 1) dnil)) [1])
def m_is_table_c3 : DF := (dComp2 (iSeq (dv 0)) (gN 1) (iSeq (dv 1)) (gN 2) bYes (dOr (d2 opIs (dv 2) (dc .non)) (dL m_is_integer (dcons (dv 2) (dcons (dc (.int 1)) (dcons (d2 opPow (dc (.int 10)) (dc (.int 6))) dnil))))) [1, 2] [2])
def m_is_table : List D → Option D := runD 3 1 ((dSeq (dIfS (bOr (bNot (bV (d1 (opIsi "tuple") (dv 0)))) (bNot (bV (dCh opLe opLe (dc (.int 1)) (dL opLen (dcons (dv 0) dnil)) (dc (.int 5)))))) (dRet (dc (.bl false))) dNx)
    (dSeq (dIfS (bNot (bV (dL opAll (dcons m_is_table_c1 dnil)))) (dRet (dc (.bl false))) dNx)
    (dSeq (dIfS (bV (d2 opNe (dL opLen (dcons (d1 opSset m_is_table_c2) dnil)) (dc (.int 1)))) (dRet (dc (.bl false))) dNx)
    (dRet (dL opAll (dcons m_is_table_c3 dnil)))))))
def m_law_is_integer : List D → Option D := runD 3 3 ((dRet (dAnd (d1 (opIsi "int") (dv 0)) (dAnd (dNot (d1 (opIsi "bool") (dv 0))) (dCh opLe opLe (dv 1) (dv 0) (dv 2))))))
def m_law_paths_c1 (rc : List D → Option D) : DF := (dComp (iSeq (dL rc (dcons (dv 3) dnil))) (gN 4) bYes (d2 opAdd (dL opTup (dcons (dv 2) dnil)) (dv 4)) [4])
def m_law_paths_b1 (rc : List D → Option D) : DS := (dSet 1 (d2 opAdd (dv 1) (m_law_paths_c1 rc)))
def m_law_paths_f (rc : List D → Option D) : List D → Option D := runD 5 1 ((dSeq (dSet 1 (dL opLst (dcons (dL opTup dnil) dnil)))
    (dSeq (dIfS (bV (d1 opIsiLT (dv 0))) (dFor (iEn (dcons (dv 0) dnil)) (gT (gsCons (gN 2) (gsCons (gN 3) gsNil))) (m_law_paths_b1 rc)) dNx)
    (dRet (dv 1)))))
def m_law_paths_n : Nat → List D → Option D
  | 0 => fun _ => none
  | n + 1 => m_law_paths_f (m_law_paths_n n)
def m_law_paths : List D → Option D := m_law_paths_n 10
def m_law_other_value : List D → Option D := runD 3 2 ((dSeq (dSet 2 (dL opLst (dcons (dc .non) (dcons (dc (.bl true)) (dcons (dc (.bl false)) (dcons (dc (.int 7)) (dcons (d2 opSub (dc (.int 0)) (dc (.int 1))) (dcons (d2 opPow (dc (.int 10)) (dc (.int 39))) (dcons (dc (.str "0")) (dcons (dc (.str "")) (dcons (dL opTup dnil) (dcons (dL opLst dnil) (dcons (dL opTup (dcons (dv 0) dnil)) (dcons (dL opLst (dcons (dv 0) dnil)) (dcons (dL opTup (dcons (dc (.int 0)) dnil)) (dcons (dL opTup (dcons (dc (.int 1)) (dcons (dc (.int 0)) dnil))) (dcons (dc (.int 1)) (dcons (dc (.int 0)) dnil))))))))))))))))))
    (dSeq (dIfS (bAnd (bV (d1 (opIsi "int") (dv 0))) (bNot (bV (d1 (opIsi "bool") (dv 0))))) (dSet 2 (d2 opAdd (dL opLst (dcons (d2 opAdd (dv 0) (dc (.int 1))) (dcons (d2 opSub (dv 0) (dc (.int 1))) (dcons (dL opBool (dcons (dv 0) dnil)) (dcons (d2 opAdd (dv 0) (dc (.int 1))) (dcons (d2 opSub (dv 0) (dc (.int 1))) (dcons (dL opBool (dcons (dv 0) dnil)) dnil))))))) (dv 2))) dNx)
    (dSeq (dIfS (bV (d1 opIsiLT (dv 0))) (dSet 2 (d2 opAdd (dL opLst (dcons (dL opList (dcons (dv 0) dnil)) (dcons (dL opTuple (dcons (dv 0) dnil)) (dcons (dL opTuple (dcons (d1 opRev (dv 0)) dnil)) (dcons (dL opList (dcons (dv 0) dnil)) dnil))))) (dv 2))) dNx)
    (dRet (d2 opIx (dv 2) (d2 opMod (d2 opIx (dv 1) (dc (.int 1))) (dL opLen (dcons (dv 2) dnil)))))))))
def m_law_moved_item : List D → Option D := runD 5 3 ((dSeq (dSet 3 (d2 opMod (d2 opIx (dv 2) (dc (.int 2))) (dL opLen (dcons (dv 0) dnil))))
    (dSeq (dIfS (bV (d2 opEq (d2 opMod (d2 opIx (dv 2) (dc (.int 0))) (dc (.int 3))) (dc (.int 0)))) (dRet (d2 opAdd (dSl (dv 0) oNo (oIx (dv 1))) (dSl (dv 0) (oIx (d2 opAdd (dv 1) (dc (.int 1)))) oNo))) dNx)
    (dSeq (dIfS (bV (d2 opEq (d2 opMod (d2 opIx (dv 2) (dc (.int 0))) (dc (.int 3))) (dc (.int 1)))) (dRet (d2 opAdd (d2 opAdd (dSl (dv 0) oNo (oIx (dv 3))) (dL opLst (dcons (d2 opIx (dv 0) (dv 1)) dnil))) (dSl (dv 0) (oIx (dv 3)) oNo))) dNx)
    (dSeq (dSet 4 (d2 opAdd (dSl (dv 0) oNo (oIx (dv 1))) (dSl (dv 0) (oIx (d2 opAdd (dv 1) (dc (.int 1)))) oNo)))
    (dRet (d2 opAdd (d2 opAdd (dSl (dv 4) oNo (oIx (dv 3))) (dL opLst (dcons (d2 opIx (dv 0) (dv 1)) dnil))) (dSl (dv 4) (oIx (dv 3)) oNo))))))))
def m_law_change_at_f (rc : List D → Option D) : List D → Option D := runD 4 3 ((dSeq (dIfS (bV (d2 opEq (dv 1) (dL opTup dnil))) (dRet (dL m_law_other_value (dcons (dv 0) (dcons (dv 2) dnil)))) dNx)
    (dSeq (dSetN 3 (nOf (dv 0)))
    (dSeq (dIfS (bAnd (bV (d2 opEq (dL opLen (dcons (dv 1) dnil)) (dc (.int 1)))) (bV (d2 opEq (d2 opMod (d2 opIx (dv 2) (dc (.int 3))) (dc (.int 2))) (dc (.int 0))))) (dSet 3 (dL m_law_moved_item (dcons (dv 3) (dcons (d2 opIx (dv 1) (dc (.int 0))) (dcons (dv 2) dnil))))) (dSetIx 3 (d2 opIx (dv 1) (dc (.int 0))) (dL rc (dcons (d2 opIx (dv 3) (d2 opIx (dv 1) (dc (.int 0)))) (dcons (dSl (dv 1) (oIx (dc (.int 1))) oNo) (dcons (dv 2) dnil))))))
    (dRet (dIf (bV (d1 (opIsi "list") (dv 0))) (dv 3) (dL opTuple (dcons (dv 3) dnil))))))))
def m_law_change_at_n : Nat → List D → Option D
  | 0 => fun _ => none
  | n + 1 => m_law_change_at_f (m_law_change_at_n n)
def m_law_change_at : List D → Option D := m_law_change_at_n 10
def m_law_mutated : List D → Option D := runD 3 2 ((dSeq (dSet 2 (dL m_law_paths (dcons (dv 0) dnil)))
    (dRet (dL m_law_change_at (dcons (dv 0) (dcons (d2 opIx (dv 2) (d2 opMod (d2 opIx (dv 1) (dc (.int 4))) (dL opLen (dcons (dv 2) dnil)))) (dcons (dv 1) dnil)))))))
def m_law_any_value_c1 (rc : List D → Option D) : DF := (dComp (iRng1 (dcons (d2 opMod (d2 opIx (dv 0) (d2 opAdd (dv 1) (dc (.int 4)))) (dc (.int 4))) dnil)) (gN 5) bYes (dL rc (dcons (d2 opAdd (dSl (dv 0) (oIx (dv 5)) oNo) (dSl (dv 0) oNo (oIx (dv 5)))) (dcons (d2 opAdd (dv 1) (dc (.int 1))) dnil))) [5])
def m_law_any_value_f (rc : List D → Option D) : List D → Option D := runD 6 2 ((dSeq (dSet 2 (d2 opMod (d2 opIx (dv 0) (dv 1)) (dc (.int 12))))
    (dSeq (dSet 3 (d2 opIx (dL opLst (dcons (d2 opSub (d2 opMod (d2 opIx (dv 0) (d2 opAdd (dv 1) (dc (.int 1)))) (dc (.int 12))) (dc (.int 2))) (dcons (d2 opSub (dc (.int 0)) (d2 opPow (dc (.int 10)) (dc (.int 39)))) (dcons (d2 opPow (dc (.int 10)) (dc (.int 39))) dnil)))) (d2 opMod (d2 opIx (dv 0) (d2 opAdd (dv 1) (dc (.int 2)))) (dc (.int 3)))))
    (dSeq (dIfS (bOr (bV (d2 opLt (dv 2) (dc (.int 4)))) (bV (d2 opGt (dv 1) (dc (.int 3))))) (dRet (dv 3)) dNx)
    (dSeq (dIfS (bV (d2 opLt (dv 2) (dc (.int 7)))) (dRet (d2 opIx (dL opLst (dcons (dc (.bl true)) (dcons (dc (.bl false)) (dcons (dc .non) dnil)))) (d2 opSub (dv 2) (dc (.int 4))))) dNx)
    (dSeq (dIfS (bV (d2 opLt (dv 2) (dc (.int 9)))) (dRet (d2 opIx (dL opLst (dcons (dc (.str "")) (dcons (dc (.str "0")) (dcons (dc (.str "a")) (dcons (dc (.str "ax")) (dcons (dc (.str "3")) (dcons (dc (.str "none")) (dcons (dc (.str "A")) (dcons (dc (.str "~")) dnil))))))))) (d2 opMod (d2 opIx (dv 0) (d2 opAdd (dv 1) (dc (.int 3)))) (dc (.int 8))))) dNx)
    (dSeq (dSet 4 (m_law_any_value_c1 rc))
    (dRet (dIf (bV (d2 opEq (dv 2) (dc (.int 9)))) (dv 4) (dL opTuple (dcons (dv 4) dnil)))))))))))
def m_law_any_value_n : Nat → List D → Option D
  | 0 => fun _ => none
  | n + 1 => m_law_any_value_f (m_law_any_value_n n)
def m_law_any_value : List D → Option D := m_law_any_value_n 10
def m_law_is_table_c1 : DF := (dComp (iSeq (dv 1)) (gN 2) (bAnd (bV (d2 opIsNot (dv 2) (dc .non))) (bNot (bV (dL m_law_is_integer (dcons (dv 2) (dcons (dc (.int 1)) (dcons (d2 opPow (dc (.int 10)) (dc (.int 6))) dnil))))))) (dv 2) [2])
def m_law_is_table_b1 : DS := (dSeq (dIfS (bOr (bNot (bV (d1 (opIsi "tuple") (dv 1)))) (bOr (bNot (bV (dCh opLe opLe (dc (.int 1)) (dL opLen (dcons (dv 1) dnil)) (dc (.int 5))))) (bV (d2 opNe (dL opLen (dcons (dv 1) dnil)) (dL opLen (dcons (d2 opIx (dv 0) (dc (.int 0))) dnil)))))) (dRet (dc (.bl false))) dNx)
    (dIfS (bV (d2 opNe m_law_is_table_c1 (dL opLst dnil))) (dRet (dc (.bl false))) dNx))
def m_law_is_table : List D → Option D := runD 3 1 ((dSeq (dIfS (bOr (bNot (bV (d1 (opIsi "tuple") (dv 0)))) (bNot (bV (dCh opLe opLe (dc (.int 1)) (dL opLen (dcons (dv 0) dnil)) (dc (.int 5)))))) (dRet (dc (.bl false))) dNx)
    (dSeq (dFor (iSeq (dv 0)) (gN 1) m_law_is_table_b1)
    (dRet (dc (.bl true))))))
def m_k01_b1 : DS := (dSeq (dSet 8 (dSl (dv 3) (oIx (d2 opMul (dc (.int 5)) (dv 7))) (oIx (d2 opAdd (d2 opMul (dc (.int 5)) (dv 7)) (dc (.int 5))))))
    (dSeq (dSet 9 (dL m_law_mutated (dcons (dv 6) (dcons (dv 8) dnil))))
    (dSet 1 (d2 opAdd (dv 1) (dL opLst (dcons (dv 9) (dcons (dL m_law_mutated (dcons (dv 9) (dcons (d1 opRev (dv 8)) dnil))) (dcons (dL m_law_any_value (dcons (d2 opAdd (dSl (dv 3) (oIx (dv 7)) oNo) (dSl (dv 3) oNo (oIx (dv 7)))) (dcons (dc (.int 0)) dnil))) dnil))))))))
def m_k01_b2 : DS := (dIfS (bNot (bV (dL m_law_same_bool (dcons (dL m_is_table (dcons (dv 10) dnil)) (dcons (dL m_law_is_table (dcons (dv 10) dnil)) dnil))))) (dRet (dc (.bl false))) dNx)
def m_k01_b3 : DS := (dSeq (dSet 3 (dL m_law_digits (dcons (dv 0) (dcons (dv 2) (dcons (dc (.int 60)) (dcons (dc (.int 27720)) dnil))))))
    (dSeq (dAsg (gT (gsCons (gN 4) (gsCons (gN 5) gsNil))) (dL m_law_numbers (dcons (dv 3) (dcons (d2 opAdd (dc (.int 1)) (d2 opMod (d2 opIx (dv 3) (dc (.int 50))) (dc (.int 5)))) (dcons (d2 opAdd (dc (.int 1)) (d2 opMod (d2 opIx (dv 3) (dc (.int 51))) (dc (.int 5)))) dnil)))))
    (dSeq (dSet 6 (dL m_law_hidden (dcons (dL m_law_table (dcons (dv 4) (dcons (dv 5) dnil))) (dcons (dSl (dv 3) (oIx (dc (.int 20))) oNo) (dcons (dc (.int 4)) dnil)))))
    (dSeq (dFor (iRng1 (dcons (dc (.int 8)) dnil)) (gN 7) m_k01_b1)
    (dFor (iSeq (d2 opAdd (dv 1) (dL opLst (dcons (dv 6) dnil)))) (gN 10) m_k01_b2)))))
def m_k01 : List D → Option D := runD 11 1 ((dSeq (dSet 1 (dL opLst (dcons (dL opTup dnil) (dcons (dL opTup (dcons (dL opTup dnil) dnil)) (dcons (dL opTup (dcons (dL opTup (dcons (dc (.int 1)) dnil)) dnil)) (dcons (dL opTup (dcons (dL opTup (dcons (dc (.int 1)) (dcons (dc (.int 2)) dnil))) (dcons (dL opTup (dcons (dc (.int 3)) dnil)) dnil))) (dcons (dL opTup (dcons (dL opTup (dcons (d2 opPow (dc (.int 10)) (dc (.int 6))) dnil)) dnil)) (dcons (dL opTup (dcons (dL opTup (dcons (d2 opAdd (d2 opPow (dc (.int 10)) (dc (.int 6))) (dc (.int 1))) dnil)) dnil)) (dcons (dL opTup (dcons (dL opTup (dcons (dc (.int 0)) dnil)) dnil)) (dcons (dL opTup (dcons (dL opTup (dcons (d1 opNeg (dc (.int 1))) dnil)) dnil)) (dcons (d2 opMul (dL opTup (dcons (dL opTup (dcons (dc (.int 1)) dnil)) dnil)) (dc (.int 5))) dnil)))))))))))
    (dSeq (dSet 1 (d2 opAdd (dv 1) (dL opLst (dcons (d2 opMul (dL opTup (dcons (dL opTup (dcons (dc (.int 1)) dnil)) dnil)) (dc (.int 6))) (dcons (dL opTup (dcons (d2 opMul (dL opTup (dcons (dc (.int 1)) dnil)) (dc (.int 5))) dnil)) (dcons (dL opTup (dcons (d2 opMul (dL opTup (dcons (dc (.int 1)) dnil)) (dc (.int 6))) dnil)) (dcons (dL opLst (dcons (dL opLst (dcons (dc (.int 1)) dnil)) dnil)) (dcons (dL opTup (dcons (dL opLst (dcons (dc (.int 1)) dnil)) dnil)) (dcons (dL opTup (dcons (dL opTup (dcons (dc (.bl true)) dnil)) dnil)) (dcons (dL opTup (dcons (dL opTup (dcons (dc .non) dnil)) dnil)) dnil))))))))))
    (dSeq (dSet 1 (d2 opAdd (dv 1) (dL opLst (dcons (dL opTup (dcons (dL opTup (dcons (dc (.int 1)) (dcons (dc .non) dnil))) (dcons (dL opTup (dcons (dc .non) (dcons (dc (.int 2)) dnil))) dnil))) (dcons (dc .non) (dcons (dc (.int 5)) (dcons (dL opTup (dcons (dL opTup (dcons (dc (.int 1)) (dcons (dc (.str "2")) dnil))) dnil)) (dcons (dL opTup (dcons (dL opTup (dcons (dc .non) (dcons (dc .non) dnil))) (dcons (dL opTup (dcons (dc .non) dnil)) dnil))) dnil))))))))
    (dSeq (dFor (iSeq (dL opTup (dcons (dc (.int 0)) (dcons (dc (.int 1)) (dcons (dc (.int 2)) (dcons (dc (.int 3)) dnil)))))) (gN 2) m_k01_b3)
    (dRet (dAnd (d2 opIs (dL m_is_table (dcons (dL opTup (dcons (dL opTup (dcons (dc (.int 12)) (dcons (dc .non) dnil))) (dcons (dL opTup (dcons (dc (.int 4)) (dcons (dc (.int 6)) dnil))) dnil))) dnil)) (dc (.bl true))) (d2 opIs (dL m_is_table (dcons (dL opTup (dcons (dL opTup (dcons (dc (.int 0)) dnil)) dnil)) dnil)) (dc (.bl false))))))))))
end Mi
namespace Mi
open DL
def bnd {α β : Type} (x : Option α) (f : α → Option β) : Option β := x.bind f
@[simp] theorem bnd_some {α β : Type} (x : α) (f : α → Option β) : bnd (some x) f = f x := (rfl)
@[simp] theorem bnd_none {α β : Type} (f : α → Option β) : bnd none f = none := (rfl)
section
variable {ρ : Rho} {x y z : D}
@[simp] theorem p_dc : dc x ρ = some x := (rfl)
@[simp] theorem p_dv (i : Nat) : dv i ρ = lk ρ i := (rfl)
@[simp] theorem lk_z (a : Option D) (r : Rho) : lk (a :: r) 0 = a := (rfl)
@[simp] theorem lk_s (a : Option D) (r : Rho) (n : Nat) : lk (a :: r) (n + 1) = lk r n := (rfl)
@[simp] theorem st_z (a : Option D) (r : Rho) : st (a :: r) 0 x = some x :: r := (rfl)
@[simp] theorem st_s (a : Option D) (r : Rho) (n : Nat) : st (a :: r) (n + 1) x = a :: st r n x := (rfl)
@[simp] theorem un_z (a : Option D) (r : Rho) : un (a :: r) 0 = none :: r := (rfl)
@[simp] theorem un_s (a : Option D) (r : Rho) (n : Nat) : un (a :: r) (n + 1) = a :: un r n := (rfl)
@[simp] theorem wipe_n : wipeR ρ [] = ρ := (rfl)
@[simp] theorem wipe_c (v : Nat) (vs : List Nat) : wipeR ρ (v :: vs) = un (wipeR ρ vs) v := (rfl)
@[simp] theorem p_d2 (op : D → D → Option D) (f g : DF) : d2 op f g ρ = bnd (f ρ) fun x => bnd (g ρ) fun y => op x y := (rfl)
@[simp] theorem p_d1 (op : D → Option D) (f : DF) : d1 op f ρ = bnd (f ρ) op := (rfl)
@[simp] theorem p_dnil : dnil ρ = some [] := (rfl)
@[simp] theorem p_dcons (f : DF) (g : DFs) : dcons f g ρ = bnd (f ρ) fun x => bnd (g ρ) fun xs => some (x :: xs) := (rfl)
@[simp] theorem p_dL (op : List D → Option D) (f : DFs) : dL op f ρ = bnd (f ρ) op := (rfl)
@[simp] theorem p_asB (b : Bool) : asB (.bl b) = some b := (rfl)
@[simp] theorem p_asI (b : Int) : asI (.int b) = some b := (rfl)
@[simp] theorem p_asL (b : List D) : asL (.lst b) = some b := (rfl)
@[simp] theorem p_asSeqL (b : List D) : asSeq (.lst b) = some b := (rfl)
@[simp] theorem p_asSeqT (b : List D) : asSeq (.tup b) = some b := (rfl)
@[simp] theorem p_bV (f : DF) : bV f ρ = bnd (f ρ) asB := (rfl)
@[simp] theorem p_dB (g : DB) : dB g ρ = bnd (g ρ) fun b => some (.bl b) := (rfl)
@[simp] theorem p_bAnd (g h : DB) : bAnd g h ρ = bnd (g ρ) fun b => if b = true then h ρ else some false := (rfl)
@[simp] theorem p_bOr (g h : DB) : bOr g h ρ = bnd (g ρ) fun b => if b = true then some true else h ρ := (rfl)
@[simp] theorem p_bNot (g : DB) : bNot g ρ = bnd (g ρ) fun b => some (!b) := (rfl)
@[simp] theorem p_dIf (g : DB) (f h : DF) : dIf g f h ρ = bnd (g ρ) fun b => if b = true then f ρ else h ρ := (rfl)
@[simp] theorem p_dAnd (f g : DF) : dAnd f g ρ = bnd (f ρ) fun x => bnd (asB x) fun b => if b = true then g ρ else some (.bl false) := (rfl)
@[simp] theorem p_dOr (f g : DF) : dOr f g ρ = bnd (f ρ) fun x => bnd (asB x) fun b => if b = true then some (.bl true) else g ρ := (rfl)
@[simp] theorem p_dNot (f : DF) : dNot f ρ = bnd (f ρ) fun x => bnd (asB x) fun b => some (.bl (!b)) := (rfl)
@[simp] theorem p_dCh (o o' : D → D → Option D) (f g h : DF) : dCh o o' f g h ρ = bnd (f ρ) fun x => bnd (g ρ) fun y => bnd (o x y) fun z => bnd (asB z) fun k => if k = true then bnd (h ρ) fun w => o' y w else some (.bl false) := (rfl)
@[simp] theorem p_bYes : bYes ρ = some true := (rfl)
@[simp] theorem p_gN (i : Nat) : gN i x ρ = some (st ρ i x) := (rfl)
@[simp] theorem p_gT (h : DGs) (ds : List D) : gT h (.tup ds) ρ = h ds ρ := (rfl)
@[simp] theorem p_gsNil : gsNil [] ρ = some ρ := (rfl)
@[simp] theorem p_gsCons (g : DG) (h : DGs) (r : List D) : gsCons g h (x :: r) ρ = bnd (g x ρ) (h r) := (rfl)
@[simp] theorem p_dNx : dNx ρ = some (.nx ρ) := (rfl)
@[simp] theorem p_dRet (f : DF) : dRet f ρ = bnd (f ρ) fun d => some (.rt d) := (rfl)
@[simp] theorem p_dSet (i : Nat) (f : DF) : dSet i f ρ = bnd (f ρ) fun d => some (.nx (st ρ i d)) := (rfl)
@[simp] theorem p_dIfS (t : DB) (f g : DS) : dIfS t f g ρ = bnd (t ρ) fun b => if b = true then f ρ else g ρ := (rfl)
@[simp] theorem p_dAsg (g : DG) (f : DF) : dAsg g f ρ = bnd (f ρ) fun d => bnd (g d ρ) fun ρ' => some (.nx ρ') := (rfl)
@[simp] theorem p_dPar (i j : Nat) (f g : DF) : dPar i j f g ρ = bnd (f ρ) fun x => bnd (g ρ) fun y => some (.nx (st (st ρ i x) j y)) := (rfl)
@[simp] theorem p_dAug (i : Nat) (f : DF) : dAug i f ρ = bnd (lk ρ i) fun x => bnd (asI x) fun a => bnd (f ρ) fun y => bnd (asI y) fun b => some (.nx (st ρ i (.int (a + b)))) := (rfl)
@[simp] theorem p_dApp (i : Nat) (f : DF) : dApp i f ρ = bnd (f ρ) fun d => bnd (lk ρ i) fun x => bnd (asL x) fun ds => if ds.length < 16777216 then some (.nx (st ρ i (.lst (ds ++ [d])))) else none := (rfl)
@[simp] theorem p_dSetIx (i : Nat) (k f : DF) : dSetIx i k f ρ = bnd (f ρ) fun d => bnd (k ρ) fun j => bnd (asI j) fun n => bnd (lk ρ i) fun x => bnd (asL x) fun ds => bnd (ixNat ds.length n) fun m => some (.nx (st ρ i (.lst (ds.set m d)))) := (rfl)
@[simp] theorem p_nLst (f : DFs) : nLst f ρ = bnd (f ρ) fun ds => if ds.length ≤ 100000 then some ds else none := (rfl)
@[simp] theorem p_nRep (f g : DF) : nRep f g ρ = bnd (f ρ) fun x => bnd (asL x) fun ds => bnd (g ρ) fun y => bnd (asI y) fun k => if k ≤ 16777216 ∧ -16777216 ≤ k ∧ ds.length * k.toNat ≤ 16777216 then some (List.replicate k.toNat ds).flatten else none := (rfl)
@[simp] theorem p_nOf (f : DF) : nOf f ρ = bnd (f ρ) asSeq := (rfl)
@[simp] theorem p_dSetN (i : Nat) (f : DFs) : dSetN i f ρ = bnd (f ρ) fun ds => some (.nx (st ρ i (.lst ds))) := (rfl)
@[simp] theorem p_dParN1 (i j : Nat) (f : DFs) (g : DF) : dParN1 i j f g ρ = bnd (f ρ) fun ds => bnd (g ρ) fun y => some (.nx (st (st ρ i (.lst ds)) j y)) := (rfl)
@[simp] theorem p_dParNN (i j : Nat) (f g : DFs) : dParNN i j f g ρ = bnd (f ρ) fun ds => bnd (g ρ) fun es => some (.nx (st (st ρ i (.lst ds)) j (.lst es))) := (rfl)
@[simp] theorem p_iSeq (f : DF) : iSeq f ρ = bnd (f ρ) asSeq := (rfl)
@[simp] theorem p_iRng1 (f : DFs) : iRng1 f ρ = bnd (f ρ) opRng1 := (rfl)
@[simp] theorem p_iRng2 (f : DFs) : iRng2 f ρ = bnd (f ρ) opRng2 := (rfl)
@[simp] theorem p_oNo : oNo ρ = some none := (rfl)
@[simp] theorem p_oIx (f : DF) : oIx f ρ = bnd (f ρ) fun d => bnd (asIx d) fun i => some (some i) := (rfl)
@[simp] theorem p_dSl (f : DF) (l u : DOx) : dSl f l u ρ = bnd (f ρ) fun x => bnd (l ρ) fun lo => bnd (u ρ) fun hi => opSl lo hi x := (rfl)
@[simp] theorem p_asIx (i : Int) : asIx (.int i) = some i := (rfl)
@[simp] theorem p_opTup (ds : List D) : opTup ds = if ds.length ≤ 100000 then some (.tup ds) else none := (rfl)
@[simp] theorem p_opLst (ds : List D) : opLst ds = if ds.length ≤ 100000 then some (.lst ds) else none := (rfl)
@[simp] theorem p_lenT (ds : List D) : opLen [.tup ds] = some (.int ds.length) := (rfl)
@[simp] theorem p_lenL (ds : List D) : opLen [.lst ds] = some (.int ds.length) := (rfl)
@[simp] theorem p_lenS (ds : List Int) : opLen [.scr ds] = some (.int ds.length) := (rfl)
@[simp] theorem p_tupT (ds : List D) : opTuple [.tup ds] = some (.tup ds) := (rfl)
@[simp] theorem p_tupL (ds : List D) : opTuple [.lst ds] = some (.tup ds) := (rfl)
@[simp] theorem p_add (a b : Int) : opAdd (.int a) (.int b) = some (.int (a + b)) := (rfl)
@[simp] theorem p_sub (a b : Int) : opSub (.int a) (.int b) = some (.int (a - b)) := (rfl)
@[simp] theorem p_mul (a b : Int) : opMul (.int a) (.int b) = if mulOk a b = true then some (.int (a * b)) else none := (rfl)
@[simp] theorem p_lt (a b : Int) : opLt (.int a) (.int b) = some (.bl (decide (a < b))) := (rfl)
@[simp] theorem p_le (a b : Int) : opLe (.int a) (.int b) = some (.bl (decide (a ≤ b))) := (rfl)
@[simp] theorem p_gt (a b : Int) : opGt (.int a) (.int b) = some (.bl (decide (b < a))) := (rfl)
@[simp] theorem p_ge (a b : Int) : opGe (.int a) (.int b) = some (.bl (decide (b ≤ a))) := (rfl)
@[simp] theorem p_eqI (a b : Int) : opEq (.int a) (.int b) = some (.bl (decide (a = b))) := by
  by_cases h : a = b <;> simp [opEq, okD, eqD, h]
@[simp] theorem p_neI (a b : Int) : opNe (.int a) (.int b) = some (.bl (!decide (a = b))) := by
  by_cases h : a = b <;> simp [opNe, okD, eqD, h]
theorem dec_cast {p q : Prop} [Decidable p] [Decidable q] (h : p ↔ q) : some (D.bl (decide p)) = some (D.bl (decide q)) := by simp only [h]
@[simp high] theorem p_eqN (a b : Nat) : opEq (.int (a : Int)) (.int (b : Int)) = some (.bl (decide (a = b))) := by rw [p_eqI]; exact dec_cast (by omega)
@[simp high] theorem p_neN (a b : Nat) : opNe (.int (a : Int)) (.int (b : Int)) = some (.bl (!decide (a = b))) := by
  rw [p_neI]
  have : ((a : Int) = (b : Int)) ↔ a = b := by omega
  simp only [this]
@[simp high] theorem p_ltN (a b : Nat) : opLt (.int (a : Int)) (.int (b : Int)) = some (.bl (decide (a < b))) := by rw [p_lt]; exact dec_cast (by omega)
@[simp high] theorem p_leN (a b : Nat) : opLe (.int (a : Int)) (.int (b : Int)) = some (.bl (decide (a ≤ b))) := by rw [p_le]; exact dec_cast (by omega)
@[simp high] theorem p_gtN (a b : Nat) : opGt (.int (a : Int)) (.int (b : Int)) = some (.bl (decide (b < a))) := by rw [p_gt]; exact dec_cast (by omega)
@[simp high] theorem p_geN (a b : Nat) : opGe (.int (a : Int)) (.int (b : Int)) = some (.bl (decide (b ≤ a))) := by rw [p_ge]; exact dec_cast (by omega)
@[simp] theorem p_isN (d : D) : opIs d .non = some (.bl (isNone d)) := by cases d <;> rfl
@[simp] theorem p_isnN (d : D) : opIsNot d .non = some (.bl (!isNone d)) := by cases d <;> rfl
@[simp] theorem p_isB (a b : Bool) : opIs (.bl a) (.bl b) = some (.bl (decide (a = b))) := (rfl)
@[simp] theorem p_isnB (a b : Bool) : opIsNot (.bl a) (.bl b) = some (.bl (!decide (a = b))) := (rfl)
@[simp] theorem p_isNone_n : isNone .non = true := (rfl)
@[simp] theorem p_isNone_i (i : Int) : isNone (.int i) = false := (rfl)
@[simp] theorem p_isNone_t (i : List D) : isNone (.tup i) = false := (rfl)
@[simp] theorem p_isNone_l (i : List D) : isNone (.lst i) = false := (rfl)
@[simp] theorem p_appL (a b : List D) : opAdd (.lst a) (.lst b) = if a.length + b.length ≤ 16777216 then some (.lst (a ++ b)) else none := (rfl)
@[simp] theorem p_appT (a b : List D) : opAdd (.tup a) (.tup b) = if a.length + b.length ≤ 16777216 then some (.tup (a ++ b)) else none := (rfl)
end
theorem b_mc {α β : Type} (f : α → β) (a : α) (l : List α) : List.map f (a :: l) = f a :: List.map f l := (rfl)
theorem b_mn {α β : Type} (f : α → β) : List.map f [] = [] := (rfl)
theorem b_ac {α : Type} (a : α) (l r : List α) : (a :: l) ++ r = a :: (l ++ r) := (rfl)
theorem b_an {α : Type} (r : List α) : ([] : List α) ++ r = r := (rfl)
theorem b_rs {α : Type} (n : Nat) (a : α) : List.replicate (n + 1) a = a :: List.replicate n a := (rfl)
theorem b_rz {α : Type} (a : α) : List.replicate 0 a = [] := (rfl)
theorem b_lc {α : Type} (a : α) (l : List α) : (a :: l).length = l.length + 1 := (rfl)
theorem b_ln {α : Type} : ([] : List α).length = 0 := (rfl)
theorem b_it {α : Type} (a b : α) : (if True then a else b) = a := by simp
theorem b_if {α : Type} (a b : α) : (if False then a else b) = b := by simp
theorem b_itt {α : Type} (a b : α) : (if true = true then a else b) = a := by simp
theorem b_iff {α : Type} (a b : α) : (if false = true then a else b) = b := by simp
theorem mod_i {a : Int} {b : Nat} (h : 0 < b) : opMod (.int a) (.int b) = some (.int (a % b)) := by
  have h' : (0 : Int) < b := by omega
  simp only [opMod, if_pos h']
theorem mul_i {a b : Int} (h : -18446744073709551616 < b) (h2 : b < 18446744073709551616) : opMul (.int a) (.int b) = some (.int (a * b)) := by
  have : mulOk a b = true := by simp [mulOk, h, h2]
  simp only [opMul, if_pos this]
theorem mul_j {a b : Int} (h : -18446744073709551616 < a) (h2 : a < 18446744073709551616) : opMul (.int a) (.int b) = some (.int (a * b)) := by
  have : mulOk a b = true := by simp [mulOk, h, h2]
  simp only [opMul, if_pos this]
theorem mod_n {a b : Nat} (h : 0 < b) : opMod (.int a) (.int b) = some (.int ((a % b : Nat) : Int)) := by
  have h' : (0 : Int) < b := by omega
  simp only [opMod, if_pos h']
  try rfl
theorem div_n {a b : Nat} (h : 0 < b) (h2 : b < 18446744073709551616) : opFdiv (.int a) (.int b) = some (.int ((a / b : Nat) : Int)) := by
  have h' : (0 : Int) < b := by omega
  have h3 : (b : Int) < 18446744073709551616 := by omega
  simp only [opFdiv, if_pos (And.intro h' h3)]
  try rfl
theorem mulOk_r {a b : Nat} (h : b < 18446744073709551616) : mulOk a b = true := by
  have h3 : (b : Int) < 18446744073709551616 := by omega
  have h4 : (-18446744073709551616 : Int) < b := by omega
  simp [mulOk, h3, h4]
theorem mul_n {a b : Nat} (h : b < 18446744073709551616) : opMul (.int a) (.int b) = some (.int ((a * b : Nat) : Int)) := by
  simp [mulOk_r h]
theorem ixN {n i : Nat} (h : i < n) : ixNat n (i : Int) = some i := by
  have h1 : (0 : Int) ≤ i := by omega
  have h2 : (i : Int) < n := by omega
  simp [ixNat, h2]
theorem ixL {xs : List D} {i : Nat} {d : D} (h : xs[i]? = some d) : opIx (.lst xs) (.int i) = some d := by
  have hl : i < xs.length := by
    apply Classical.byContradiction
    intro q
    rw [List.getElem?_eq_none (by omega)] at h
    cases h
  simp [opIx, ixN hl, h]
theorem rng1 {n : Nat} (h : n < 4611686018427387904) : opRng1 [.int n] = some ((List.range n).map fun (i : Nat) => D.int i) := by
  have h1 : (-4611686018427387904 : Int) ≤ n := by omega
  have h2 : (n : Int) < 4611686018427387904 := by omega
  simp [opRng1, h1, h2, rngD]
theorem enum_range {m : Nat} (f : Nat → D) : enumD ((List.range m).map f) = (List.range m).map fun i => .tup [.int (i : Nat), f i] := by
  unfold enumD
  apply List.ext_getElem
  · simp
  · intro i h1 h2
    simp
theorem seq_nx {f g : DS} {ρ ρ' : Rho} (h : f ρ = some (.nx ρ')) : dSeq f g ρ = g ρ' := by simp [dSeq, h]
@[simp] theorem p_dSeq (f g : DS) (ρ : Rho) : dSeq f g ρ = bnd (f ρ) fun r => match r with
  | .nx ρ' => g ρ'
  | .rt d => some (.rt d) := (rfl)
theorem run_rt {n a : Nat} {f : DS} {ds : List D} {d : D} (hl : ds.length = a) (h : f (ds.map some ++ List.replicate (n - a) none) = some (.rt d)) : runD n a f ds = some d := by
  simp [runD, hl, h]
theorem for_eq {it : DFs} {g : DG} {b : DS} {ρ : Rho} {ds : List D} (h : it ρ = some ds) : dFor it g b ρ = forL g b ds ρ := by simp [dFor, h]
theorem for_fold {α β : Type} {g : DG} {b : DS} (e : α → D) (P : β → Rho → Prop) (f : β → α → β) : ∀ (xs : List α) (a : β) (ρ : Rho),
    (∀ x ∈ xs, ∀ a ρ, P a ρ → ∃ ρ1, g (e x) ρ = some ρ1 ∧ ∃ ρ2, b ρ1 = some (.nx ρ2) ∧ P (f a x) ρ2) → P a ρ → ∃ ρ', forL g b (xs.map e) ρ = some (.nx ρ') ∧ P (xs.foldl f a) ρ'
  | [], a, ρ, _, h => ⟨ρ, rfl, h⟩
  | x :: xs, a, ρ, hs, h => by
    obtain ⟨ρ1, h1, ρ2, h2, h3⟩ := hs x List.mem_cons_self a ρ h
    obtain ⟨ρ', h4, h5⟩ := for_fold e P f xs (f a x) ρ2 (fun y hy => hs y (List.mem_cons_of_mem _ hy)) h3
    exact ⟨ρ', by simp [forL, h1, h2, h4], h5⟩
/-- over a range, by an invariant -/
theorem for_range {g : DG} {b : DS} (e : Nat → D) (P : Nat → Rho → Prop) (n : Nat) (hs : ∀ i, i < n → ∀ ρ, P i ρ → ∃ ρ1, g (e i) ρ = some ρ1 ∧ ∃ ρ2, b ρ1 = some (.nx ρ2) ∧ P (i + 1) ρ2) {ρ : Rho} (h : P 0 ρ) :
    ∃ ρ', forL g b ((List.range n).map e) ρ = some (.nx ρ') ∧ P n ρ' := by
  have gen : ∀ (k s : Nat) (ρ : Rho), s + k = n → P s ρ → ∃ ρ', forL g b ((List.range' s k).map e) ρ = some (.nx ρ') ∧ P n ρ' := by
    intro k
    induction k with
    | zero =>
      intro s ρ e hp
      have : s = n := by omega
      subst this
      exact ⟨ρ, rfl, hp⟩
    | succ k ih =>
      intro s ρ e' hp
      obtain ⟨ρ1, h1, ρ2, h2, h3⟩ := hs s (by omega) ρ hp
      obtain ⟨ρ', h4, h5⟩ := ih (s + 1) ρ2 (by omega) h3
      refine ⟨ρ', ?_, h5⟩
      rw [List.range'_succ, List.map_cons]
      simp [forL, h1, h2, h4]
  rw [List.range_eq_range']
  exact gen n 0 ρ (by omega) h
/-- no one returns -/
theorem for_all {α : Type} {g : DG} {b : DS} (e : α → D) (P : Rho → Prop) (xs : List α) (ρ : Rho) (hs : ∀ x ∈ xs, ∀ ρ, P ρ → ∃ ρ1, g (e x) ρ = some ρ1 ∧ ∃ ρ2, b ρ1 = some (.nx ρ2) ∧ P ρ2) (h : P ρ) :
    ∃ ρ', forL g b (xs.map e) ρ = some (.nx ρ') ∧ P ρ' :=
  for_fold e (fun (_ : Unit) ρ => P ρ) (fun a _ => a) xs () ρ (fun x hx _ ρ hP => hs x hx ρ hP) h
theorem while_m {t : DB} {b : DS} (P : Nat → Rho → Prop) (Q : Rho → Prop) (hs : ∀ k ρ, P k ρ → ∃ c, t ρ = some c ∧ (c = true → ∃ k' ρ', k' < k ∧ b ρ = some (.nx ρ') ∧ P k' ρ') ∧ (c = false → Q ρ)) :
    ∀ (n k : Nat) (ρ : Rho), k < n → P k ρ → ∃ ρ', whileN t b n ρ = some (.nx ρ') ∧ Q ρ'
  | 0, k, ρ, hk, _ => by omega
  | n + 1, k, ρ, hk, h => by
    obtain ⟨c, h1, h2, h3⟩ := hs k ρ h
    cases c with
    | false => exact ⟨ρ, by simp [whileN, h1], h3 rfl⟩
    | true =>
      obtain ⟨k', ρ', h4, h5, h6⟩ := h2 rfl
      obtain ⟨ρ2, h7, h8⟩ := while_m P Q hs n k' ρ' (by omega) h6
      exact ⟨ρ2, by simp [whileN, h1, h5, h7], h8⟩
theorem dWhile_m {t : DB} {b : DS} (P : Nat → Rho → Prop) (Q : Rho → Prop) {k : Nat} {ρ : Rho} (h : P k ρ) (hk : k < 1000000000000000000000000000000) (hs : ∀ k ρ, P k ρ → ∃ c, t ρ = some c ∧ (c = true → ∃ k' ρ', k' < k ∧ b ρ = some (.nx ρ') ∧ P k' ρ') ∧ (c = false → Q ρ)) :
    ∃ ρ', dWhile t b ρ = some (.nx ρ') ∧ Q ρ' := by
  unfold dWhile
  exact while_m P Q hs FUEL k ρ (by unfold FUEL; exact hk) h
theorem compL_map {α : Type} {g : DG} {t : DB} {e : DF} {ρ : Rho} (en : α → D) (p : α → Bool) (q : α → D) : ∀ (xs : List α),
    (∀ x ∈ xs, ∃ ρ1, g (en x) ρ = some ρ1 ∧ t ρ1 = some (p x) ∧ (p x = true → e ρ1 = some (q x))) → compL g t e ρ (xs.map en) = some ((xs.filter p).map q)
  | [], _ => rfl
  | x :: xs, hs => by
    obtain ⟨ρ1, h1, h2, h3⟩ := hs x List.mem_cons_self
    have ih := compL_map en p q xs fun y hy => hs y (List.mem_cons_of_mem _ hy)
    cases hp : p x with
    | true => simp [compL, h1, h2, hp, h3 hp, ih]
    | false => simp [compL, h1, h2, hp, ih]
theorem compL_all {α : Type} {g : DG} {e : DF} {ρ : Rho} (en : α → D) (q : α → D) (xs : List α)
    (hs : ∀ x ∈ xs, ∃ ρ1, g (en x) ρ = some ρ1 ∧ e ρ1 = some (q x)) : compL g bYes e ρ (xs.map en) = some (xs.map q) := by
  rw [compL_map en (fun _ => true) q xs fun x hx => by
    obtain ⟨ρ1, h1, h2⟩ := hs x hx
    exact ⟨ρ1, h1, rfl, fun _ => h2⟩]
  rw [List.filter_eq_self.mpr (fun _ _ => rfl)]
theorem lstOk_le {ds : List D} (h : ds.length ≤ 16777216) : lstOk ds = some (.lst ds) := by simp [lstOk, h]
/-- a comprehension, without an if -/
theorem comp_all {α : Type} {it : DFs} {g : DG} {e : DF} {vs : List Nat} {ρ : Rho} (en : α → D) (q : α → D) (xs : List α) (hi : it ρ = some (xs.map en)) (hl : xs.length ≤ 16777216)
    (hs : ∀ x ∈ xs, ∃ ρ1, g (en x) (wipeR ρ vs) = some ρ1 ∧ e ρ1 = some (q x)) : dComp it g bYes e vs ρ = some (.lst (xs.map q)) := by
  unfold dComp
  rw [hi]
  simp only [Option.bind_some]
  rw [compL_all en q xs hs]
  simp [lstOk, hl]
theorem comp_if {α : Type} {it : DFs} {g : DG} {t : DB} {e : DF} {vs : List Nat} {ρ : Rho} (en : α → D) (p : α → Bool) (q : α → D) (xs : List α) (hi : it ρ = some (xs.map en)) (hl : xs.length ≤ 16777216)
    (hs : ∀ x ∈ xs, ∃ ρ1, g (en x) (wipeR ρ vs) = some ρ1 ∧ t ρ1 = some (p x) ∧ (p x = true → e ρ1 = some (q x))) : dComp it g t e vs ρ = some (.lst ((xs.filter p).map q)) := by
  unfold dComp
  rw [hi]
  simp only [Option.bind_some]
  rw [compL_map en p q xs hs]
  have : (xs.filter p).length ≤ 16777216 := Nat.le_trans (List.length_filter_le p xs) hl
  simp [lstOk, this]
theorem asBls_map {α : Type} (p : α → Bool) : ∀ xs : List α, asBls (xs.map fun x => .bl (p x)) = some (xs.map p)
  | [] => rfl
  | x :: xs => by simp [asBls, asBls_map p xs]
theorem asInts_map {α : Type} (p : α → Int) : ∀ xs : List α, asInts (xs.map fun x => .int (p x)) = some (xs.map p)
  | [] => rfl
  | x :: xs => by simp [asInts, asInts_map p xs]
theorem opAll_map {α : Type} (p : α → Bool) (xs : List α) : opAll [.lst (xs.map fun x => .bl (p x))] = some (.bl (xs.all p)) := by
  simp [opAll, asBls_map, List.all_map]
theorem okDs_map {α : Type} {n : Nat} (f : α → D) : ∀ l : List α, (∀ x ∈ l, okD n (f x) = true) → okDs n (l.map f) = true
  | [], _ => rfl
  | x :: l, h => by
    rw [List.map_cons]
    unfold okDs
    rw [h x List.mem_cons_self, okDs_map f l fun y hy => h y (List.mem_cons_of_mem _ hy)]
    rfl
@[simp] theorem p_eqB (a b : Bool) : opEq (.bl a) (.bl b) = some (.bl (decide (a = b))) := by cases a <;> cases b <;> rfl
@[simp] theorem p_neB (a b : Bool) : opNe (.bl a) (.bl b) = some (.bl (!decide (a = b))) := by cases a <;> cases b <;> rfl
mutual
def sameD : D → D → Bool
  | .non, .non => true
  | .bl a, .bl b => a == b
  | .int i, .int j => i == j
  | .str x, .str y => decide (x = y)
  | .tup xs, .tup ys => sameDs xs ys
  | .lst xs, .lst ys => sameDs xs ys
  | _, _ => false
def sameDs : List D → List D → Bool
  | [], [] => true
  | x :: xs, y :: ys => sameD x y && sameDs xs ys
  | _, _ => false
end
mutual
theorem sameD_eq : ∀ (x y : D), sameD x y = true → x = y
  | .non, y, h => by cases y <;> first | rfl | (simp [sameD] at h)
  | .bl a, y, h => by cases y <;> simp [sameD] at h <;> rw [h]
  | .int a, y, h => by cases y <;> simp [sameD] at h <;> rw [h]
  | .str a, y, h => by cases y <;> simp [sameD] at h <;> rw [h]
  | .tup a, y, h => by
    cases y <;> simp [sameD] at h
    rw [sameDs_eq _ _ h]
  | .lst a, y, h => by
    cases y <;> simp [sameD] at h
    rw [sameDs_eq _ _ h]
  | .bell a, y, h => by cases y <;> simp [sameD] at h
  | .scr a, y, h => by cases y <;> simp [sameD] at h
theorem sameDs_eq : ∀ (x y : List D), sameDs x y = true → x = y
  | [], [], _ => rfl
  | [], _ :: _, h => by simp [sameDs] at h
  | _ :: _, [], h => by simp [sameDs] at h
  | x :: xs, y :: ys, h => by
    simp only [sameDs, Bool.and_eq_true] at h
    rw [sameD_eq x y h.1, sameDs_eq xs ys h.2]
end
def sameO : Option D → D → Bool
  | some x, y => sameD x y
  | none, _ => false
theorem sameO_eq {x : Option D} {y : D} (h : sameO x y = true) : x = some y := by
  cases x with
  | none => cases h
  | some x => rw [sameD_eq x y h]
end Mi
namespace Mi
open DL
def eO : Option Nat → D
  | none => .non
  | some n => .int n
def eV (m : Nat) (f : Nat → Nat) : D := .tup ((List.range m).map fun i => .int (f i))
def eR (w : Nat) (f : Nat → Option Nat) : D := .tup ((List.range w).map fun j => eO (f j))
def eT (m w : Nat) (T : Nat → Nat → Option Nat) : D := .tup ((List.range m).map fun i => eR w (T i))
def eL (l : List Nat) : D := .lst (l.map fun n => .int (n : Nat))
@[simp] theorem len_eT (m w : Nat) (T : Nat → Nat → Option Nat) : opLen [eT m w T] = some (.int m) := by simp [eT]
@[simp] theorem len_eR (w : Nat) (T : Nat → Option Nat) : opLen [eR w T] = some (.int w) := by simp [eR]
@[simp] theorem len_eV (w : Nat) (T : Nat → Nat) : opLen [eV w T] = some (.int w) := by simp [eV]
@[simp] theorem isNone_eO (x : Option Nat) : isNone (eO x) = x.isNone := by cases x <;> rfl
@[simp] theorem seq_eT (m w : Nat) (T : Nat → Nat → Option Nat) : asSeq (eT m w T) = some ((List.range m).map fun i => eR w (T i)) := rfl
@[simp] theorem seq_eR (w : Nat) (T : Nat → Option Nat) : asSeq (eR w T) = some ((List.range w).map fun j => eO (T j)) := rfl
@[simp] theorem seq_eV (w : Nat) (T : Nat → Nat) : asSeq (eV w T) = some ((List.range w).map fun j => .int (T j)) := rfl
@[simp] theorem seq_eL (l : List Nat) : asSeq (eL l) = some (l.map fun n => .int (n : Nat)) := rfl
@[simp] theorem eO_some (n : Nat) : eO (some n) = .int n := rfl
@[simp] theorem eO_none : eO none = .non := rfl
theorem gcd_step {a b : Nat} (h : 0 < b) : Nat.gcd b (a % b) = Nat.gcd a b := by
  rw [Nat.gcd_comm b, ← Nat.gcd_rec, Nat.gcd_comm]
theorem gcd_loop (ds : DF) {a b : Nat} (hb : b < 1000000000000000000000000000000) :
    ∃ ρ', dWhile (bV (d2 opGt (dv 1) (dc (.int 0)))) m_gcd_b1 [some (.int a), some (.int b)] = some (.nx ρ') ∧ ρ' = [some (.int (Nat.gcd a b)), some (.int 0)] := by
  refine dWhile_m (fun k ρ => ∃ x y : Nat, ρ = [some (.int x), some (.int y)] ∧ y = k ∧ Nat.gcd x y = Nat.gcd a b) _ (k := b) ⟨a, b, rfl, rfl, rfl⟩ hb ?_
  rintro k ρ ⟨x, y, rfl, rfl, hg⟩
  refine ⟨decide (0 < y), by simp, ?_, ?_⟩
  · intro h
    have h := of_decide_eq_true h
    refine ⟨x % y, [some (.int y), some (.int ((x % y : Nat) : Int))], Nat.mod_lt _ h, by simp [m_gcd_b1, mod_n h], y, x % y, rfl, rfl, ?_⟩
    rw [gcd_step h, hg]
  · intro h
    have h := of_decide_eq_false h
    have : y = 0 := by omega
    subst this
    rw [Nat.gcd_zero_right] at hg
    rw [hg]
    rfl
theorem gcd_m {a b : Nat} (hb : b < 1000000000000000000000000000000) : m_gcd [.int a, .int b] = some (.int (Nat.gcd a b)) := by
  obtain ⟨ρ', h, e⟩ := gcd_loop (dv 0) (a := a) hb
  refine run_rt rfl ?_
  show dSeq _ _ [some (.int a), some (.int b)] = _
  rw [seq_nx h, e]
  simp
theorem lgcd_m {a b : Nat} (hb : b < 1000000000000000000000000000000) : m_law_gcd [.int a, .int b] = some (.int (Nat.gcd a b)) := by
  rw [show m_law_gcd = m_gcd from rfl]
  exact gcd_m hb
theorem llcm_m {a b : Nat} (ha : 0 < a) (hb : b < 18446744073709551616) (hg : Nat.gcd a b < 18446744073709551616) : m_law_lcm [.int a, .int b] = some (.int (Nat.lcm a b)) := by
  have hg0 : 0 < Nat.gcd a b := Nat.gcd_pos_of_pos_left _ ha
  have h1 := mul_n (a := a) hb
  have h2 := lgcd_m (a := a) (b := b) (by omega)
  have h3 := div_n (a := a * b) hg0 hg
  refine run_rt rfl ?_
  simp only [p_dRet, p_d2, p_dL, p_dcons, p_dnil, p_dv, lk_z, lk_s, List.map_cons, List.map_nil, List.cons_append, bnd_some, h1, h2, h3]
  rfl
structure Tab (m w : Nat) (T : Nat → Nat → Option Nat) : Prop where
  m0 : 0 < m
  m1 : m ≤ 100
  w0 : 0 < w
  w1 : w ≤ 100
  bd : ∀ i j e, T i j = some e → 0 < e ∧ e ≤ 1000000000000000000
def kpRow (w : Nat) (T : Nat → Nat → Option Nat) (i : Nat) : List (Nat × Nat) := ((List.range w).filter fun j => (T i j).isSome).map fun j => (i, j)
def kp (m w : Nat) (T : Nat → Nat → Option Nat) : List (Nat × Nat) := (List.range m).flatMap (kpRow w T)
end Mi
namespace Mi
open DL
theorem cell_m {ns : List Int} (h : ns.length ≤ 63) {i : Nat} (hi : i ≤ 1000) : ∃ c : Int, m_law_cell [.scr ns, .int i] = some (.int c) := by
  have ix : ∀ j : Nat, j < ns.length → ∃ c, opIx (.scr ns) (.int j) = some (.int c) := fun j hj => ⟨ns[j], by simp [opIx, ixN hj, List.getElem?_eq_getElem hj]⟩
  by_cases h1 : i < ns.length
  · obtain ⟨c, hc⟩ := ix i h1
    have h2 : ((i : Int) < (ns.length : Int)) := by omega
    exact ⟨c, run_rt rfl (by simp only [bnd_some, bnd_none, p_dc, p_dv, lk_z, lk_s, st_z, st_s, un_z, un_s, wipe_n, wipe_c, p_d2, p_d1, p_dnil, p_dcons, p_dL, p_asB, p_asI, p_asL, p_asSeqL, p_asSeqT, p_bV, p_dB, p_bAnd, p_bOr, p_bNot, p_dIf, p_dAnd, p_dOr, p_dNot, p_dCh, p_bYes, p_gN, p_gT, p_gsNil, p_gsCons, p_dNx, p_dRet, p_dSet, p_dIfS, p_dAsg, p_dPar, p_dAug, p_dApp, p_dSetIx, p_nLst, p_nRep, p_nOf, p_dSetN, p_dParN1, p_dParNN, p_iSeq, p_iRng1, p_iRng2, p_oNo, p_oIx, p_dSl, p_asIx, p_opTup, p_opLst, p_lenT, p_lenL, p_lenS, p_tupT, p_tupL, p_add, p_sub, p_mul, p_lt, p_le, p_gt, p_ge, p_eqI, p_neI, p_isN, p_isnN, p_isB, p_isnB, p_isNone_n, p_isNone_i, p_isNone_t, p_isNone_l, p_appL, p_appT, b_mc, b_mn, b_ac, b_an, b_rs, b_rz, b_lc, b_ln, b_it, b_if, b_itt, b_iff, p_dSeq, p_eqB, p_neB, len_eT, len_eR, len_eV, isNone_eO, seq_eT, seq_eR, seq_eV, seq_eL, eO_some, eO_none, ↓p_eqN, ↓p_neN, ↓p_ltN, ↓p_leN, ↓p_gtN, ↓p_geN, decide_eq_true h1, hc])⟩
  · have h2 : ¬ ((i : Int) < (ns.length : Int)) := by omega
    by_cases h3 : ns.length = 0
    · have h4 : (ns.length : Int) = 0 := by omega
      have h5 := mul_j (a := 7919) (b := i) (by decide) (by decide)
      exact ⟨_, run_rt rfl (by simp only [bnd_some, bnd_none, p_dc, p_dv, lk_z, lk_s, st_z, st_s, un_z, un_s, wipe_n, wipe_c, p_d2, p_d1, p_dnil, p_dcons, p_dL, p_asB, p_asI, p_asL, p_asSeqL, p_asSeqT, p_bV, p_dB, p_bAnd, p_bOr, p_bNot, p_dIf, p_dAnd, p_dOr, p_dNot, p_dCh, p_bYes, p_gN, p_gT, p_gsNil, p_gsCons, p_dNx, p_dRet, p_dSet, p_dIfS, p_dAsg, p_dPar, p_dAug, p_dApp, p_dSetIx, p_nLst, p_nRep, p_nOf, p_dSetN, p_dParN1, p_dParNN, p_iSeq, p_iRng1, p_iRng2, p_oNo, p_oIx, p_dSl, p_asIx, p_opTup, p_opLst, p_lenT, p_lenL, p_lenS, p_tupT, p_tupL, p_add, p_sub, p_mul, p_lt, p_le, p_gt, p_ge, p_eqI, p_neI, p_isN, p_isnN, p_isB, p_isnB, p_isNone_n, p_isNone_i, p_isNone_t, p_isNone_l, p_appL, p_appT, b_mc, b_mn, b_ac, b_an, b_rs, b_rz, b_lc, b_ln, b_it, b_if, b_itt, b_iff, p_dSeq, p_eqB, p_neB, len_eT, len_eR, len_eV, isNone_eO, seq_eT, seq_eR, seq_eV, seq_eL, eO_some, eO_none, ↓p_eqN, ↓p_neN, ↓p_ltN, ↓p_leN, ↓p_gtN, ↓p_geN, decide_eq_false h1, decide_eq_true h4, h5]; rfl)⟩
    · have h4 : ¬ (ns.length : Int) = 0 := by omega
      have h5 := mul_j (a := 7919) (b := i) (by decide) (by decide)
      have h6 := mod_n (a := i) (b := ns.length) (by omega)
      obtain ⟨c, hc⟩ := ix (i % ns.length) (Nat.mod_lt _ (by omega))
      have h7 := mod_i (a := c) (b := 1000003) (by decide)
      exact ⟨_, run_rt rfl (by simp only [bnd_some, bnd_none, p_dc, p_dv, lk_z, lk_s, st_z, st_s, un_z, un_s, wipe_n, wipe_c, p_d2, p_d1, p_dnil, p_dcons, p_dL, p_asB, p_asI, p_asL, p_asSeqL, p_asSeqT, p_bV, p_dB, p_bAnd, p_bOr, p_bNot, p_dIf, p_dAnd, p_dOr, p_dNot, p_dCh, p_bYes, p_gN, p_gT, p_gsNil, p_gsCons, p_dNx, p_dRet, p_dSet, p_dIfS, p_dAsg, p_dPar, p_dAug, p_dApp, p_dSetIx, p_nLst, p_nRep, p_nOf, p_dSetN, p_dParN1, p_dParNN, p_iSeq, p_iRng1, p_iRng2, p_oNo, p_oIx, p_dSl, p_asIx, p_opTup, p_opLst, p_lenT, p_lenL, p_lenS, p_tupT, p_tupL, p_add, p_sub, p_mul, p_lt, p_le, p_gt, p_ge, p_eqI, p_neI, p_isN, p_isnN, p_isB, p_isnB, p_isNone_n, p_isNone_i, p_isNone_t, p_isNone_l, p_appL, p_appT, b_mc, b_mn, b_ac, b_an, b_rs, b_rz, b_lc, b_ln, b_it, b_if, b_itt, b_iff, p_dSeq, p_eqB, p_neB, len_eT, len_eR, len_eV, isNone_eO, seq_eT, seq_eR, seq_eV, seq_eL, eO_some, eO_none, ↓p_eqN, ↓p_neN, ↓p_ltN, ↓p_leN, ↓p_gtN, ↓p_geN, decide_eq_false h1, decide_eq_false h4, h5, h6, hc]; erw [h7]; simp only [bnd_some, bnd_none, p_dc, p_dv, lk_z, lk_s, st_z, st_s, un_z, un_s, wipe_n, wipe_c, p_d2, p_d1, p_dnil, p_dcons, p_dL, p_asB, p_asI, p_asL, p_asSeqL, p_asSeqT, p_bV, p_dB, p_bAnd, p_bOr, p_bNot, p_dIf, p_dAnd, p_dOr, p_dNot, p_dCh, p_bYes, p_gN, p_gT, p_gsNil, p_gsCons, p_dNx, p_dRet, p_dSet, p_dIfS, p_dAsg, p_dPar, p_dAug, p_dApp, p_dSetIx, p_nLst, p_nRep, p_nOf, p_dSetN, p_dParN1, p_dParNN, p_iSeq, p_iRng1, p_iRng2, p_oNo, p_oIx, p_dSl, p_asIx, p_opTup, p_opLst, p_lenT, p_lenL, p_lenS, p_tupT, p_tupL, p_add, p_sub, p_mul, p_lt, p_le, p_gt, p_ge, p_eqI, p_neI, p_isN, p_isnN, p_isB, p_isnB, p_isNone_n, p_isNone_i, p_isNone_t, p_isNone_l, p_appL, p_appT, b_mc, b_mn, b_ac, b_an, b_rs, b_rz, b_lc, b_ln, b_it, b_if, b_itt, b_iff, p_dSeq, p_eqB, p_neB, len_eT, len_eR, len_eV, isNone_eO, seq_eT, seq_eR, seq_eV, seq_eL, eO_some, eO_none, ↓p_eqN, ↓p_neN, ↓p_ltN, ↓p_leN, ↓p_gtN, ↓p_geN]; rfl)⟩
theorem mod_z {a b : Int} (h : 0 < b) : opMod (.int a) (.int b) = some (.int (a % b)) := by simp only [opMod, if_pos h]
theorem div_z {a b : Int} (h : 0 < b) (h3 : b < 18446744073709551616) : opFdiv (.int a) (.int b) = some (.int (a / b)) := by simp only [opFdiv, if_pos (And.intro h h3)]
def prD : List D := [.int 2147483647, .int 2147483629, .int 2147483587, .int 2147483579, .int 2147483563, .int 2147483549, .int 2147483543, .int 2147483497]
theorem prime_ix {r : Nat} (h : r < 8) : ∃ p : Int, opIx (.tup prD) (.int r) = some (.int p) ∧ 0 < p ∧ p < 4294967296 := by
  have : r = 0 ∨ r = 1 ∨ r = 2 ∨ r = 3 ∨ r = 4 ∨ r = 5 ∨ r = 6 ∨ r = 7 := by omega
  rcases this with e | e | e | e | e | e | e | e <;> subst e <;> exact ⟨_, rfl, by decide, by decide⟩
theorem pIx {k : Nat} {x : D} (h : opIx (.tup prD) (.int (k % 8 : Nat)) = some x) : (bnd (opMod (.int k) (.int 8)) fun y => opIx (.tup prD) y) = some x := by
  have : opMod (.int k) (.int 8) = some (.int (k % 8 : Nat)) := mod_n (b := 8) (by decide)
  rw [this]
  simp only [bnd_some, bnd_none, p_dc, p_dv, lk_z, lk_s, st_z, st_s, un_z, un_s, wipe_n, wipe_c, p_d2, p_d1, p_dnil, p_dcons, p_dL, p_asB, p_asI, p_asL, p_asSeqL, p_asSeqT, p_bV, p_dB, p_bAnd, p_bOr, p_bNot, p_dIf, p_dAnd, p_dOr, p_dNot, p_dCh, p_bYes, p_gN, p_gT, p_gsNil, p_gsCons, p_dNx, p_dRet, p_dSet, p_dIfS, p_dAsg, p_dPar, p_dAug, p_dApp, p_dSetIx, p_nLst, p_nRep, p_nOf, p_dSetN, p_dParN1, p_dParNN, p_iSeq, p_iRng1, p_iRng2, p_oNo, p_oIx, p_dSl, p_asIx, p_opTup, p_opLst, p_lenT, p_lenL, p_lenS, p_tupT, p_tupL, p_add, p_sub, p_mul, p_lt, p_le, p_gt, p_ge, p_eqI, p_neI, p_isN, p_isnN, p_isB, p_isnB, p_isNone_n, p_isNone_i, p_isNone_t, p_isNone_l, p_appL, p_appT, b_mc, b_mn, b_ac, b_an, b_rs, b_rz, b_lc, b_ln, b_it, b_if, b_itt, b_iff, p_dSeq, p_eqB, p_neB, len_eT, len_eR, len_eV, isNone_eO, seq_eT, seq_eR, seq_eV, seq_eL, eO_some, eO_none, ↓p_eqN, ↓p_neN, ↓p_ltN, ↓p_leN, ↓p_gtN, ↓p_geN, h]
theorem dig_body {s : D} {i k : Nat} {c base r cell : Int} {ds : List Nat} (x : Option D) (hi : i ≤ 1000) (hk : k ≤ 1000) (hd : ds.length ≤ 1000) (hb0 : 0 < base) (hb : base < 18446744073709551616) :
    ∃ d : Nat, (d : Int) < base ∧ ∃ r' m : Int, m_law_digits_b1 [some s, some (.int i), some (.int c), some (.int base), some (.tup prD), some (.int cell), some (.int r), some (eL ds), some (.int k), x] =
      some (.nx [some s, some (.int i), some (.int c), some (.int base), some (.tup prD), some (.int cell), some (.int r'), some (eL (ds ++ [d])), some (.int k), some (.int m)]) := by
  obtain ⟨p1, e1, a1, b1⟩ := prime_ix (r := k % 8) (by omega)
  obtain ⟨p2, e2, a2, b2⟩ := prime_ix (r := (3 * k + i) % 8) (by omega)
  obtain ⟨p3, e3, a3, b3⟩ := prime_ix (r := (k + 5) % 8) (by omega)
  have f1 := pIx e1
  have f2 := pIx e2
  have f3 := pIx e3
  have c2 : (((3 * k + i : Nat) : Int)) = 3 * (k : Int) + i := by omega
  have c3 : (((k + 5 : Nat) : Int)) = (k : Int) + 5 := by omega
  rw [c2] at f2
  rw [c3] at f3
  have g1 := mod_z (a := cell) a1
  have u0 : (0 : Int) ≤ k := by omega
  have v0 : (k : Int) ≤ 1000 := by omega
  have m1 := mul_j (a := 2) (b := k) (by decide) (by decide)
  have m2 := mul_i (a := 2 * (k : Int)) (b := k) (by omega) (by omega)
  have w1 := Int.emod_nonneg cell (b := p1) (by omega)
  have w2 := Int.emod_lt_of_pos cell a1
  have m3 := mul_j (a := cell % p1) (b := 48271 + 2 * (k : Int) * k) (by omega) (by omega)
  have m4 := mul_j (a := 7919) (b := (k : Int) + 1) (by decide) (by decide)
  have m5 := mul_i (a := 7919 * ((k : Int) + 1)) (b := (k : Int) + 1) (by omega) (by omega)
  have m6 := mul_j (a := 104729) (b := (i : Int)) (by decide) (by decide)
  have m7 := mul_j (a := 3) (b := (k : Int)) (by decide) (by decide)
  generalize hz : cell % p1 * (48271 + 2 * (k : Int) * k) = z at m3
  generalize hy : z + 7919 * ((k : Int) + 1) * ((k : Int) + 1) + 104729 * i = y
  have g2 := mod_z (a := y) a2
  have w3 := Int.emod_nonneg y (b := p2) (by omega)
  have w4 := Int.emod_lt_of_pos y a2
  generalize hx : y % p2 = q at g2 w3 w4
  have m8 := mul_j (a := q) (b := q) (by omega) (by omega)
  have m9 := mul_i (a := q * q) (b := q) (by omega) (by omega)
  have g3 := mod_z (a := q * q * q) a3
  have g5 := fun t => div_z (a := t) hb0 hb
  have g6 : ∀ t : Int, ∃ d : Nat, (d : Int) < base ∧ opMod (.int t) (.int base) = some (.int d) := fun t => by
    have h1 := Int.emod_nonneg t (b := base) (by omega)
    have h2 := Int.emod_lt_of_pos t hb0
    exact ⟨(t % base).toNat, by omega, by rw [mod_z hb0, Int.toNat_of_nonneg h1]⟩
  have hl : (ds.map fun n : Nat => D.int n).length < 16777216 := by rw [List.length_map]; omega
  unfold m_law_digits_b1
  by_cases hr : 0 < r
  · obtain ⟨d, hd1, hd2⟩ := g6 r
    refine ⟨d, hd1, r / base, r, ?_⟩
    simp only [bnd_some, bnd_none, p_dc, p_dv, lk_z, lk_s, st_z, st_s, un_z, un_s, wipe_n, wipe_c, p_d2, p_d1, p_dnil, p_dcons, p_dL, p_asB, p_asI, p_asL, p_asSeqL, p_asSeqT, p_bV, p_dB, p_bAnd, p_bOr, p_bNot, p_dIf, p_dAnd, p_dOr, p_dNot, p_dCh, p_bYes, p_gN, p_gT, p_gsNil, p_gsCons, p_dNx, p_dRet, p_dSet, p_dIfS, p_dAsg, p_dPar, p_dAug, p_dApp, p_dSetIx, p_nLst, p_nRep, p_nOf, p_dSetN, p_dParN1, p_dParNN, p_iSeq, p_iRng1, p_iRng2, p_oNo, p_oIx, p_dSl, p_asIx, p_opTup, p_opLst, p_lenT, p_lenL, p_lenS, p_tupT, p_tupL, p_add, p_sub, p_mul, p_lt, p_le, p_gt, p_ge, p_eqI, p_neI, p_isN, p_isnN, p_isB, p_isnB, p_isNone_n, p_isNone_i, p_isNone_t, p_isNone_l, p_appL, p_appT, b_mc, b_mn, b_ac, b_an, b_rs, b_rz, b_lc, b_ln, b_it, b_if, b_itt, b_iff, p_dSeq, p_eqB, p_neB, len_eT, len_eR, len_eV, isNone_eO, seq_eT, seq_eR, seq_eV, seq_eL, eO_some, eO_none, ↓p_eqN, ↓p_neN, ↓p_ltN, ↓p_leN, ↓p_gtN, ↓p_geN, f1, g1, m1, m2, m3, m4, m5, m6, hy, m7, f2, g2, m8, m9, f3, g3, decide_eq_true hr, hd2, g5, eL, if_pos hl, List.map_append]
  · obtain ⟨d, hd1, hd2⟩ := g6 (q * q * q % p3)
    refine ⟨d, hd1, r / base, q * q * q % p3, ?_⟩
    simp only [bnd_some, bnd_none, p_dc, p_dv, lk_z, lk_s, st_z, st_s, un_z, un_s, wipe_n, wipe_c, p_d2, p_d1, p_dnil, p_dcons, p_dL, p_asB, p_asI, p_asL, p_asSeqL, p_asSeqT, p_bV, p_dB, p_bAnd, p_bOr, p_bNot, p_dIf, p_dAnd, p_dOr, p_dNot, p_dCh, p_bYes, p_gN, p_gT, p_gsNil, p_gsCons, p_dNx, p_dRet, p_dSet, p_dIfS, p_dAsg, p_dPar, p_dAug, p_dApp, p_dSetIx, p_nLst, p_nRep, p_nOf, p_dSetN, p_dParN1, p_dParNN, p_iSeq, p_iRng1, p_iRng2, p_oNo, p_oIx, p_dSl, p_asIx, p_opTup, p_opLst, p_lenT, p_lenL, p_lenS, p_tupT, p_tupL, p_add, p_sub, p_mul, p_lt, p_le, p_gt, p_ge, p_eqI, p_neI, p_isN, p_isnN, p_isB, p_isnB, p_isNone_n, p_isNone_i, p_isNone_t, p_isNone_l, p_appL, p_appT, b_mc, b_mn, b_ac, b_an, b_rs, b_rz, b_lc, b_ln, b_it, b_if, b_itt, b_iff, p_dSeq, p_eqB, p_neB, len_eT, len_eR, len_eV, isNone_eO, seq_eT, seq_eR, seq_eV, seq_eL, eO_some, eO_none, ↓p_eqN, ↓p_neN, ↓p_ltN, ↓p_leN, ↓p_gtN, ↓p_geN, f1, g1, m1, m2, m3, m4, m5, m6, hy, m7, f2, g2, m8, m9, f3, g3, decide_eq_false hr, hd2, g5, eL, if_pos hl, List.map_append]
theorem digits_m {ns : List Int} (h : ns.length ≤ 63) {i count : Nat} {base : Int} (hi : i ≤ 1000) (hc : count ≤ 1000) (hb0 : 0 < base) (hb : base < 18446744073709551616) :
    ∃ ds : List Nat, ds.length = count ∧ (∀ d ∈ ds, (d : Int) < base) ∧ m_law_digits [.scr ns, .int i, .int count, .int base] = some (eL ds) := by
  obtain ⟨c, hcell⟩ := cell_m h hi
  have hgo : ∀ r : Int, ∃ ds : List Nat, ds.length = count ∧ (∀ d ∈ ds, (d : Int) < base) ∧ ∃ ρ', lk ρ' 7 = some (eL ds) ∧ forL (gN 8) m_law_digits_b1 ((List.range count).map fun i : Nat => D.int i) [some (.scr ns), some (.int i), some (.int count), some (.int base), some (.tup prD), some (.int c), some (.int r), some (.lst []), none, none] = some (.nx ρ') := by
    intro r
    obtain ⟨ρ', h1, ds, h2, h3, r', x, y, h4⟩ := for_range (g := gN 8) (b := m_law_digits_b1) (fun i : Nat => D.int i)
      (fun (k : Nat) (ρ : Rho) => ∃ ds : List Nat, ds.length = k ∧ (∀ d ∈ ds, (d : Int) < base) ∧ ∃ (r : Int) (x y : Option D), ρ = [some (.scr ns), some (.int i), some (.int count), some (.int base), some (.tup prD), some (.int c), some (.int r), some (eL ds), x, y]) count (by
        rintro k hk ρ ⟨ds, hl, hds, r, x, y, rfl⟩
        obtain ⟨d, hd, r', m, e⟩ := dig_body (s := .scr ns) (i := i) (k := k) (c := count) (base := base) (r := r) (cell := c) (ds := ds) y hi (by omega) (by omega) hb0 hb
        refine ⟨_, rfl, _, e, ds ++ [d], by simp [hl], ?_, r', _, _, rfl⟩
        intro z hz
        rcases List.mem_append.mp hz with q | q
        · exact hds z q
        · rw [List.mem_singleton.mp q]
          exact hd) (ρ := [some (.scr ns), some (.int i), some (.int count), some (.int base), some (.tup prD), some (.int c), some (.int r), some (.lst []), none, none]) ⟨[], rfl, by simp, r, none, none, rfl⟩
    exact ⟨ds, h2, h3, ρ', by rw [h4]; rfl, h1⟩
  have hp : opPow (.int 10) (.int 18) = some (.int 1000000000000000000) := rfl
  have hn : (iRng1 (dcons (dv 2) dnil)) = (iRng1 (dcons (dv 2) dnil)) := rfl
  have hr : ∀ r : Int, dFor (iRng1 (dcons (dv 2) dnil)) (gN 8) m_law_digits_b1 [some (.scr ns), some (.int i), some (.int count), some (.int base), some (.tup prD), some (.int c), some (.int r), some (.lst []), none, none] = forL (gN 8) m_law_digits_b1 ((List.range count).map fun i : Nat => D.int i) [some (.scr ns), some (.int i), some (.int count), some (.int base), some (.tup prD), some (.int c), some (.int r), some (.lst []), none, none] := by
    intro r
    exact for_eq (by simp only [bnd_some, bnd_none, p_dc, p_dv, lk_z, lk_s, st_z, st_s, un_z, un_s, wipe_n, wipe_c, p_d2, p_d1, p_dnil, p_dcons, p_dL, p_asB, p_asI, p_asL, p_asSeqL, p_asSeqT, p_bV, p_dB, p_bAnd, p_bOr, p_bNot, p_dIf, p_dAnd, p_dOr, p_dNot, p_dCh, p_bYes, p_gN, p_gT, p_gsNil, p_gsCons, p_dNx, p_dRet, p_dSet, p_dIfS, p_dAsg, p_dPar, p_dAug, p_dApp, p_dSetIx, p_nLst, p_nRep, p_nOf, p_dSetN, p_dParN1, p_dParNN, p_iSeq, p_iRng1, p_iRng2, p_oNo, p_oIx, p_dSl, p_asIx, p_opTup, p_opLst, p_lenT, p_lenL, p_lenS, p_tupT, p_tupL, p_add, p_sub, p_mul, p_lt, p_le, p_gt, p_ge, p_eqI, p_neI, p_isN, p_isnN, p_isB, p_isnB, p_isNone_n, p_isNone_i, p_isNone_t, p_isNone_l, p_appL, p_appT, b_mc, b_mn, b_ac, b_an, b_rs, b_rz, b_lc, b_ln, b_it, b_if, b_itt, b_iff, p_dSeq, p_eqB, p_neB, len_eT, len_eR, len_eV, isNone_eO, seq_eT, seq_eR, seq_eV, seq_eL, eO_some, eO_none, ↓p_eqN, ↓p_neN, ↓p_ltN, ↓p_leN, ↓p_gtN, ↓p_geN, rng1 (n := count) (by omega)])
  by_cases h1 : (1000000000000000000 : Int) ≤ c
  · obtain ⟨ds, h2, h3, ρ', h4, h5⟩ := hgo c
    refine ⟨ds, h2, h3, run_rt rfl ?_⟩
    have h6 := (hr c).trans h5
    unfold prD at h6
    simp only [bnd_some, bnd_none, p_dc, p_dv, lk_z, lk_s, st_z, st_s, un_z, un_s, wipe_n, wipe_c, p_d2, p_d1, p_dnil, p_dcons, p_dL, p_asB, p_asI, p_asL, p_asSeqL, p_asSeqT, p_bV, p_dB, p_bAnd, p_bOr, p_bNot, p_dIf, p_dAnd, p_dOr, p_dNot, p_dCh, p_bYes, p_gN, p_gT, p_gsNil, p_gsCons, p_dNx, p_dRet, p_dSet, p_dIfS, p_dAsg, p_dPar, p_dAug, p_dApp, p_dSetIx, p_nLst, p_nRep, p_nOf, p_dSetN, p_dParN1, p_dParNN, p_iSeq, p_iRng1, p_iRng2, p_oNo, p_oIx, p_dSl, p_asIx, p_opTup, p_opLst, p_lenT, p_lenL, p_lenS, p_tupT, p_tupL, p_add, p_sub, p_mul, p_lt, p_le, p_gt, p_ge, p_eqI, p_neI, p_isN, p_isnN, p_isB, p_isnB, p_isNone_n, p_isNone_i, p_isNone_t, p_isNone_l, p_appL, p_appT, b_mc, b_mn, b_ac, b_an, b_rs, b_rz, b_lc, b_ln, b_it, b_if, b_itt, b_iff, p_dSeq, p_eqB, p_neB, len_eT, len_eR, len_eV, isNone_eO, seq_eT, seq_eR, seq_eV, seq_eL, eO_some, eO_none, ↓p_eqN, ↓p_neN, ↓p_ltN, ↓p_leN, ↓p_gtN, ↓p_geN, hcell, hp, decide_eq_true h1, Nat.reduceLeDiff, Nat.reduceAdd, Nat.reduceSub, h6, h4]
  · obtain ⟨ds, h2, h3, ρ', h4, h5⟩ := hgo 0
    refine ⟨ds, h2, h3, run_rt rfl ?_⟩
    have h6 := (hr 0).trans h5
    unfold prD at h6
    simp only [bnd_some, bnd_none, p_dc, p_dv, lk_z, lk_s, st_z, st_s, un_z, un_s, wipe_n, wipe_c, p_d2, p_d1, p_dnil, p_dcons, p_dL, p_asB, p_asI, p_asL, p_asSeqL, p_asSeqT, p_bV, p_dB, p_bAnd, p_bOr, p_bNot, p_dIf, p_dAnd, p_dOr, p_dNot, p_dCh, p_bYes, p_gN, p_gT, p_gsNil, p_gsCons, p_dNx, p_dRet, p_dSet, p_dIfS, p_dAsg, p_dPar, p_dAug, p_dApp, p_dSetIx, p_nLst, p_nRep, p_nOf, p_dSetN, p_dParN1, p_dParNN, p_iSeq, p_iRng1, p_iRng2, p_oNo, p_oIx, p_dSl, p_asIx, p_opTup, p_opLst, p_lenT, p_lenL, p_lenS, p_tupT, p_tupL, p_add, p_sub, p_mul, p_lt, p_le, p_gt, p_ge, p_eqI, p_neI, p_isN, p_isnN, p_isB, p_isnB, p_isNone_n, p_isNone_i, p_isNone_t, p_isNone_l, p_appL, p_appT, b_mc, b_mn, b_ac, b_an, b_rs, b_rz, b_lc, b_ln, b_it, b_if, b_itt, b_iff, p_dSeq, p_eqB, p_neB, len_eT, len_eR, len_eV, isNone_eO, seq_eT, seq_eR, seq_eV, seq_eL, eO_some, eO_none, ↓p_eqN, ↓p_neN, ↓p_ltN, ↓p_leN, ↓p_gtN, ↓p_geN, hcell, hp, decide_eq_false h1, Nat.reduceLeDiff, Nat.reduceAdd, Nat.reduceSub, h6, h4]
end Mi
namespace Mi
open DL
theorem ix_eL {ds : List Nat} {k : Nat} (h : k < ds.length) : opIx (eL ds) (.int k) = some (.int (ds.getD k 0)) := by
  apply ixL
  simp [h]
theorem ix_eLz {ds : List Nat} {k : Int} (n : Nat) (e : k = n) (h : n < ds.length) : opIx (eL ds) (.int k) = some (.int (ds.getD n 0)) := by
  subst e
  exact ix_eL h
@[simp] theorem len_eL (ds : List Nat) : opLen [eL ds] = some (.int ds.length) := by simp [eL]
theorem sl_eL {ds : List Nat} {k : Nat} (h : k ≤ ds.length) : opSl (some (k : Int)) none (eL ds) = some (eL (ds.drop k)) := by
  have e : opSl (some (k : Int)) none (eL ds) = some (.lst (cutL (ds.map fun n : Nat => D.int n) (some (k : Int)) none)) := rfl
  rw [e]
  unfold cutL
  have e1 : HT.sIx (ds.map fun n : Nat => D.int n).length 0 (some (k : Int)) = k := by
    rw [HT.sIx_nat, List.length_map]
    omega
  rw [e1, HT.sIx_none, ← List.map_drop, List.take_of_length_le (by simp)]
  rfl
def someL : List Nat := [1, 2, 3, 4, 6, 8, 9, 12, 5, 10, 18, 30]
theorem someL_mem {r : Nat} : someL.getD r 1 ∈ someL := by
  by_cases h : r < 12
  · have : r = 0 ∨ r = 1 ∨ r = 2 ∨ r = 3 ∨ r = 4 ∨ r = 5 ∨ r = 6 ∨ r = 7 ∨ r = 8 ∨ r = 9 ∨ r = 10 ∨ r = 11 := by omega
    rcases this with e | e | e | e | e | e | e | e | e | e | e | e <;> subst e <;> decide
  · have : someL.getD r 1 = 1 := by
      rw [List.getD_eq_getElem?_getD, List.getElem?_eq_none (by simp [someL]; omega)]
      rfl
    rw [this]
    decide
theorem someL_pos {n : Nat} (h : n ∈ someL) : 0 < n ∧ n ≤ 30 := by
  simp [someL] at h
  omega
theorem ix_someL {r : Nat} (h : r < 12) : opIx (eL someL) (.int r) = some (.int (someL.getD r 1)) := by
  have : r = 0 ∨ r = 1 ∨ r = 2 ∨ r = 3 ∨ r = 4 ∨ r = 5 ∨ r = 6 ∨ r = 7 ∨ r = 8 ∨ r = 9 ∨ r = 10 ∨ r = 11 := by omega
  rcases this with e | e | e | e | e | e | e | e | e | e | e | e <;> subst e <;> rfl
theorem size_ix (d : Nat) : ∃ s : Nat, 0 < s ∧ s ≤ 12 ∧ (bnd (opMod (.int d) (.int 3)) fun y => opIx (.lst [.int 4, .int 7, .int 12]) y) = some (.int s) := by
  have h : opMod (.int d) (.int 3) = some (.int (d % 3 : Nat)) := mod_n (b := 3) (by decide)
  rw [h]
  simp only [bnd_some]
  have : d % 3 = 0 ∨ d % 3 = 1 ∨ d % 3 = 2 := by omega
  rcases this with e | e | e <;> rw [e]
  · exact ⟨4, by decide, by decide, rfl⟩
  · exact ⟨7, by decide, by decide, rfl⟩
  · exact ⟨12, by decide, by decide, rfl⟩
theorem numbers_m {ds : List Nat} (h : 12 ≤ ds.length) {m w : Nat} (hm : m ≤ 5) (hw : w ≤ 5) : ∃ R C : Nat → Nat, (∀ i, R i ∈ someL) ∧ (∀ j, C j ∈ someL) ∧ m_law_numbers [eL ds, .int m, .int w] = some (.tup [eV m R, eV w C]) := by
  obtain ⟨s, hs0, hs1, hs⟩ := size_ix (ds.getD 0 0)
  refine ⟨fun i => someL.getD (ds.getD (1 + i) 0 % s) 1, fun i => someL.getD (ds.getD (6 + i) 0 % s) 1, fun i => someL_mem, fun i => someL_mem, run_rt rfl ?_⟩
  have h0 : opIx (eL ds) (.int 0) = some (.int (ds.getD 0 0)) := ix_eL (k := 0) (by omega)
  have e1 : D.lst [.int 1, .int 2, .int 3, .int 4, .int 6, .int 8, .int 9, .int 12, .int 5, .int 10, .int 18, .int 30] = eL someL := rfl
  simp only [p_dSeq, p_dSet, p_dL, p_dcons, p_dnil, p_dc, bnd_some, p_opLst, List.length_cons, List.length_nil, Nat.reduceAdd, Nat.reduceLeDiff, if_true, e1, p_d2, p_dv, b_mc, b_mn, b_ac, b_an, b_rs, b_rz, Nat.reduceSub, lk_z, lk_s, st_z, st_s, h0, hs]
  unfold m_law_numbers_c1
  rw [comp_all (fun i : Nat => D.int i) (fun i => D.int (someL.getD (ds.getD (1 + i) 0 % s) 1)) (List.range m) (by simp only [bnd_some, bnd_none, p_dc, p_dv, lk_z, lk_s, st_z, st_s, un_z, un_s, wipe_n, wipe_c, p_d2, p_d1, p_dnil, p_dcons, p_dL, p_asB, p_asI, p_asL, p_asSeqL, p_asSeqT, p_bV, p_dB, p_bAnd, p_bOr, p_bNot, p_dIf, p_dAnd, p_dOr, p_dNot, p_dCh, p_bYes, p_gN, p_gT, p_gsNil, p_gsCons, p_dNx, p_dRet, p_dSet, p_dIfS, p_dAsg, p_dPar, p_dAug, p_dApp, p_dSetIx, p_nLst, p_nRep, p_nOf, p_dSetN, p_dParN1, p_dParNN, p_iSeq, p_iRng1, p_iRng2, p_oNo, p_oIx, p_dSl, p_asIx, p_opTup, p_opLst, p_lenT, p_lenL, p_lenS, p_tupT, p_tupL, p_add, p_sub, p_mul, p_lt, p_le, p_gt, p_ge, p_eqI, p_neI, p_isN, p_isnN, p_isB, p_isnB, p_isNone_n, p_isNone_i, p_isNone_t, p_isNone_l, p_appL, p_appT, b_mc, b_mn, b_ac, b_an, b_rs, b_rz, b_lc, b_ln, b_it, b_if, b_itt, b_iff, p_dSeq, p_eqB, p_neB, len_eT, len_eR, len_eV, isNone_eO, seq_eT, seq_eR, seq_eV, seq_eL, eO_some, eO_none, len_eL, ↓p_eqN, ↓p_neN, ↓p_ltN, ↓p_leN, ↓p_gtN, ↓p_geN, rng1 (n := m) (by omega)]) (by simp; omega) (by
    intro i hi
    have hi := List.mem_range.mp hi
    refine ⟨_, rfl, ?_⟩
    have a1 := ix_eLz (ds := ds) (k := 1 + (i : Int)) (1 + i) (by omega) (by omega)
    have a2 := mod_n (a := ds.getD (1 + i) 0) hs0
    have a3 := ix_someL (r := ds.getD (1 + i) 0 % s) (Nat.lt_of_lt_of_le (Nat.mod_lt _ hs0) hs1)
    simp only [bnd_some, bnd_none, p_dc, p_dv, lk_z, lk_s, st_z, st_s, un_z, un_s, wipe_n, wipe_c, p_d2, p_d1, p_dnil, p_dcons, p_dL, p_asB, p_asI, p_asL, p_asSeqL, p_asSeqT, p_bV, p_dB, p_bAnd, p_bOr, p_bNot, p_dIf, p_dAnd, p_dOr, p_dNot, p_dCh, p_bYes, p_gN, p_gT, p_gsNil, p_gsCons, p_dNx, p_dRet, p_dSet, p_dIfS, p_dAsg, p_dPar, p_dAug, p_dApp, p_dSetIx, p_nLst, p_nRep, p_nOf, p_dSetN, p_dParN1, p_dParNN, p_iSeq, p_iRng1, p_iRng2, p_oNo, p_oIx, p_dSl, p_asIx, p_opTup, p_opLst, p_lenT, p_lenL, p_lenS, p_tupT, p_tupL, p_add, p_sub, p_mul, p_lt, p_le, p_gt, p_ge, p_eqI, p_neI, p_isN, p_isnN, p_isB, p_isnB, p_isNone_n, p_isNone_i, p_isNone_t, p_isNone_l, p_appL, p_appT, b_mc, b_mn, b_ac, b_an, b_rs, b_rz, b_lc, b_ln, b_it, b_if, b_itt, b_iff, p_dSeq, p_eqB, p_neB, len_eT, len_eR, len_eV, isNone_eO, seq_eT, seq_eR, seq_eV, seq_eL, eO_some, eO_none, len_eL, ↓p_eqN, ↓p_neN, ↓p_ltN, ↓p_leN, ↓p_gtN, ↓p_geN, a1, a2, a3]),
   ]
  simp only [bnd_some, bnd_none, p_dc, p_dv, lk_z, lk_s, st_z, st_s, un_z, un_s, wipe_n, wipe_c, p_d2, p_d1, p_dnil, p_dcons, p_dL, p_asB, p_asI, p_asL, p_asSeqL, p_asSeqT, p_bV, p_dB, p_bAnd, p_bOr, p_bNot, p_dIf, p_dAnd, p_dOr, p_dNot, p_dCh, p_bYes, p_gN, p_gT, p_gsNil, p_gsCons, p_dNx, p_dRet, p_dSet, p_dIfS, p_dAsg, p_dPar, p_dAug, p_dApp, p_dSetIx, p_nLst, p_nRep, p_nOf, p_dSetN, p_dParN1, p_dParNN, p_iSeq, p_iRng1, p_iRng2, p_oNo, p_oIx, p_dSl, p_asIx, p_opTup, p_opLst, p_lenT, p_lenL, p_lenS, p_tupT, p_tupL, p_add, p_sub, p_mul, p_lt, p_le, p_gt, p_ge, p_eqI, p_neI, p_isN, p_isnN, p_isB, p_isnB, p_isNone_n, p_isNone_i, p_isNone_t, p_isNone_l, p_appL, p_appT, b_mc, b_mn, b_ac, b_an, b_rs, b_rz, b_lc, b_ln, b_it, b_if, b_itt, b_iff, p_dSeq, p_eqB, p_neB, len_eT, len_eR, len_eV, isNone_eO, seq_eT, seq_eR, seq_eV, seq_eL, eO_some, eO_none, len_eL, ↓p_eqN, ↓p_neN, ↓p_ltN, ↓p_leN, ↓p_gtN, ↓p_geN]
  unfold m_law_numbers_c2
  rw [comp_all (fun i : Nat => D.int i) (fun i => D.int (someL.getD (ds.getD (6 + i) 0 % s) 1)) (List.range w) (by simp only [bnd_some, bnd_none, p_dc, p_dv, lk_z, lk_s, st_z, st_s, un_z, un_s, wipe_n, wipe_c, p_d2, p_d1, p_dnil, p_dcons, p_dL, p_asB, p_asI, p_asL, p_asSeqL, p_asSeqT, p_bV, p_dB, p_bAnd, p_bOr, p_bNot, p_dIf, p_dAnd, p_dOr, p_dNot, p_dCh, p_bYes, p_gN, p_gT, p_gsNil, p_gsCons, p_dNx, p_dRet, p_dSet, p_dIfS, p_dAsg, p_dPar, p_dAug, p_dApp, p_dSetIx, p_nLst, p_nRep, p_nOf, p_dSetN, p_dParN1, p_dParNN, p_iSeq, p_iRng1, p_iRng2, p_oNo, p_oIx, p_dSl, p_asIx, p_opTup, p_opLst, p_lenT, p_lenL, p_lenS, p_tupT, p_tupL, p_add, p_sub, p_mul, p_lt, p_le, p_gt, p_ge, p_eqI, p_neI, p_isN, p_isnN, p_isB, p_isnB, p_isNone_n, p_isNone_i, p_isNone_t, p_isNone_l, p_appL, p_appT, b_mc, b_mn, b_ac, b_an, b_rs, b_rz, b_lc, b_ln, b_it, b_if, b_itt, b_iff, p_dSeq, p_eqB, p_neB, len_eT, len_eR, len_eV, isNone_eO, seq_eT, seq_eR, seq_eV, seq_eL, eO_some, eO_none, len_eL, ↓p_eqN, ↓p_neN, ↓p_ltN, ↓p_leN, ↓p_gtN, ↓p_geN, rng1 (n := w) (by omega)]) (by simp; omega) (by
    intro i hi
    have hi := List.mem_range.mp hi
    refine ⟨_, rfl, ?_⟩
    have a1 := ix_eLz (ds := ds) (k := 6 + (i : Int)) (6 + i) (by omega) (by omega)
    have a2 := mod_n (a := ds.getD (6 + i) 0) hs0
    have a3 := ix_someL (r := ds.getD (6 + i) 0 % s) (Nat.lt_of_lt_of_le (Nat.mod_lt _ hs0) hs1)
    simp only [bnd_some, bnd_none, p_dc, p_dv, lk_z, lk_s, st_z, st_s, un_z, un_s, wipe_n, wipe_c, p_d2, p_d1, p_dnil, p_dcons, p_dL, p_asB, p_asI, p_asL, p_asSeqL, p_asSeqT, p_bV, p_dB, p_bAnd, p_bOr, p_bNot, p_dIf, p_dAnd, p_dOr, p_dNot, p_dCh, p_bYes, p_gN, p_gT, p_gsNil, p_gsCons, p_dNx, p_dRet, p_dSet, p_dIfS, p_dAsg, p_dPar, p_dAug, p_dApp, p_dSetIx, p_nLst, p_nRep, p_nOf, p_dSetN, p_dParN1, p_dParNN, p_iSeq, p_iRng1, p_iRng2, p_oNo, p_oIx, p_dSl, p_asIx, p_opTup, p_opLst, p_lenT, p_lenL, p_lenS, p_tupT, p_tupL, p_add, p_sub, p_mul, p_lt, p_le, p_gt, p_ge, p_eqI, p_neI, p_isN, p_isnN, p_isB, p_isnB, p_isNone_n, p_isNone_i, p_isNone_t, p_isNone_l, p_appL, p_appT, b_mc, b_mn, b_ac, b_an, b_rs, b_rz, b_lc, b_ln, b_it, b_if, b_itt, b_iff, p_dSeq, p_eqB, p_neB, len_eT, len_eR, len_eV, isNone_eO, seq_eT, seq_eR, seq_eV, seq_eL, eO_some, eO_none, len_eL, ↓p_eqN, ↓p_neN, ↓p_ltN, ↓p_leN, ↓p_gtN, ↓p_geN, a1, a2, a3])]
  simp only [bnd_some, bnd_none, p_dc, p_dv, lk_z, lk_s, st_z, st_s, un_z, un_s, wipe_n, wipe_c, p_d2, p_d1, p_dnil, p_dcons, p_dL, p_asB, p_asI, p_asL, p_asSeqL, p_asSeqT, p_bV, p_dB, p_bAnd, p_bOr, p_bNot, p_dIf, p_dAnd, p_dOr, p_dNot, p_dCh, p_bYes, p_gN, p_gT, p_gsNil, p_gsCons, p_dNx, p_dRet, p_dSet, p_dIfS, p_dAsg, p_dPar, p_dAug, p_dApp, p_dSetIx, p_nLst, p_nRep, p_nOf, p_dSetN, p_dParN1, p_dParNN, p_iSeq, p_iRng1, p_iRng2, p_oNo, p_oIx, p_dSl, p_asIx, p_opTup, p_opLst, p_lenT, p_lenL, p_lenS, p_tupT, p_tupL, p_add, p_sub, p_mul, p_lt, p_le, p_gt, p_ge, p_eqI, p_neI, p_isN, p_isnN, p_isB, p_isnB, p_isNone_n, p_isNone_i, p_isNone_t, p_isNone_l, p_appL, p_appT, b_mc, b_mn, b_ac, b_an, b_rs, b_rz, b_lc, b_ln, b_it, b_if, b_itt, b_iff, p_dSeq, p_eqB, p_neB, len_eT, len_eR, len_eV, isNone_eO, seq_eT, seq_eR, seq_eV, seq_eL, eO_some, eO_none, len_eL, ↓p_eqN, ↓p_neN, ↓p_ltN, ↓p_leN, ↓p_gtN, ↓p_geN, Nat.reduceAdd, Nat.reduceLeDiff]
  rfl
theorem table_m {m w : Nat} {R C : Nat → Nat} (hm : m ≤ 100) (hw : w ≤ 100) (hR : ∀ i, 0 < R i ∧ R i ≤ 1000000000) (hC : ∀ i, 0 < C i ∧ C i ≤ 1000000000) :
    m_law_table [eV m R, eV w C] = some (eT m w fun i j => some (Nat.lcm (R i) (C j))) := by
  refine run_rt rfl ?_
  simp only [p_dRet, p_dL, p_dcons, p_dnil]
  unfold m_law_table_c2
  rw [comp_all (fun i : Nat => D.int (R i)) (fun i => eR w (fun j => some (Nat.lcm (R i) (C j)))) (List.range m) (by simp) (by simp; omega) (by
    intro i _
    refine ⟨_, rfl, ?_⟩
    simp only [p_dL, p_dcons, p_dnil]
    unfold m_law_table_c1
    rw [comp_all (fun j : Nat => D.int (C j)) (fun j => D.int (Nat.lcm (R i) (C j))) (List.range w) (by simp) (by simp; omega) (by
      intro j _
      refine ⟨_, rfl, ?_⟩
      have := hC j
      have := hR i
      have l := llcm_m (a := R i) (b := C j) (by omega) (by omega) (Nat.lt_of_le_of_lt (Nat.gcd_le_left _ (by omega)) (show R i < _ by omega))
      simp only [bnd_some, bnd_none, p_dc, p_dv, lk_z, lk_s, st_z, st_s, un_z, un_s, wipe_n, wipe_c, p_d2, p_d1, p_dnil, p_dcons, p_dL, p_asB, p_asI, p_asL, p_asSeqL, p_asSeqT, p_bV, p_dB, p_bAnd, p_bOr, p_bNot, p_dIf, p_dAnd, p_dOr, p_dNot, p_dCh, p_bYes, p_gN, p_gT, p_gsNil, p_gsCons, p_dNx, p_dRet, p_dSet, p_dIfS, p_dAsg, p_dPar, p_dAug, p_dApp, p_dSetIx, p_nLst, p_nRep, p_nOf, p_dSetN, p_dParN1, p_dParNN, p_iSeq, p_iRng1, p_iRng2, p_oNo, p_oIx, p_dSl, p_asIx, p_opTup, p_opLst, p_lenT, p_lenL, p_lenS, p_tupT, p_tupL, p_add, p_sub, p_mul, p_lt, p_le, p_gt, p_ge, p_eqI, p_neI, p_isN, p_isnN, p_isB, p_isnB, p_isNone_n, p_isNone_i, p_isNone_t, p_isNone_l, p_appL, p_appT, b_mc, b_mn, b_ac, b_an, b_rs, b_rz, b_lc, b_ln, b_it, b_if, b_itt, b_iff, p_dSeq, p_eqB, p_neB, len_eT, len_eR, len_eV, isNone_eO, seq_eT, seq_eR, seq_eV, seq_eL, eO_some, eO_none, len_eL, ↓p_eqN, ↓p_neN, ↓p_ltN, ↓p_leN, ↓p_gtN, ↓p_geN, l])]
    simp [eR])]
  simp [eT]
theorem lcm_pos {a b : Nat} (ha : 0 < a) (hb : 0 < b) : 0 < Nat.lcm a b := Nat.lcm_pos ha hb
theorem lcm_le {a b : Nat} : Nat.lcm a b ≤ a * b := by
  unfold Nat.lcm
  exact Nat.div_le_self _ _
theorem tab_lcm {m w : Nat} {R C : Nat → Nat} (m0 : 0 < m) (w0 : 0 < w) (hm : m ≤ 100) (hw : w ≤ 100) (hR : ∀ i, 0 < R i ∧ R i ≤ 1000000000) (hC : ∀ i, 0 < C i ∧ C i ≤ 1000000000) : Tab m w fun i j => some (Nat.lcm (R i) (C j)) where
  m0 := m0
  m1 := hm
  w0 := w0
  w1 := hw
  bd := fun i j e q => by
    cases q
    have h1 := hR i
    have h2 := hC j
    exact ⟨lcm_pos h1.1 h2.1, Nat.le_trans lcm_le (Nat.mul_le_mul h1.2 h2.2)⟩
theorem hidden_m {m w : Nat} {T : Nat → Nat → Option Nat} {ds : List Nat} {often : Nat} (h : Tab m w T) (hd : 0 < ds.length) (ho : 0 < often) :
    ∃ hid : Nat → Nat → Bool, m_law_hidden [eT m w T, eL ds, .int often] = some (eT m w fun i j => if hid i j = true then none else T i j) := by
  have hm1 := h.m1
  have hw1 := h.w1
  let hid : Nat → Nat → Bool := fun i j => decide (ds.getD ((i * w + j) % ds.length) 0 % often = 0)
  refine ⟨hid, run_rt rfl ?_⟩
  let T' : Nat → Nat → Option Nat := fun i j => if hid i j = true then none else T i j
  have inner : ∀ (i : Nat) (acc : List D) (x : Option D), ∃ ρ', forL (gN 7) m_law_hidden_b1 ((List.range w).map fun j => eO (T i j)) [some (eT m w T), some (eL ds), some (.int often), some (.lst acc), some (.int ((i * w : Nat) : Int)), some (eR w (T i)), some (.lst []), x] = some (.nx ρ') ∧
      ∃ y, ρ' = [some (eT m w T), some (eL ds), some (.int often), some (.lst acc), some (.int ((i * w + w : Nat) : Int)), some (eR w (T i)), some (.lst ((List.range w).map fun j => eO (T' i j))), y] := by
    intro i acc x
    refine for_range (fun j => eO (T i j)) (fun j ρ => ∃ y, ρ = [some (eT m w T), some (eL ds), some (.int often), some (.lst acc), some (.int ((i * w + j : Nat) : Int)), some (eR w (T i)), some (.lst ((List.range j).map fun j => eO (T' i j))), y]) w ?_ ⟨x, rfl⟩
    rintro j hj ρ ⟨y, rfl⟩
    refine ⟨_, rfl, [some (eT m w T), some (eL ds), some (.int often), some (.lst acc), some (.int ((i * w + (j + 1) : Nat) : Int)), some (eR w (T i)), some (.lst ((List.range (j + 1)).map fun j => eO (T' i j))), some (eO (T i j))], ?_, _, rfl⟩
    have a1 := mod_n (a := i * w + j) hd
    have a2 := ix_eL (k := (i * w + j) % ds.length) (Nat.mod_lt _ hd)
    have a3 := mod_n (a := ds.getD ((i * w + j) % ds.length) 0) ho
    have a4 : ((List.range j).map fun j => eO (T' i j)).length < 16777216 := by simp; omega
    have a5 : (((i * w + (j + 1) : Nat)) : Int) = ((i * w + j : Nat) : Int) + 1 := by omega
    rw [a5, List.range_succ, List.map_append]
    by_cases q : ds.getD ((i * w + j) % ds.length) 0 % often = 0
    · have q2 : ((ds.getD ((i * w + j) % ds.length) 0 % often : Nat) : Int) = 0 := by omega
      have q3 : T' i j = none := by simp only [T', hid, decide_eq_true q, if_true]
      simp only [m_law_hidden_b1, bnd_some, bnd_none, p_dc, p_dv, lk_z, lk_s, st_z, st_s, un_z, un_s, wipe_n, wipe_c, p_d2, p_d1, p_dnil, p_dcons, p_dL, p_asB, p_asI, p_asL, p_asSeqL, p_asSeqT, p_bV, p_dB, p_bAnd, p_bOr, p_bNot, p_dIf, p_dAnd, p_dOr, p_dNot, p_dCh, p_bYes, p_gN, p_gT, p_gsNil, p_gsCons, p_dNx, p_dRet, p_dSet, p_dIfS, p_dAsg, p_dPar, p_dAug, p_dApp, p_dSetIx, p_nLst, p_nRep, p_nOf, p_dSetN, p_dParN1, p_dParNN, p_iSeq, p_iRng1, p_iRng2, p_oNo, p_oIx, p_dSl, p_asIx, p_opTup, p_opLst, p_lenT, p_lenL, p_lenS, p_tupT, p_tupL, p_add, p_sub, p_mul, p_lt, p_le, p_gt, p_ge, p_eqI, p_neI, p_isN, p_isnN, p_isB, p_isnB, p_isNone_n, p_isNone_i, p_isNone_t, p_isNone_l, p_appL, p_appT, b_mc, b_mn, b_ac, b_an, b_rs, b_rz, b_lc, b_ln, b_it, b_if, b_itt, b_iff, p_dSeq, p_eqB, p_neB, len_eT, len_eR, len_eV, isNone_eO, seq_eT, seq_eR, seq_eV, seq_eL, eO_some, eO_none, len_eL, ↓p_eqN, ↓p_neN, ↓p_ltN, ↓p_leN, ↓p_gtN, ↓p_geN, a1, a2, a3, decide_eq_true q2, if_pos a4, q3]
    · have q2 : ¬ ((ds.getD ((i * w + j) % ds.length) 0 % often : Nat) : Int) = 0 := by omega
      have q3 : T' i j = T i j := by simp only [T', hid, decide_eq_false q]; rfl
      simp only [m_law_hidden_b1, bnd_some, bnd_none, p_dc, p_dv, lk_z, lk_s, st_z, st_s, un_z, un_s, wipe_n, wipe_c, p_d2, p_d1, p_dnil, p_dcons, p_dL, p_asB, p_asI, p_asL, p_asSeqL, p_asSeqT, p_bV, p_dB, p_bAnd, p_bOr, p_bNot, p_dIf, p_dAnd, p_dOr, p_dNot, p_dCh, p_bYes, p_gN, p_gT, p_gsNil, p_gsCons, p_dNx, p_dRet, p_dSet, p_dIfS, p_dAsg, p_dPar, p_dAug, p_dApp, p_dSetIx, p_nLst, p_nRep, p_nOf, p_dSetN, p_dParN1, p_dParNN, p_iSeq, p_iRng1, p_iRng2, p_oNo, p_oIx, p_dSl, p_asIx, p_opTup, p_opLst, p_lenT, p_lenL, p_lenS, p_tupT, p_tupL, p_add, p_sub, p_mul, p_lt, p_le, p_gt, p_ge, p_eqI, p_neI, p_isN, p_isnN, p_isB, p_isnB, p_isNone_n, p_isNone_i, p_isNone_t, p_isNone_l, p_appL, p_appT, b_mc, b_mn, b_ac, b_an, b_rs, b_rz, b_lc, b_ln, b_it, b_if, b_itt, b_iff, p_dSeq, p_eqB, p_neB, len_eT, len_eR, len_eV, isNone_eO, seq_eT, seq_eR, seq_eV, seq_eL, eO_some, eO_none, len_eL, ↓p_eqN, ↓p_neN, ↓p_ltN, ↓p_leN, ↓p_gtN, ↓p_geN, a1, a2, a3, decide_eq_false q2, if_pos a4, q3]
  obtain ⟨ρ', h1, x, y, z, h3⟩ := for_range (g := gN 5) (b := m_law_hidden_b2) (fun i => eR w (T i))
    (fun (i : Nat) (ρ : Rho) => ∃ x y z, ρ = [some (eT m w T), some (eL ds), some (.int often), some (.lst ((List.range i).map fun i => eR w (T' i))), some (.int ((i * w : Nat) : Int)), x, y, z]) m (by
      rintro i hi ρ ⟨x, y, z, rfl⟩
      obtain ⟨ρ', b1, y', b2⟩ := inner i ((List.range i).map fun i => eR w (T' i)) z
      subst b2
      refine ⟨_, rfl, [some (eT m w T), some (eL ds), some (.int often), some (.lst ((List.range (i + 1)).map fun i => eR w (T' i))), some (.int (((i + 1) * w : Nat) : Int)), some (eR w (T i)), some (.lst ((List.range w).map fun j => eO (T' i j))), y'], ?_, _, _, _, rfl⟩
      have hl : ((List.range i).map fun i => eR w (T' i)).length < 16777216 := by simp; omega
      have hf : dFor (iSeq (dv 5)) (gN 7) m_law_hidden_b1 [some (eT m w T), some (eL ds), some (.int often), some (.lst ((List.range i).map fun i => eR w (T' i))), some (.int ((i * w : Nat) : Int)), some (eR w (T i)), some (.lst []), z] = _ := (for_eq (by simp only [bnd_some, bnd_none, p_dc, p_dv, lk_z, lk_s, st_z, st_s, un_z, un_s, wipe_n, wipe_c, p_d2, p_d1, p_dnil, p_dcons, p_dL, p_asB, p_asI, p_asL, p_asSeqL, p_asSeqT, p_bV, p_dB, p_bAnd, p_bOr, p_bNot, p_dIf, p_dAnd, p_dOr, p_dNot, p_dCh, p_bYes, p_gN, p_gT, p_gsNil, p_gsCons, p_dNx, p_dRet, p_dSet, p_dIfS, p_dAsg, p_dPar, p_dAug, p_dApp, p_dSetIx, p_nLst, p_nRep, p_nOf, p_dSetN, p_dParN1, p_dParNN, p_iSeq, p_iRng1, p_iRng2, p_oNo, p_oIx, p_dSl, p_asIx, p_opTup, p_opLst, p_lenT, p_lenL, p_lenS, p_tupT, p_tupL, p_add, p_sub, p_mul, p_lt, p_le, p_gt, p_ge, p_eqI, p_neI, p_isN, p_isnN, p_isB, p_isnB, p_isNone_n, p_isNone_i, p_isNone_t, p_isNone_l, p_appL, p_appT, b_mc, b_mn, b_ac, b_an, b_rs, b_rz, b_lc, b_ln, b_it, b_if, b_itt, b_iff, p_dSeq, p_eqB, p_neB, len_eT, len_eR, len_eV, isNone_eO, seq_eT, seq_eR, seq_eV, seq_eL, eO_some, eO_none, len_eL, ↓p_eqN, ↓p_neN, ↓p_ltN, ↓p_leN, ↓p_gtN, ↓p_geN])).trans b1
      rw [List.range_succ, List.map_append, show (i + 1) * w = i * w + w from Nat.succ_mul i w]
      simp only [m_law_hidden_b2, bnd_some, bnd_none, p_dc, p_dv, lk_z, lk_s, st_z, st_s, un_z, un_s, wipe_n, wipe_c, p_d2, p_d1, p_dnil, p_dcons, p_dL, p_asB, p_asI, p_asL, p_asSeqL, p_asSeqT, p_bV, p_dB, p_bAnd, p_bOr, p_bNot, p_dIf, p_dAnd, p_dOr, p_dNot, p_dCh, p_bYes, p_gN, p_gT, p_gsNil, p_gsCons, p_dNx, p_dRet, p_dSet, p_dIfS, p_dAsg, p_dPar, p_dAug, p_dApp, p_dSetIx, p_nLst, p_nRep, p_nOf, p_dSetN, p_dParN1, p_dParNN, p_iSeq, p_iRng1, p_iRng2, p_oNo, p_oIx, p_dSl, p_asIx, p_opTup, p_opLst, p_lenT, p_lenL, p_lenS, p_tupT, p_tupL, p_add, p_sub, p_mul, p_lt, p_le, p_gt, p_ge, p_eqI, p_neI, p_isN, p_isnN, p_isB, p_isnB, p_isNone_n, p_isNone_i, p_isNone_t, p_isNone_l, p_appL, p_appT, b_mc, b_mn, b_ac, b_an, b_rs, b_rz, b_lc, b_ln, b_it, b_if, b_itt, b_iff, p_dSeq, p_eqB, p_neB, len_eT, len_eR, len_eV, isNone_eO, seq_eT, seq_eR, seq_eV, seq_eL, eO_some, eO_none, len_eL, ↓p_eqN, ↓p_neN, ↓p_ltN, ↓p_leN, ↓p_gtN, ↓p_geN, Nat.reduceLeDiff, hf, if_pos hl]
      rfl) (ρ := [some (eT m w T), some (eL ds), some (.int often), some (.lst []), some (.int 0), none, none, none]) ⟨none, none, none, by simp⟩
  subst h3
  have hf := (for_eq (it := iSeq (dv 0)) (ρ := [some (eT m w T), some (eL ds), some (.int often), some (.lst []), some (.int 0), none, none, none]) (by simp only [bnd_some, bnd_none, p_dc, p_dv, lk_z, lk_s, st_z, st_s, un_z, un_s, wipe_n, wipe_c, p_d2, p_d1, p_dnil, p_dcons, p_dL, p_asB, p_asI, p_asL, p_asSeqL, p_asSeqT, p_bV, p_dB, p_bAnd, p_bOr, p_bNot, p_dIf, p_dAnd, p_dOr, p_dNot, p_dCh, p_bYes, p_gN, p_gT, p_gsNil, p_gsCons, p_dNx, p_dRet, p_dSet, p_dIfS, p_dAsg, p_dPar, p_dAug, p_dApp, p_dSetIx, p_nLst, p_nRep, p_nOf, p_dSetN, p_dParN1, p_dParNN, p_iSeq, p_iRng1, p_iRng2, p_oNo, p_oIx, p_dSl, p_asIx, p_opTup, p_opLst, p_lenT, p_lenL, p_lenS, p_tupT, p_tupL, p_add, p_sub, p_mul, p_lt, p_le, p_gt, p_ge, p_eqI, p_neI, p_isN, p_isnN, p_isB, p_isnB, p_isNone_n, p_isNone_i, p_isNone_t, p_isNone_l, p_appL, p_appT, b_mc, b_mn, b_ac, b_an, b_rs, b_rz, b_lc, b_ln, b_it, b_if, b_itt, b_iff, p_dSeq, p_eqB, p_neB, len_eT, len_eR, len_eV, isNone_eO, seq_eT, seq_eR, seq_eV, seq_eL, eO_some, eO_none, len_eL, ↓p_eqN, ↓p_neN, ↓p_ltN, ↓p_leN, ↓p_gtN, ↓p_geN])).trans h1
  simp only [bnd_some, bnd_none, p_dc, p_dv, lk_z, lk_s, st_z, st_s, un_z, un_s, wipe_n, wipe_c, p_d2, p_d1, p_dnil, p_dcons, p_dL, p_asB, p_asI, p_asL, p_asSeqL, p_asSeqT, p_bV, p_dB, p_bAnd, p_bOr, p_bNot, p_dIf, p_dAnd, p_dOr, p_dNot, p_dCh, p_bYes, p_gN, p_gT, p_gsNil, p_gsCons, p_dNx, p_dRet, p_dSet, p_dIfS, p_dAsg, p_dPar, p_dAug, p_dApp, p_dSetIx, p_nLst, p_nRep, p_nOf, p_dSetN, p_dParN1, p_dParNN, p_iSeq, p_iRng1, p_iRng2, p_oNo, p_oIx, p_dSl, p_asIx, p_opTup, p_opLst, p_lenT, p_lenL, p_lenS, p_tupT, p_tupL, p_add, p_sub, p_mul, p_lt, p_le, p_gt, p_ge, p_eqI, p_neI, p_isN, p_isnN, p_isB, p_isnB, p_isNone_n, p_isNone_i, p_isNone_t, p_isNone_l, p_appL, p_appT, b_mc, b_mn, b_ac, b_an, b_rs, b_rz, b_lc, b_ln, b_it, b_if, b_itt, b_iff, p_dSeq, p_eqB, p_neB, len_eT, len_eR, len_eV, isNone_eO, seq_eT, seq_eR, seq_eV, seq_eL, eO_some, eO_none, len_eL, ↓p_eqN, ↓p_neN, ↓p_ltN, ↓p_leN, ↓p_gtN, ↓p_geN, Nat.reduceLeDiff, Nat.reduceSub, hf]
  rfl
end Mi
namespace Mi
open DL
structure DvM (M : Nat) (T : Nat → Nat → Option Nat) : Prop where
  pos : 0 < M
  le : M ≤ 1000000000
  dvd : ∀ i j e, T i j = some e → e ∣ M
end Mi
namespace Mi
open DL
end Mi
namespace Mi
open DL
theorem same_bool_m (a b : Bool) : m_law_same_bool [.bl a, .bl b] = some (.bl (decide (a = b))) := by
  refine run_rt rfl ?_
  have : opIsi "bool" (.bl a) = some (.bl true) := rfl
  simp only [bnd_some, bnd_none, p_dc, p_dv, lk_z, lk_s, st_z, st_s, un_z, un_s, wipe_n, wipe_c, p_d2, p_d1, p_dnil, p_dcons, p_dL, p_asB, p_asI, p_asL, p_asSeqL, p_asSeqT, p_bV, p_dB, p_bAnd, p_bOr, p_bNot, p_dIf, p_dAnd, p_dOr, p_dNot, p_dCh, p_bYes, p_gN, p_gT, p_gsNil, p_gsCons, p_dNx, p_dRet, p_dSet, p_dIfS, p_dAsg, p_dPar, p_dAug, p_dApp, p_dSetIx, p_nLst, p_nRep, p_nOf, p_dSetN, p_dParN1, p_dParNN, p_iSeq, p_iRng1, p_iRng2, p_oNo, p_oIx, p_dSl, p_asIx, p_opTup, p_opLst, p_lenT, p_lenL, p_lenS, p_tupT, p_tupL, p_add, p_sub, p_mul, p_lt, p_le, p_gt, p_ge, p_eqI, p_neI, p_isN, p_isnN, p_isB, p_isnB, p_isNone_n, p_isNone_i, p_isNone_t, p_isNone_l, p_appL, p_appT, b_mc, b_mn, b_ac, b_an, b_rs, b_rz, b_lc, b_ln, b_it, b_if, b_itt, b_iff, p_dSeq, p_eqB, p_neB, len_eT, len_eR, len_eV, isNone_eO, seq_eT, seq_eR, seq_eV, seq_eL, eO_some, eO_none, len_eL, ↓p_eqN, ↓p_neN, ↓p_ltN, ↓p_leN, ↓p_gtN, ↓p_geN, this]
/-- sizes and numbers -/
theorem size_m (d n : Nat) (k : Int) (hk : k = (n : Int)) (hn : 0 < n) (hn5 : n ≤ 5) : ∃ m : Nat, 0 < m ∧ m ≤ 5 ∧ (bnd (opMod (.int d) (.int k)) fun y => opAdd (.int 1) y) = some (.int m) := by
  subst hk
  rw [mod_n hn]
  have := Nat.mod_lt d hn
  refine ⟨d % n + 1, by omega, by omega, ?_⟩
  simp only [bnd_some, bnd_none, p_dc, p_dv, lk_z, lk_s, st_z, st_s, un_z, un_s, wipe_n, wipe_c, p_d2, p_d1, p_dnil, p_dcons, p_dL, p_asB, p_asI, p_asL, p_asSeqL, p_asSeqT, p_bV, p_dB, p_bAnd, p_bOr, p_bNot, p_dIf, p_dAnd, p_dOr, p_dNot, p_dCh, p_bYes, p_gN, p_gT, p_gsNil, p_gsCons, p_dNx, p_dRet, p_dSet, p_dIfS, p_dAsg, p_dPar, p_dAug, p_dApp, p_dSetIx, p_nLst, p_nRep, p_nOf, p_dSetN, p_dParN1, p_dParNN, p_iSeq, p_iRng1, p_iRng2, p_oNo, p_oIx, p_dSl, p_asIx, p_opTup, p_opLst, p_lenT, p_lenL, p_lenS, p_tupT, p_tupL, p_add, p_sub, p_mul, p_lt, p_le, p_gt, p_ge, p_eqI, p_neI, p_isN, p_isnN, p_isB, p_isnB, p_isNone_n, p_isNone_i, p_isNone_t, p_isNone_l, p_appL, p_appT, b_mc, b_mn, b_ac, b_an, b_rs, b_rz, b_lc, b_ln, b_it, b_if, b_itt, b_iff, p_dSeq, p_eqB, p_neB, len_eT, len_eR, len_eV, isNone_eO, seq_eT, seq_eR, seq_eV, seq_eL, eO_some, eO_none, len_eL, ↓p_eqN, ↓p_neN, ↓p_ltN, ↓p_leN, ↓p_gtN, ↓p_geN]
  congr 2
  omega
end Mi
namespace Mi
open DL
end Mi
namespace Mi
open DL
end Mi
namespace Mi
open DL
def colE (m w : Nat) (T : Nat → Nat → Option Nat) (j : Nat) : List Nat := ((kp m w T).filter fun p => decide (p.2 = j)).map fun p => (T p.1 p.2).getD 0
end Mi
namespace Mi
open DL
def divs (n : Nat) : List Nat := ((List.range n).filter fun i => decide (n % (i + 1) = 0)).map (· + 1)
def eI (v : List Nat) : D := .tup (v.map fun n => .int (n : Nat))
end Mi
namespace Mi
open DL
structure Cov (m w : Nat) (T : Nat → Nat → Option Nat) : Prop where
  row : ∀ i, i < m → ∃ j, j < w ∧ ∃ e, T i j = some e
  col : ∀ j, j < w → ∃ i, i < m ∧ ∃ e, T i j = some e
def colP (m w : Nat) (T : Nat → Nat → Option Nat) (j : Nat) : List (Nat × Nat) := (kp m w T).filter fun p => decide (p.2 = j)
def good (m w : Nat) (T : Nat → Nat → Option Nat) (v : List Nat) (j : Nat) : List Nat := (divs ((colE m w T j).headD 0)).filter fun one => (colP m w T j).all fun p => decide (Nat.lcm one (v.getD p.1 0) = (T p.1 p.2).getD 0)
end Mi
namespace Mi
open DL
end Mi
namespace Mi
/-- how often p divides n -/
def ex (p n : Nat) : Nat := if h : 2 ≤ p ∧ 0 < n ∧ n % p = 0 then ex p (n / p) + 1 else 0
termination_by n
decreasing_by exact Nat.div_lt_self h.2.1 h.1
end Mi
namespace Mi
open DL
end Mi
namespace Mi
open DL
theorem compL2_map {α β : Type} {g : DG} {it2 : DFs} {g2 : DG} {t : DB} {e : DF} {vs1 : List Nat} {ρ : Rho} (en : α → D) (en2 : β → D) (ys : α → List β) (p : α → β → Bool) (q : α → β → D) : ∀ (xs : List α),
    (∀ x ∈ xs, ∃ ρ1, g (en x) ρ = some ρ1 ∧ it2 ρ1 = some ((ys x).map en2) ∧ ∀ y ∈ ys x, ∃ ρ2, g2 (en2 y) (wipeR ρ1 vs1) = some ρ2 ∧ t ρ2 = some (p x y) ∧ (p x y = true → e ρ2 = some (q x y))) →
    compL2 g it2 g2 t e vs1 ρ (xs.map en) = some (xs.flatMap fun x => ((ys x).filter (p x)).map (q x))
  | [], _ => rfl
  | x :: xs, hs => by
    obtain ⟨ρ1, h1, h2, h3⟩ := hs x List.mem_cons_self
    have ih := compL2_map en en2 ys p q xs fun y hy => hs y (List.mem_cons_of_mem _ hy)
    have hc := compL_map en2 (p x) (q x) (ys x) h3
    rw [List.map_cons]
    simp [compL2, h1, h2, hc, ih]
theorem comp2_if {α β : Type} {it : DFs} {g : DG} {it2 : DFs} {g2 : DG} {t : DB} {e : DF} {vs vs1 : List Nat} {ρ : Rho} (en : α → D) (en2 : β → D) (ys : α → List β) (p : α → β → Bool) (q : α → β → D) (xs : List α) (hi : it ρ = some (xs.map en))
    (hl : (xs.flatMap fun x => ((ys x).filter (p x)).map (q x)).length ≤ 16777216)
    (hs : ∀ x ∈ xs, ∃ ρ1, g (en x) (wipeR ρ vs) = some ρ1 ∧ it2 ρ1 = some ((ys x).map en2) ∧ ∀ y ∈ ys x, ∃ ρ2, g2 (en2 y) (wipeR ρ1 vs1) = some ρ2 ∧ t ρ2 = some (p x y) ∧ (p x y = true → e ρ2 = some (q x y))) :
    dComp2 it g it2 g2 t e vs vs1 ρ = some (.lst (xs.flatMap fun x => ((ys x).filter (p x)).map (q x))) := by
  unfold dComp2
  rw [hi]
  simp only [Option.bind_some]
  rw [compL2_map en en2 ys p q xs hs]
  simp only [Option.bind_some]
  exact lstOk_le hl
end Mi
namespace Mi
open DL
end Mi
namespace Mi
open DL
end Mi
namespace Mi
open DL
def Tv (T : Nat → Nat → Option Nat) (q : Nat × Nat) : Nat := (T q.1 q.2).getD 1
/-- what the sure parts are: the least numbers with the prime powers that only they can give -/
structure SureI (T : Nat → Nat → Option Nat) (R C : Nat → Nat) (Dn : Nat → Nat × Nat → Prop) (A B : Nat → Nat) : Prop where
  row : ∀ i d, A i ∣ d ↔ ∀ p q, Dn p q → q.1 = i → ex p (C q.2) < ex p (Tv T q) → p ^ ex p (Tv T q) ∣ d
  col : ∀ j d, B j ∣ d ↔ ∀ p q, Dn p q → q.2 = j → ex p (R q.1) < ex p (Tv T q) → p ^ ex p (Tv T q) ∣ d
theorem SureI.congr {T : Nat → Nat → Option Nat} {R C A B : Nat → Nat} {Dn Dn' : Nat → Nat × Nat → Prop} (h : SureI T R C Dn A B) (e : ∀ p q, Dn p q ↔ Dn' p q) : SureI T R C Dn' A B :=
  ⟨fun i d => (h.row i d).trans ⟨fun z p q hd => z p q ((e p q).mpr hd), fun z p q hd => z p q ((e p q).mp hd)⟩,
   fun j d => (h.col j d).trans ⟨fun z p q hd => z p q ((e p q).mpr hd), fun z p q hd => z p q ((e p q).mp hd)⟩⟩
def upd1 (A : Nat → Nat) (c : Bool) (i x : Nat) : Nat → Nat := fun k => if c = true ∧ k = i then Nat.lcm (A k) x else A k
theorem upd1_dvd (A : Nat → Nat) (c : Bool) (i x k d : Nat) : upd1 A c i x k ∣ d ↔ A k ∣ d ∧ (c = true → k = i → x ∣ d) := by
  unfold upd1
  by_cases h : c = true ∧ k = i
  · rw [if_pos h, Nat.lcm_dvd_iff]
    constructor
    · rintro ⟨a, b⟩; exact ⟨a, fun _ _ => b⟩
    · rintro ⟨a, b⟩; exact ⟨a, b h.1 h.2⟩
  · rw [if_neg h]
    constructor
    · intro a; exact ⟨a, fun h1 h2 => absurd ⟨h1, h2⟩ h⟩
    · intro a; exact a.1
theorem SureI.step {T : Nat → Nat → Option Nat} {R C A B : Nat → Nat} {Dn : Nat → Nat × Nat → Prop} (h : SureI T R C Dn A B) (p : Nat) (q : Nat × Nat) :
    SureI T R C (fun p' q' => Dn p' q' ∨ (p' = p ∧ q' = q)) (upd1 A (decide (ex p (C q.2) < ex p (Tv T q))) q.1 (p ^ ex p (Tv T q))) (upd1 B (decide (ex p (R q.1) < ex p (Tv T q))) q.2 (p ^ ex p (Tv T q))) := by
  constructor
  · intro i d
    rw [upd1_dvd, h.row]
    constructor
    · rintro ⟨h1, h2⟩ p' q' (hd | ⟨rfl, rfl⟩) hi hl
      · exact h1 p' q' hd hi hl
      · exact h2 (decide_eq_true hl) hi.symm
    · intro h1
      exact ⟨fun p' q' hd => h1 p' q' (Or.inl hd), fun h2 h3 => h1 p q (Or.inr ⟨rfl, rfl⟩) h3.symm (of_decide_eq_true h2)⟩
  · intro j d
    rw [upd1_dvd, h.col]
    constructor
    · rintro ⟨h1, h2⟩ p' q' (hd | ⟨rfl, rfl⟩) hi hl
      · exact h1 p' q' hd hi hl
      · exact h2 (decide_eq_true hl) hi.symm
    · intro h1
      exact ⟨fun p' q' hd => h1 p' q' (Or.inl hd), fun h2 h3 => h1 p q (Or.inr ⟨rfl, rfl⟩) h3.symm (of_decide_eq_true h2)⟩
end Mi
namespace Mi
open DL
theorem sl_drop {xs : List D} {k : Nat} (h : k ≤ xs.length) : opSl (some (k : Int)) none (.tup xs) = some (.tup (xs.drop k)) := by
  have e : opSl (some (k : Int)) none (.tup xs) = some (.tup (cutL xs (some (k : Int)) none)) := rfl
  rw [e]
  unfold cutL
  rw [HT.sIx_nat, HT.sIx_none, Nat.min_eq_left h, List.take_of_length_le (by simp)]
end Mi
namespace Mi
open DL
end Mi
namespace Mi
open DL
end Mi
namespace Mi
open DL
end Mi
namespace Mi
open DL
end Mi
namespace Mi
open DL
end Mi
namespace Mi
open DL
end Mi
namespace Mi
open DL
end Mi
namespace Mi
open DL
end Mi
namespace Mi
open DL
end Mi
namespace Mi
open DL
end Mi
namespace Mi
open DL
end Mi
namespace Mi
open DL
end Mi
namespace Mi
open DL
end Mi
namespace Mi
open DL
@[simp] theorem p_dOrT (f g : DF) (ρ : Rho) : dOrT f g ρ = bnd (f ρ) fun x => bnd (truI x) fun k => if k = true then some x else g ρ := (rfl)
end Mi
namespace Mi
open DL
end Mi
namespace Mi
open DL
end Mi
namespace Mi
open DL
end Mi
namespace Mi
open DL
end Mi
namespace Mi
open DL
/-- T with entries of V put in -/
def Fil (T V T' : Nat → Nat → Option Nat) : Prop := ∀ i j, T' i j = T i j ∨ (T i j = none ∧ T' i j = V i j)
theorem Fil.refl (T V : Nat → Nat → Option Nat) : Fil T V T := fun _ _ => Or.inl rfl
theorem Fil.sub {T V T' : Nat → Nat → Option Nat} (h : Fil T V T') (hT : ∀ i j e, T i j = some e → V i j = some e) {i j e : Nat} (q : T' i j = some e) : V i j = some e := by
  rcases h i j with e1 | ⟨_, e2⟩
  · exact hT i j e (e1 ▸ q)
  · exact e2 ▸ q
end Mi
namespace Mi
open DL
theorem lk_st_i : ∀ {ρ : Rho} {i : Nat} {d : D}, i < ρ.length → lk (st ρ i d) i = some d
  | [], i, d, h => absurd h (Nat.not_lt_zero i)
  | _ :: _, 0, _, _ => rfl
  | _ :: r, i + 1, d, h => lk_st_i (ρ := r) (i := i) (by simpa using h)
theorem lk_st_o {ρ : Rho} {i j : Nat} {d : D} (h : (j == i) = false) : lk (st ρ i d) j = lk ρ j := lk_st_ne (by simpa using h)
theorem len_st (ρ : Rho) (i : Nat) (d : D) : (st ρ i d).length = ρ.length := st_len ρ i d
/-- ρ' is ρ but at the slots ws -/
def Ag (ws : List Nat) (ρ ρ' : Rho) : Prop := ρ'.length = ρ.length ∧ ∀ j, j ∉ ws → lk ρ' j = lk ρ j
theorem Ag.refl (ws : List Nat) (ρ : Rho) : Ag ws ρ ρ := ⟨rfl, fun _ _ => rfl⟩
theorem Ag.st {ws : List Nat} {ρ ρ' : Rho} {i : Nat} {d : D} (h : Ag ws ρ ρ') (hi : i ∈ ws) : Ag ws ρ (st ρ' i d) :=
  ⟨(st_len ρ' i d).trans h.1, fun j hj => (lk_st_ne (fun e : j = i => hj (by rw [e]; exact hi))).trans (h.2 j hj)⟩
theorem Ag.trans {ws : List Nat} {a b c : Rho} (h : Ag ws a b) (h' : Ag ws b c) : Ag ws a c := ⟨h'.1.trans h.1, fun j hj => (h'.2 j hj).trans (h.2 j hj)⟩
theorem Ag.mono {ws vs : List Nat} {a b : Rho} (h : Ag ws a b) (hs : ∀ i ∈ ws, i ∈ vs) : Ag vs a b := ⟨h.1, fun j hj => h.2 j fun z => hj (hs j z)⟩
theorem Ag.lk {ws : List Nat} {a b : Rho} (h : Ag ws a b) (j : Nat) (hj : j ∉ ws) {x : Option D} (e : lk a j = x) : DL.lk b j = x := (h.2 j hj).trans e
theorem for_agL {α : Type} {b : DS} {i : Nat} {ws : List Nat} {ρ : Rho} (e : α → D) (xs : List α) (hi : i ∈ ws) (hl : i < ρ.length) (hb : ∀ x ∈ xs, ∀ ρ', Ag ws ρ ρ' → lk ρ' i = some (e x) → ∃ ρ'', b ρ' = some (.nx ρ'') ∧ Ag ws ρ ρ'') :
    ∃ ρ', forL (gN i) b (xs.map e) ρ = some (.nx ρ') ∧ Ag ws ρ ρ' :=
  for_all (g := gN i) e (fun ρ' => Ag ws ρ ρ') xs ρ (fun k hk ρ' h => ⟨_, rfl, hb k hk _ (h.st hi) (lk_st_i (by rw [h.1]; exact hl))⟩) (Ag.refl ws ρ)
/-- an invariant besides -/
theorem for_agP {b : DS} {i n : Nat} {ws : List Nat} {ρ : Rho} (e : Nat → D) (P : Nat → Rho → Prop) (hi : i ∈ ws) (hl : i < ρ.length) (h0 : P 0 ρ) (hst : ∀ k ρ' d, P k ρ' → P k (st ρ' i d))
    (hb : ∀ k, k < n → ∀ ρ', Ag ws ρ ρ' → lk ρ' i = some (e k) → P k ρ' → ∃ ρ'', b ρ' = some (.nx ρ'') ∧ Ag ws ρ ρ'' ∧ P (k + 1) ρ'') :
    ∃ ρ', forL (gN i) b ((List.range n).map e) ρ = some (.nx ρ') ∧ Ag ws ρ ρ' ∧ P n ρ' :=
  for_range (g := gN i) e (fun k ρ' => Ag ws ρ ρ' ∧ P k ρ') n (fun k hk ρ' h => ⟨_, rfl, hb k hk _ (h.1.st hi) (lk_st_i (by rw [h.1.1]; exact hl)) (hst k ρ' _ h.2)⟩) ⟨Ag.refl ws ρ, h0⟩
end Mi
namespace Mi
open DL
end Mi
namespace Mi
open DL
end Mi
namespace Mi
open DL
end Mi
namespace Mi
open DL
end Mi
namespace Mi
open DL
end Mi
namespace Mi
open DL
end Mi
namespace Mi
open DL
end Mi
namespace Mi
open DL
end Mi
namespace Mi
open DL
end Mi
namespace Mi
open DL
section
variable {m w M : Nat} {T : Nat → Nat → Option Nat} {A B : Nat → Nat} {p : Nat}
def Loc (m w : Nat) (T : Nat → Nat → Option Nat) (p : Nat) (x : Nat → Nat) : Prop := ∀ i j, i < m → j < w → ∀ e, T i j = some e → max (x i) (x (m + j)) = ex p e
end
end Mi
namespace Mi
open DL
end Mi
namespace Mi
open DL
end Mi
namespace Mi
open DL
end Mi
namespace Mi
open DL
end Mi
namespace Mi
open DL
section
variable {m w M : Nat} {T : Nat → Nat → Option Nat} {A B : Nat → Nat}
theorem sl_eLt {u : List Nat} {k : Nat} (h : k ≤ u.length) : opSl none (some (k : Int)) (eL u) = some (eL (u.take k)) := by
  unfold opSl eL cutL
  simp only [HT.sIx]
  have e1 : ¬ ((k : Int) < 0) := by omega
  simp [e1]
  try omega
end
end Mi
namespace Mi
open DL
end Mi
namespace Mi
open DL
end Mi
namespace Mi
open DL
end Mi
namespace Mi
open DL
end Mi
namespace Mi
open DL
end Mi
namespace Mi
open DL
end Mi
namespace Mi
open DL
end Mi
namespace Mi
open DL
end Mi
namespace Mi
open DL
end Mi
namespace Mi
open DL
end Mi
namespace Mi
open DL
end Mi
namespace Mi
open DL
end Mi
namespace Mi
open DL
end Mi
namespace Mi
open DL
section
variable {m m' w M : Nat} {T : Nat → Nat → Option Nat} {A B A' B' : Nat → Nat}
theorem DvM.map (hM : DvM M T) (f : Nat → Nat) : DvM M (fun i j => T (f i) j) := ⟨hM.pos, hM.le, fun i j e he => hM.dvd (f i) j e he⟩
theorem Cov.map {f : Nat → Nat} (hc : Cov m w T) (hf : ∀ i, i < m' → f i < m) (hs : ∀ i, i < m → ∃ k, k < m' ∧ f k = i) : Cov m' w (fun i j => T (f i) j) := ⟨fun i hi => hc.row (f i) (hf i hi), fun j hj => by
  obtain ⟨i, hi, e, he⟩ := hc.col j hj
  obtain ⟨k, hk, rfl⟩ := hs i hi
  exact ⟨k, hk, e, he⟩⟩
end
end Mi
namespace Mi
open DL
end Mi
namespace Mi
open DL
end Mi
namespace Mi
open DL
end Mi
namespace Mi
open DL
end Mi
namespace Mi
open DL
end Mi
namespace Mi
open DL
end Mi
namespace Mi
open DL
end Mi
namespace Mi
open DL
end Mi
namespace Mi
open DL
theorem is_integer_m (i lo hi : Int) : m_is_integer [.int i, .int lo, .int hi] = some (.bl (decide (lo ≤ i) && decide (i ≤ hi))) := by
  have a1 : opIsi "int" (.int i) = some (.bl true) := rfl
  have a2 : opIsi "bool" (.int i) = some (.bl false) := rfl
  refine run_rt rfl ?_
  by_cases q : lo ≤ i
  · simp only [bnd_some, bnd_none, p_dc, p_dv, lk_z, lk_s, st_z, st_s, un_z, un_s, wipe_n, wipe_c, p_d2, p_d1, p_dnil, p_dcons, p_dL, p_asB, p_asI, p_asL, p_asSeqL, p_asSeqT, p_bV, p_dB, p_bAnd, p_bOr, p_bNot, p_dIf, p_dAnd, p_dOr, p_dNot, p_dCh, p_bYes, p_gN, p_gT, p_gsNil, p_gsCons, p_dNx, p_dRet, p_dSet, p_dIfS, p_dAsg, p_dPar, p_dAug, p_dApp, p_dSetIx, p_nLst, p_nRep, p_nOf, p_dSetN, p_dParN1, p_dParNN, p_iSeq, p_iRng1, p_iRng2, p_oNo, p_oIx, p_dSl, p_asIx, p_opTup, p_opLst, p_lenT, p_lenL, p_lenS, p_tupT, p_tupL, p_add, p_sub, p_mul, p_lt, p_le, p_gt, p_ge, p_eqI, p_neI, p_isN, p_isnN, p_isB, p_isnB, p_isNone_n, p_isNone_i, p_isNone_t, p_isNone_l, p_appL, p_appT, b_mc, b_mn, b_ac, b_an, b_rs, b_rz, b_lc, b_ln, b_it, b_if, b_itt, b_iff, p_dSeq, p_eqB, p_neB, len_eT, len_eR, len_eV, isNone_eO, seq_eT, seq_eR, seq_eV, seq_eL, eO_some, eO_none, len_eL, p_dOrT, ↓p_eqN, ↓p_neN, ↓p_ltN, ↓p_leN, ↓p_gtN, ↓p_geN, Nat.reduceSub, a1, a2, dCh, Option.bind_some, p_le, decide_eq_true q, Bool.true_and, Bool.not_false]
  · simp only [bnd_some, bnd_none, p_dc, p_dv, lk_z, lk_s, st_z, st_s, un_z, un_s, wipe_n, wipe_c, p_d2, p_d1, p_dnil, p_dcons, p_dL, p_asB, p_asI, p_asL, p_asSeqL, p_asSeqT, p_bV, p_dB, p_bAnd, p_bOr, p_bNot, p_dIf, p_dAnd, p_dOr, p_dNot, p_dCh, p_bYes, p_gN, p_gT, p_gsNil, p_gsCons, p_dNx, p_dRet, p_dSet, p_dIfS, p_dAsg, p_dPar, p_dAug, p_dApp, p_dSetIx, p_nLst, p_nRep, p_nOf, p_dSetN, p_dParN1, p_dParNN, p_iSeq, p_iRng1, p_iRng2, p_oNo, p_oIx, p_dSl, p_asIx, p_opTup, p_opLst, p_lenT, p_lenL, p_lenS, p_tupT, p_tupL, p_add, p_sub, p_mul, p_lt, p_le, p_gt, p_ge, p_eqI, p_neI, p_isN, p_isnN, p_isB, p_isnB, p_isNone_n, p_isNone_i, p_isNone_t, p_isNone_l, p_appL, p_appT, b_mc, b_mn, b_ac, b_an, b_rs, b_rz, b_lc, b_ln, b_it, b_if, b_itt, b_iff, p_dSeq, p_eqB, p_neB, len_eT, len_eR, len_eV, isNone_eO, seq_eT, seq_eR, seq_eV, seq_eL, eO_some, eO_none, len_eL, p_dOrT, ↓p_eqN, ↓p_neN, ↓p_ltN, ↓p_leN, ↓p_gtN, ↓p_geN, Nat.reduceSub, a1, a2, dCh, Option.bind_some, p_le, decide_eq_false q, Bool.false_and, Bool.not_false]
def hS : Nat → (Nat → Int) → Int
  | 0, f => f 0
  | r + 1, f => hS r f + hS r fun c => f (c + 1)
def ringN (ps : List Nat) (x : Nat) : Nat := (ps.filter fun p => decide (x % p = 0)).length
def upTo (P : Nat → Bool) (T : Nat) : Nat := ((List.range T).filter P).length
theorem upTo_succ (P : Nat → Bool) (T : Nat) : upTo P (T + 1) = upTo P T + if P T = true then 1 else 0 := by
  unfold upTo
  rw [List.range_succ, List.filter_append, List.length_append]
  by_cases z : P T = true
  · rw [if_pos z]
    have : [T].filter P = [T] := by rw [List.filter_cons, if_pos z]; rfl
    rw [this]
    rfl
  · rw [if_neg z]
    have : [T].filter P = [] := by rw [List.filter_cons, if_neg z]; rfl
    rw [this]
    rfl
end Mi
namespace Mi
open DL
def anyR (ps : List Nat) (x : Nat) : Bool := decide (ringN ps x ≠ 0)
end Mi
namespace Mi
open DL
end Mi
namespace Mi
open DL
end Mi
namespace Mi
open DL
end Mi
namespace Mi
open DL
end Mi
namespace Mi
open DL
end Mi
namespace Mi
open DL
end Mi
namespace Mi
open DL
end Mi
namespace Mi
open DL
/-- t: the time with the index idx among all times at which a bell rings -/
def RingAt (ps : List Nat) (idx t : Nat) : Prop := idx < upTo (anyR ps) (t + 1) ∧ upTo (anyR ps) t ≤ idx
end Mi
namespace Mi
open DL
end Mi
namespace Mi
open DL
end Mi
namespace Mi
open DL
end Mi
namespace Mi
open DL
end Mi
namespace Mi
open DL
end Mi
namespace Mi
open DL
end Mi
namespace Mi
open DL
theorem RingAt.any {ps : List Nat} {idx t : Nat} (h : RingAt ps idx t) : anyR ps t = true ∧ upTo (anyR ps) (t + 1) = idx + 1 ∧ upTo (anyR ps) t = idx := by
  obtain ⟨h1, h2⟩ := h
  have := upTo_succ (anyR ps) t
  cases z : anyR ps t with
  | true =>
    rw [z, if_pos rfl] at this
    exact ⟨rfl, by omega, by omega⟩
  | false =>
    rw [z, if_neg Bool.false_ne_true] at this
    omega
def ringL (ps : List Nat) (x : Nat) : List Nat := (List.range ps.length).filter fun a => decide (x % ps.getD a 0 = 0)
end Mi
namespace Mi
open DL
end Mi
namespace Mi
open DL
theorem valI_put (kvs : KVI) (k : List Int) (v : Int) (k' : List Int) : valI (putI kvs k v) k' = if k' = k then some v else valI kvs k' := by
  have gen : ∀ L : KVI, (L.map fun p => if p.1 = k then (p.1, v) else p).find? (fun p => decide (p.1 = k')) = (L.find? fun p => decide (p.1 = k')).map fun p => if p.1 = k then (p.1, v) else p := by
    intro L
    induction L with
    | nil => rfl
    | cons p r ih =>
      have e1 : (if p.1 = k then (p.1, v) else p).1 = p.1 := by split <;> rfl
      rw [List.map_cons, List.find?_cons, List.find?_cons, e1]
      cases decide (p.1 = k') with
      | true => rfl
      | false => exact ih
  unfold putI
  split
  · rename_i h
    unfold valI
    rw [gen]
    by_cases z : k' = k
    · rw [if_pos z]
      obtain ⟨p, hp, e⟩ := List.any_eq_true.mp h
      have e := of_decide_eq_true e
      have fs : (kvs.find? fun p => decide (p.1 = k')).isSome = true := List.find?_isSome.mpr ⟨p, hp, decide_eq_true (by rw [z]; exact e)⟩
      obtain ⟨q, hq⟩ := Option.isSome_iff_exists.mp fs
      have hq2 : q.1 = k' := of_decide_eq_true (List.find?_some (p := fun p : List Int × Int => decide (p.1 = k')) hq)
      rw [hq]
      show some (if q.1 = k then (q.1, v) else q).2 = _
      rw [if_pos (by rw [hq2, z])]
    · rw [if_neg z]
      cases hq : kvs.find? fun p => decide (p.1 = k') with
      | none => rfl
      | some q =>
        have hq2 : q.1 = k' := of_decide_eq_true (List.find?_some (p := fun p : List Int × Int => decide (p.1 = k')) hq)
        show some (if q.1 = k then (q.1, v) else q).2 = some q.2
        rw [if_neg (by rw [hq2]; exact z)]
  · rename_i h
    unfold valI
    rw [List.find?_append]
    by_cases z : k' = k
    · rw [if_pos z]
      have : kvs.find? (fun p => decide (p.1 = k')) = none := List.find?_eq_none.mpr fun p hp e => h (List.any_eq_true.mpr ⟨p, hp, by rw [← z]; exact e⟩)
      rw [this]
      subst z
      simp [List.find?_cons]
    · rw [if_neg z]
      have : ([(k, v)] : KVI).find? (fun p => decide (p.1 = k')) = none := List.find?_eq_none.mpr fun p hp e => by
        rw [List.mem_singleton.mp hp] at e
        exact z (of_decide_eq_true e).symm
      rw [this, Option.or_none]
abbrev ki (S : List Nat) : List Int := S.map fun n : Nat => (n : Int)
theorem ki_inj : ∀ {a b : List Nat}, ki a = ki b → a = b
  | [], [], _ => rfl
  | [], _ :: _, h => by cases h
  | _ :: _, [], h => by cases h
  | x :: a, y :: b, h => by
    rw [ki, ki, List.map_cons, List.map_cons, List.cons.injEq] at h
    rw [ki_inj (a := a) (b := b) h.2, Int.ofNat.inj h.1]
/-- what the dict holds behind j times -/
def Firsts (ps : List Nat) (low j : Nat) (kvs : KVI) : Prop := kvs.length ≤ j ∧ ∀ S : List Nat, (valI kvs (ki S) = none ∧ ∀ i, i < j → ringL ps (low + i) ≠ S) ∨ ∃ i, i < j ∧ valI kvs (ki S) = some ((low + i : Nat) : Int) ∧ ringL ps (low + i) = S ∧ ∀ i', i' < i → ringL ps (low + i') ≠ S
theorem putI_len (kvs : KVI) (k : List Int) (v : Int) : (putI kvs k v).length ≤ kvs.length + 1 := by
  unfold putI
  split
  · rw [List.length_map]; omega
  · rw [List.length_append]; simp
theorem Firsts.step {ps : List Nat} {low j : Nat} {kvs : KVI} (h : Firsts ps low j kvs) : Firsts ps low (j + 1) (putI kvs (ki (ringL ps (low + j))) ((valI kvs (ki (ringL ps (low + j)))).getD ((low + j : Nat) : Int))) := by
  refine ⟨Nat.le_trans (putI_len _ _ _) (by have := h.1; omega), fun S => ?_⟩
  rw [valI_put]
  by_cases z : ki S = ki (ringL ps (low + j))
  · rw [if_pos z]
    have z := ki_inj z
    subst z
    right
    rcases h.2 (ringL ps (low + j)) with ⟨h1, h2⟩ | ⟨i, h1, h2, h3, h4⟩
    · rw [h1]
      exact ⟨j, Nat.lt_succ_self _, rfl, rfl, h2⟩
    · rw [h2]
      exact ⟨i, by omega, rfl, h3, h4⟩
  · rw [if_neg z]
    have zn : ringL ps (low + j) ≠ S := fun e => z (by rw [e])
    rcases h.2 S with ⟨h1, h2⟩ | ⟨i, h1, h2, h3, h4⟩
    · refine .inl ⟨h1, fun i hi => ?_⟩
      by_cases e : i = j
      · rw [e]; exact zn
      · exact h2 i (by omega)
    · exact .inr ⟨i, by omega, h2, h3, h4⟩
end Mi
namespace Mi
open DL
end Mi
namespace Mi
open DL
end Mi
namespace Mi
open DL
end Mi
namespace Mi
open DL
mutual
/-- plain data -/
def pl : D → Bool
  | .tup ds => pls ds
  | .lst ds => pls ds
  | .bell _ => false
  | .scr _ => false
  | .ext _ => false
  | .str x => PySem.PyData.strOk x
  | _ => true
def pls : List D → Bool
  | [] => true
  | d :: ds => pl d && pls ds
end
mutual
def sz : D → Nat
  | .tup ds => 1 + szs ds
  | .lst ds => 1 + szs ds
  | _ => 1
def szs : List D → Nat
  | [] => 0
  | d :: ds => sz d + szs ds
end
mutual
def dp : D → Nat
  | .tup ds => 1 + dps ds
  | .lst ds => 1 + dps ds
  | _ => 0
def dps : List D → Nat
  | [] => 0
  | d :: ds => max (dp d) (dps ds)
end
theorem sz_pos : ∀ d : D, 0 < sz d := fun d => by cases d <;> simp [sz] <;> omega
theorem pls_iff : ∀ {ds : List D}, pls ds = true ↔ ∀ d ∈ ds, pl d = true
  | [] => by simp [pls]
  | d :: ds => by
    unfold pls
    rw [Bool.and_eq_true, pls_iff]
    simp
theorem szs_app : ∀ (a b : List D), szs (a ++ b) = szs a + szs b
  | [], b => by simp [szs]
  | d :: a, b => by
    show sz d + szs (a ++ b) = sz d + szs a + szs b
    rw [szs_app a b]
    omega
theorem dps_le {n : Nat} : ∀ {ds : List D}, dps ds ≤ n ↔ ∀ d ∈ ds, dp d ≤ n
  | [] => by simp [dps]
  | d :: ds => by
    unfold dps
    rw [Nat.max_le, dps_le]
    simp
theorem szs_len : ∀ ds : List D, ds.length ≤ szs ds
  | [] => Nat.le_refl 0
  | d :: ds => by
    show ds.length + 1 ≤ sz d + szs ds
    have := szs_len ds
    have := sz_pos d
    omega
theorem szs_get {ds : List D} {i : Nat} {d : D} (h : ds[i]? = some d) : sz d ≤ szs ds := by
  induction ds generalizing i with
  | nil => simp at h
  | cons x ds ih =>
    show sz d ≤ sz x + szs ds
    cases i with
    | zero =>
      simp at h
      rw [h]
      omega
    | succ i =>
      have := ih (i := i) (by simpa using h)
      omega
theorem szs_take (ds : List D) (k : Nat) : szs (ds.take k) + szs (ds.drop k) = szs ds := by rw [← szs_app, List.take_append_drop]
theorem szs_rev (ds : List D) : szs ds.reverse = szs ds := by
  induction ds with
  | nil => rfl
  | cons d ds ih =>
    rw [List.reverse_cons, szs_app, ih]
    show szs ds + (sz d + 0) = sz d + szs ds
    omega
theorem szs_set {ds : List D} {i : Nat} {d e : D} (h : ds[i]? = some d) : szs (ds.set i e) + sz d = szs ds + sz e := by
  induction ds generalizing i with
  | nil => simp at h
  | cons x ds ih =>
    cases i with
    | zero =>
      simp at h
      subst h
      show (sz e + szs ds) + sz x = (sz x + szs ds) + sz e
      omega
    | succ i =>
      have := ih (i := i) (by simpa using h)
      show (sz x + szs (ds.set i e)) + sz d = (sz x + szs ds) + sz e
      omega
/-- plain, not deeper, not larger -/
structure Gd (n s : Nat) (d : D) : Prop where
  pl : pl d = true
  dp : dp d ≤ n
  sz : sz d ≤ s
theorem Gd.mono {n s n' s' : Nat} {d : D} (h : Gd n s d) (hn : n ≤ n') (hs : s ≤ s') : Gd n' s' d := ⟨h.pl, Nat.le_trans h.dp hn, Nat.le_trans h.sz hs⟩
theorem sl_takeL {xs : List D} {k : Nat} : opSl none (some (k : Int)) (.lst xs) = some (.lst (xs.take k)) := by
  have e : opSl none (some (k : Int)) (.lst xs) = some (.lst (cutL xs none (some (k : Int)))) := rfl
  rw [e]
  unfold cutL
  rw [HT.sIx_nat, HT.sIx_none, List.drop_zero, Nat.sub_zero]
  congr 2
  by_cases h : k ≤ xs.length
  · rw [Nat.min_eq_left h]
  · rw [Nat.min_eq_right (by omega), List.take_of_length_le (Nat.le_refl _), List.take_of_length_le (by omega)]
theorem sl_dropL {xs : List D} {k : Nat} : opSl (some (k : Int)) none (.lst xs) = some (.lst (xs.drop k)) := by
  have e : opSl (some (k : Int)) none (.lst xs) = some (.lst (cutL xs (some (k : Int)) none)) := rfl
  rw [e]
  unfold cutL
  rw [HT.sIx_nat, HT.sIx_none]
  congr 2
  by_cases h : k ≤ xs.length
  · rw [Nat.min_eq_left h, List.take_of_length_le (by simp)]
  · rw [Nat.min_eq_right (by omega), List.drop_of_length_le (Nat.le_refl _), List.drop_of_length_le (by omega)]
    simp
mutual
theorem okD_of : ∀ (n : Nat) (d : D), pl d = true → dp d ≤ n → okD n d = true
  | n, .non, _, _ => by cases n <;> rfl
  | n, .bl _, _, _ => by cases n <;> rfl
  | n, .int _, _, _ => by cases n <;> rfl
  | n, .str x, h, _ => by cases n <;> exact h
  | 0, .tup ds, _, h => by simp [dp] at h
  | 0, .lst ds, _, h => by simp [dp] at h
  | n + 1, .tup ds, h, h2 => okDs_of n ds h (by simp only [dp] at h2; omega)
  | n + 1, .lst ds, h, h2 => okDs_of n ds h (by simp only [dp] at h2; omega)
  | _, .bell _, h, _ => by cases h
  | _, .scr _, h, _ => by cases h
  | _, .ext _, h, _ => by cases h
theorem okDs_of : ∀ (n : Nat) (ds : List D), pls ds = true → dps ds ≤ n → okDs n ds = true
  | n, [], _, _ => by cases n <;> rfl
  | n, d :: ds, h, h2 => by
    have h : (pl d && pls ds) = true := h
    rw [Bool.and_eq_true] at h
    have h2 : max (dp d) (dps ds) ≤ n := h2
    unfold okDs
    rw [okD_of n d h.1 (by omega), okDs_of n ds h.2 (by omega)]
    rfl
end
def isIn (lo hi : Int) : D → Bool
  | .int i => decide (lo ≤ i) && decide (i ≤ hi)
  | _ => false
theorem ch_le (lo i hi : Int) : (bnd (opLe (.int lo) (.int i)) fun z => bnd (asB z) fun k => if k = true then opLe (.int i) (.int hi) else some (.bl false)) = some (.bl (decide (lo ≤ i) && decide (i ≤ hi))) := by
  show (if decide (lo ≤ i) = true then some (D.bl (decide (i ≤ hi))) else some (.bl false)) = _
  cases decide (lo ≤ i) <;> rfl
theorem is_integer_any (d : D) (hd : pl d = true) (lo hi : Int) : m_is_integer [d, .int lo, .int hi] = some (.bl (isIn lo hi d)) := by
  cases d with
  | int i => exact is_integer_m i lo hi
  | non => rfl
  | bl b => cases b <;> rfl
  | str x => rfl
  | tup ds => rfl
  | lst ds => rfl
  | bell _ => cases hd
  | scr _ => cases hd
  | ext _ => cases hd
theorem law_is_integer_any (d : D) (hd : pl d = true) (lo hi : Int) : m_law_is_integer [d, .int lo, .int hi] = some (.bl (isIn lo hi d)) := is_integer_any d hd lo hi
def entOk (d : D) : Bool := isNone d || isIn 1 1000000 d
def lenT : D → Nat
  | .tup es => es.length
  | _ => 0
def isT : D → Bool
  | .tup _ => true
  | _ => false
def rowIn (d : D) : Bool := isT d && (decide (1 ≤ lenT d) && decide (lenT d ≤ 5))
theorem isi_tup (d : D) (hd : pl d = true) : opIsi "tuple" d = some (.bl (isT d)) := by
  cases d <;> first | rfl | cases hd
theorem len_ch (xs : List D) : (bnd (opLe (.int 1) (.int (xs.length : Int))) fun z => bnd (asB z) fun k => if k = true then opLe (.int (xs.length : Int)) (.int 5) else some (.bl false)) = some (.bl (decide (1 ≤ xs.length) && decide (xs.length ≤ 5))) := by
  rw [ch_le]
  congr 3
  · exact decide_eq_decide.mpr (by omega)
  · exact decide_eq_decide.mpr (by omega)
theorem p6k : opPow (.int 10) (.int 6) = some (.int 1000000) := sameO_eq (by decide +kernel)
theorem opAll_b {α : Type} (f : α → Bool) (l : List α) : opAll [.lst (l.map fun x => .bl (f x))] = some (.bl (l.all f)) := opAll_map f l
/-- all numbers are one -/
theorem usort_one (ns : List Int) (n : Int) (h : ∀ x ∈ ns, x = n) (hne : ns ≠ []) : usort ns = [n] := by
  refine ascI_ext (usort_asc ns) (List.pairwise_singleton _ _) fun x => ?_
  rw [mem_usort, List.mem_singleton]
  refine ⟨h x, fun e => ?_⟩
  obtain ⟨y, hy⟩ := List.exists_mem_of_ne_nil ns hne
  rw [e, ← h y hy]
  exact hy
theorem usort_more (ns : List Int) {a b : Int} (ha : a ∈ ns) (hb : b ∈ ns) (h : a ≠ b) : (usort ns).length ≠ 1 := by
  intro e
  obtain ⟨x, hx⟩ := List.length_eq_one_iff.mp e
  have h1 := (mem_usort a ns).mpr ha
  have h2 := (mem_usort b ns).mpr hb
  rw [hx, List.mem_singleton] at h1 h2
  exact h (h1.trans h2.symm)
end Mi
namespace Mi
open DL
def cells : D → List D
  | .tup es => es
  | _ => []
theorem isT_cells {d : D} (h : isT d = true) : d = .tup (cells d) := by
  cases d <;> first | rfl | cases h
theorem pl_cells {d : D} (h : pl d = true) : ∀ e ∈ cells d, pl e = true := by
  intro e he
  cases d with
  | tup es => exact pls_iff.mp h e he
  | _ => cases he
theorem lenT_cells {d : D} (h : isT d = true) : lenT d = (cells d).length := by
  cases d <;> first | rfl | cases h
theorem row_test {ρ : Rho} {i : Nat} {d : D} (hp : pl d = true) (hd : lk ρ i = some d) : (dAnd (d1 (opIsi "tuple") (dv i)) (dCh opLe opLe (dc (.int 1)) (dL opLen (dcons (dv i) dnil)) (dc (.int 5)))) ρ = some (.bl (rowIn d)) := by
  have h1 := isi_tup d hp
  unfold rowIn
  cases z : isT d with
  | false =>
    rw [z] at h1
    simp only [bnd_some, bnd_none, p_dc, p_dv, lk_z, lk_s, st_z, st_s, un_z, un_s, wipe_n, wipe_c, p_d2, p_d1, p_dnil, p_dcons, p_dL, p_asB, p_asI, p_asL, p_asSeqL, p_asSeqT, p_bV, p_dB, p_bAnd, p_bOr, p_bNot, p_dIf, p_dAnd, p_dOr, p_dNot, p_dCh, p_bYes, p_gN, p_gT, p_gsNil, p_gsCons, p_dNx, p_dRet, p_dSet, p_dIfS, p_dAsg, p_dPar, p_dAug, p_dApp, p_dSetIx, p_nLst, p_nRep, p_nOf, p_dSetN, p_dParN1, p_dParNN, p_iSeq, p_iRng1, p_iRng2, p_oNo, p_oIx, p_dSl, p_asIx, p_opTup, p_opLst, p_lenT, p_lenL, p_lenS, p_tupT, p_tupL, p_add, p_sub, p_mul, p_lt, p_le, p_gt, p_ge, p_eqI, p_neI, p_isN, p_isnN, p_isB, p_isnB, p_isNone_n, p_isNone_i, p_isNone_t, p_isNone_l, p_appL, p_appT, b_mc, b_mn, b_ac, b_an, b_rs, b_rz, b_lc, b_ln, b_it, b_if, b_itt, b_iff, p_dSeq, p_eqB, p_neB, len_eT, len_eR, len_eV, isNone_eO, seq_eT, seq_eR, seq_eV, seq_eL, eO_some, eO_none, len_eL, p_dOrT, ↓p_eqN, ↓p_neN, ↓p_ltN, ↓p_leN, ↓p_gtN, ↓p_geN, hd, h1, Bool.false_and]
  | true =>
    rw [z] at h1
    have e := isT_cells z
    have e2 := lenT_cells z
    generalize cells d = es at e e2
    subst e
    have := len_ch es
    rw [e2]
    simp only [bnd_some, bnd_none, p_dc, p_dv, lk_z, lk_s, st_z, st_s, un_z, un_s, wipe_n, wipe_c, p_d2, p_d1, p_dnil, p_dcons, p_dL, p_asB, p_asI, p_asL, p_asSeqL, p_asSeqT, p_bV, p_dB, p_bAnd, p_bOr, p_bNot, p_dIf, p_dAnd, p_dOr, p_dNot, p_dCh, p_bYes, p_gN, p_gT, p_gsNil, p_gsCons, p_dNx, p_dRet, p_dSet, p_dIfS, p_dAsg, p_dPar, p_dAug, p_dApp, p_dSetIx, p_nLst, p_nRep, p_nOf, p_dSetN, p_dParN1, p_dParNN, p_iSeq, p_iRng1, p_iRng2, p_oNo, p_oIx, p_dSl, p_asIx, p_opTup, p_opLst, p_lenT, p_lenL, p_lenS, p_tupT, p_tupL, p_add, p_sub, p_mul, p_lt, p_le, p_gt, p_ge, p_eqI, p_neI, p_isN, p_isnN, p_isB, p_isnB, p_isNone_n, p_isNone_i, p_isNone_t, p_isNone_l, p_appL, p_appT, b_mc, b_mn, b_ac, b_an, b_rs, b_rz, b_lc, b_ln, b_it, b_if, b_itt, b_iff, p_dSeq, p_eqB, p_neB, len_eT, len_eR, len_eV, isNone_eO, seq_eT, seq_eR, seq_eV, seq_eL, eO_some, eO_none, len_eL, p_dOrT, ↓p_eqN, ↓p_neN, ↓p_ltN, ↓p_leN, ↓p_gtN, ↓p_geN, hd, h1, Bool.true_and]
    exact this
theorem ent_test {ρ : Rho} {i : Nat} {e : D} (hp : pl e = true) (he : lk ρ i = some e) : (dOr (d2 opIs (dv i) (dc .non)) (dL m_is_integer (dcons (dv i) (dcons (dc (.int 1)) (dcons (d2 opPow (dc (.int 10)) (dc (.int 6))) dnil))))) ρ = some (.bl (entOk e)) := by
  have ii := is_integer_any e hp 1 1000000
  unfold entOk
  cases z : isNone e with
  | true => simp only [bnd_some, bnd_none, p_dc, p_dv, lk_z, lk_s, st_z, st_s, un_z, un_s, wipe_n, wipe_c, p_d2, p_d1, p_dnil, p_dcons, p_dL, p_asB, p_asI, p_asL, p_asSeqL, p_asSeqT, p_bV, p_dB, p_bAnd, p_bOr, p_bNot, p_dIf, p_dAnd, p_dOr, p_dNot, p_dCh, p_bYes, p_gN, p_gT, p_gsNil, p_gsCons, p_dNx, p_dRet, p_dSet, p_dIfS, p_dAsg, p_dPar, p_dAug, p_dApp, p_dSetIx, p_nLst, p_nRep, p_nOf, p_dSetN, p_dParN1, p_dParNN, p_iSeq, p_iRng1, p_iRng2, p_oNo, p_oIx, p_dSl, p_asIx, p_opTup, p_opLst, p_lenT, p_lenL, p_lenS, p_tupT, p_tupL, p_add, p_sub, p_mul, p_lt, p_le, p_gt, p_ge, p_eqI, p_neI, p_isN, p_isnN, p_isB, p_isnB, p_isNone_n, p_isNone_i, p_isNone_t, p_isNone_l, p_appL, p_appT, b_mc, b_mn, b_ac, b_an, b_rs, b_rz, b_lc, b_ln, b_it, b_if, b_itt, b_iff, p_dSeq, p_eqB, p_neB, len_eT, len_eR, len_eV, isNone_eO, seq_eT, seq_eR, seq_eV, seq_eL, eO_some, eO_none, len_eL, p_dOrT, ↓p_eqN, ↓p_neN, ↓p_ltN, ↓p_leN, ↓p_gtN, ↓p_geN, he, z, Bool.true_or]
  | false => simp only [bnd_some, bnd_none, p_dc, p_dv, lk_z, lk_s, st_z, st_s, un_z, un_s, wipe_n, wipe_c, p_d2, p_d1, p_dnil, p_dcons, p_dL, p_asB, p_asI, p_asL, p_asSeqL, p_asSeqT, p_bV, p_dB, p_bAnd, p_bOr, p_bNot, p_dIf, p_dAnd, p_dOr, p_dNot, p_dCh, p_bYes, p_gN, p_gT, p_gsNil, p_gsCons, p_dNx, p_dRet, p_dSet, p_dIfS, p_dAsg, p_dPar, p_dAug, p_dApp, p_dSetIx, p_nLst, p_nRep, p_nOf, p_dSetN, p_dParN1, p_dParNN, p_iSeq, p_iRng1, p_iRng2, p_oNo, p_oIx, p_dSl, p_asIx, p_opTup, p_opLst, p_lenT, p_lenL, p_lenS, p_tupT, p_tupL, p_add, p_sub, p_mul, p_lt, p_le, p_gt, p_ge, p_eqI, p_neI, p_isN, p_isnN, p_isB, p_isnB, p_isNone_n, p_isNone_i, p_isNone_t, p_isNone_l, p_appL, p_appT, b_mc, b_mn, b_ac, b_an, b_rs, b_rz, b_lc, b_ln, b_it, b_if, b_itt, b_iff, p_dSeq, p_eqB, p_neB, len_eT, len_eR, len_eV, isNone_eO, seq_eT, seq_eR, seq_eV, seq_eL, eO_some, eO_none, len_eL, p_dOrT, ↓p_eqN, ↓p_neN, ↓p_ltN, ↓p_leN, ↓p_gtN, ↓p_geN, he, z, p6k, ii, Bool.false_or]
theorem flat_le {rs : List D} (h : ∀ r ∈ rs, (cells r).length ≤ 5) : (rs.flatMap cells).length ≤ 5 * rs.length := by
  induction rs with
  | nil => exact Nat.le_refl 0
  | cons r rs ih =>
    rw [List.flatMap_cons, List.length_append, List.length_cons]
    have := h r List.mem_cons_self
    have := ih fun x hx => h x (List.mem_cons_of_mem _ hx)
    omega
theorem rowIn_iff {d : D} : rowIn d = true ↔ isT d = true ∧ 1 ≤ lenT d ∧ lenT d ≤ 5 := by
  unfold rowIn
  simp
def len1 (rs : List D) : Bool := decide ((usort (rs.map fun r => (lenT r : Int))).length = 1)
theorem usort_len (ns : List Int) : (usort ns).length ≤ ns.length := by
  have h1 : (usort ns).Nodup := (usort_asc ns).imp fun {a b} (z : a < b) (e : a = b) => by omega
  exact List.Nodup.length_le_of_subset h1 fun x hx => (mem_usort x ns).mp hx
def tabOkT (rs : List D) : Bool := (decide (1 ≤ rs.length) && decide (rs.length ≤ 5)) && (rs.all rowIn && (len1 rs && (rs.flatMap cells).all entOk))
def tabOk : D → Bool
  | .tup rs => tabOkT rs
  | _ => false
theorem is_table_any (d : D) (hd : pl d = true) : m_is_table [d] = some (.bl (tabOk d)) := by
  have h1 := isi_tup d hd
  cases z : isT d with
  | false =>
    rw [z] at h1
    have e : tabOk d = false := by cases d <;> first | rfl | cases z
    rw [e]
    refine run_rt rfl ?_
    simp only [bnd_some, bnd_none, p_dc, p_dv, lk_z, lk_s, st_z, st_s, un_z, un_s, wipe_n, wipe_c, p_d2, p_d1, p_dnil, p_dcons, p_dL, p_asB, p_asI, p_asL, p_asSeqL, p_asSeqT, p_bV, p_dB, p_bAnd, p_bOr, p_bNot, p_dIf, p_dAnd, p_dOr, p_dNot, p_dCh, p_bYes, p_gN, p_gT, p_gsNil, p_gsCons, p_dNx, p_dRet, p_dSet, p_dIfS, p_dAsg, p_dPar, p_dAug, p_dApp, p_dSetIx, p_nLst, p_nRep, p_nOf, p_dSetN, p_dParN1, p_dParNN, p_iSeq, p_iRng1, p_iRng2, p_oNo, p_oIx, p_dSl, p_asIx, p_opTup, p_opLst, p_lenT, p_lenL, p_lenS, p_tupT, p_tupL, p_add, p_sub, p_mul, p_lt, p_le, p_gt, p_ge, p_eqI, p_neI, p_isN, p_isnN, p_isB, p_isnB, p_isNone_n, p_isNone_i, p_isNone_t, p_isNone_l, p_appL, p_appT, b_mc, b_mn, b_ac, b_an, b_rs, b_rz, b_lc, b_ln, b_it, b_if, b_itt, b_iff, p_dSeq, p_eqB, p_neB, len_eT, len_eR, len_eV, isNone_eO, seq_eT, seq_eR, seq_eV, seq_eL, eO_some, eO_none, len_eL, p_dOrT, ↓p_eqN, ↓p_neN, ↓p_ltN, ↓p_leN, ↓p_gtN, ↓p_geN, Nat.reduceSub, h1, Bool.not_false]
  | true =>
    rw [z] at h1
    have e := isT_cells z
    generalize cells d = rs at e
    subst e
    have hp : ∀ r ∈ rs, pl r = true := pls_iff.mp hd
    have lc := len_ch rs
    simp only [bnd_some, bnd_none, p_dc, p_dv, lk_z, lk_s, st_z, st_s, un_z, un_s, wipe_n, wipe_c, p_d2, p_d1, p_dnil, p_dcons, p_dL, p_asB, p_asI, p_asL, p_asSeqL, p_asSeqT, p_bV, p_dB, p_bAnd, p_bOr, p_bNot, p_dIf, p_dAnd, p_dOr, p_dNot, p_dCh, p_bYes, p_gN, p_gT, p_gsNil, p_gsCons, p_dNx, p_dRet, p_dSet, p_dIfS, p_dAsg, p_dPar, p_dAug, p_dApp, p_dSetIx, p_nLst, p_nRep, p_nOf, p_dSetN, p_dParN1, p_dParNN, p_iSeq, p_iRng1, p_iRng2, p_oNo, p_oIx, p_dSl, p_asIx, p_opTup, p_opLst, p_lenT, p_lenL, p_lenS, p_tupT, p_tupL, p_add, p_sub, p_mul, p_lt, p_le, p_gt, p_ge, p_eqI, p_neI, p_isN, p_isnN, p_isB, p_isnB, p_isNone_n, p_isNone_i, p_isNone_t, p_isNone_l, p_appL, p_appT, b_mc, b_mn, b_ac, b_an, b_rs, b_rz, b_lc, b_ln, b_it, b_if, b_itt, b_iff, p_dSeq, p_eqB, p_neB, len_eT, len_eR, len_eV, isNone_eO, seq_eT, seq_eR, seq_eV, seq_eL, eO_some, eO_none, len_eL, p_dOrT, ↓p_eqN, ↓p_neN, ↓p_ltN, ↓p_leN, ↓p_gtN, ↓p_geN] at lc
    cases hL : (decide (1 ≤ rs.length) && decide (rs.length ≤ 5)) with
    | false =>
      have e : tabOk (.tup rs) = false := by show tabOkT rs = _; unfold tabOkT; rw [hL]; rfl
      rw [e]
      refine run_rt rfl ?_
      rw [hL] at lc
      simp only [bnd_some, bnd_none, p_dc, p_dv, lk_z, lk_s, st_z, st_s, un_z, un_s, wipe_n, wipe_c, p_d2, p_d1, p_dnil, p_dcons, p_dL, p_asB, p_asI, p_asL, p_asSeqL, p_asSeqT, p_bV, p_dB, p_bAnd, p_bOr, p_bNot, p_dIf, p_dAnd, p_dOr, p_dNot, p_dCh, p_bYes, p_gN, p_gT, p_gsNil, p_gsCons, p_dNx, p_dRet, p_dSet, p_dIfS, p_dAsg, p_dPar, p_dAug, p_dApp, p_dSetIx, p_nLst, p_nRep, p_nOf, p_dSetN, p_dParN1, p_dParNN, p_iSeq, p_iRng1, p_iRng2, p_oNo, p_oIx, p_dSl, p_asIx, p_opTup, p_opLst, p_lenT, p_lenL, p_lenS, p_tupT, p_tupL, p_add, p_sub, p_mul, p_lt, p_le, p_gt, p_ge, p_eqI, p_neI, p_isN, p_isnN, p_isB, p_isnB, p_isNone_n, p_isNone_i, p_isNone_t, p_isNone_l, p_appL, p_appT, b_mc, b_mn, b_ac, b_an, b_rs, b_rz, b_lc, b_ln, b_it, b_if, b_itt, b_iff, p_dSeq, p_eqB, p_neB, len_eT, len_eR, len_eV, isNone_eO, seq_eT, seq_eR, seq_eV, seq_eL, eO_some, eO_none, len_eL, p_dOrT, ↓p_eqN, ↓p_neN, ↓p_ltN, ↓p_leN, ↓p_gtN, ↓p_geN, Nat.reduceSub, h1, Bool.not_true, lc, Bool.not_false]
    | true =>
      rw [hL] at lc
      rw [Bool.and_eq_true, decide_eq_true_eq, decide_eq_true_eq] at hL
      have c1 : m_is_table_c1 [some (.tup rs), none, none] = some (.lst (rs.map fun r => .bl (rowIn r))) := by
        unfold m_is_table_c1
        exact comp_all (fun r : D => r) (fun r => .bl (rowIn r)) rs (by simp only [bnd_some, bnd_none, p_dc, p_dv, lk_z, lk_s, st_z, st_s, un_z, un_s, wipe_n, wipe_c, p_d2, p_d1, p_dnil, p_dcons, p_dL, p_asB, p_asI, p_asL, p_asSeqL, p_asSeqT, p_bV, p_dB, p_bAnd, p_bOr, p_bNot, p_dIf, p_dAnd, p_dOr, p_dNot, p_dCh, p_bYes, p_gN, p_gT, p_gsNil, p_gsCons, p_dNx, p_dRet, p_dSet, p_dIfS, p_dAsg, p_dPar, p_dAug, p_dApp, p_dSetIx, p_nLst, p_nRep, p_nOf, p_dSetN, p_dParN1, p_dParNN, p_iSeq, p_iRng1, p_iRng2, p_oNo, p_oIx, p_dSl, p_asIx, p_opTup, p_opLst, p_lenT, p_lenL, p_lenS, p_tupT, p_tupL, p_add, p_sub, p_mul, p_lt, p_le, p_gt, p_ge, p_eqI, p_neI, p_isN, p_isnN, p_isB, p_isnB, p_isNone_n, p_isNone_i, p_isNone_t, p_isNone_l, p_appL, p_appT, b_mc, b_mn, b_ac, b_an, b_rs, b_rz, b_lc, b_ln, b_it, b_if, b_itt, b_iff, p_dSeq, p_eqB, p_neB, len_eT, len_eR, len_eV, isNone_eO, seq_eT, seq_eR, seq_eV, seq_eL, eO_some, eO_none, len_eL, p_dOrT, ↓p_eqN, ↓p_neN, ↓p_ltN, ↓p_leN, ↓p_gtN, ↓p_geN, List.map_id']) (by omega) (by
          intro r hr
          exact ⟨_, rfl, row_test (hp r hr) rfl⟩)
      have c1' := opAll_b rowIn rs
      have d1 : (decide (1 ≤ rs.length) && decide (rs.length ≤ 5)) = true := by rw [Bool.and_eq_true, decide_eq_true_eq, decide_eq_true_eq]; exact hL
      cases hr : rs.all rowIn with
      | false =>
        have e : tabOk (.tup rs) = false := by show tabOkT rs = _; unfold tabOkT; rw [hr, d1]; rfl
        rw [e]
        refine run_rt rfl ?_
        rw [hr] at c1'
        simp only [bnd_some, bnd_none, p_dc, p_dv, lk_z, lk_s, st_z, st_s, un_z, un_s, wipe_n, wipe_c, p_d2, p_d1, p_dnil, p_dcons, p_dL, p_asB, p_asI, p_asL, p_asSeqL, p_asSeqT, p_bV, p_dB, p_bAnd, p_bOr, p_bNot, p_dIf, p_dAnd, p_dOr, p_dNot, p_dCh, p_bYes, p_gN, p_gT, p_gsNil, p_gsCons, p_dNx, p_dRet, p_dSet, p_dIfS, p_dAsg, p_dPar, p_dAug, p_dApp, p_dSetIx, p_nLst, p_nRep, p_nOf, p_dSetN, p_dParN1, p_dParNN, p_iSeq, p_iRng1, p_iRng2, p_oNo, p_oIx, p_dSl, p_asIx, p_opTup, p_opLst, p_lenT, p_lenL, p_lenS, p_tupT, p_tupL, p_add, p_sub, p_mul, p_lt, p_le, p_gt, p_ge, p_eqI, p_neI, p_isN, p_isnN, p_isB, p_isnB, p_isNone_n, p_isNone_i, p_isNone_t, p_isNone_l, p_appL, p_appT, b_mc, b_mn, b_ac, b_an, b_rs, b_rz, b_lc, b_ln, b_it, b_if, b_itt, b_iff, p_dSeq, p_eqB, p_neB, len_eT, len_eR, len_eV, isNone_eO, seq_eT, seq_eR, seq_eV, seq_eL, eO_some, eO_none, len_eL, p_dOrT, ↓p_eqN, ↓p_neN, ↓p_ltN, ↓p_leN, ↓p_gtN, ↓p_geN, Nat.reduceSub, h1, Bool.not_true, lc, Bool.not_false, c1, c1']
      | true =>
        rw [hr] at c1'
        have hr' : ∀ r ∈ rs, rowIn r = true := List.all_eq_true.mp hr
        have hT : ∀ r ∈ rs, isT r = true := fun r h => (rowIn_iff.mp (hr' r h)).1
        have c2 : m_is_table_c2 [some (.tup rs), none, none] = some (.lst (rs.map fun r => .int (lenT r))) := by
          unfold m_is_table_c2
          exact comp_all (fun r : D => r) (fun r => .int (lenT r)) rs (by simp only [bnd_some, bnd_none, p_dc, p_dv, lk_z, lk_s, st_z, st_s, un_z, un_s, wipe_n, wipe_c, p_d2, p_d1, p_dnil, p_dcons, p_dL, p_asB, p_asI, p_asL, p_asSeqL, p_asSeqT, p_bV, p_dB, p_bAnd, p_bOr, p_bNot, p_dIf, p_dAnd, p_dOr, p_dNot, p_dCh, p_bYes, p_gN, p_gT, p_gsNil, p_gsCons, p_dNx, p_dRet, p_dSet, p_dIfS, p_dAsg, p_dPar, p_dAug, p_dApp, p_dSetIx, p_nLst, p_nRep, p_nOf, p_dSetN, p_dParN1, p_dParNN, p_iSeq, p_iRng1, p_iRng2, p_oNo, p_oIx, p_dSl, p_asIx, p_opTup, p_opLst, p_lenT, p_lenL, p_lenS, p_tupT, p_tupL, p_add, p_sub, p_mul, p_lt, p_le, p_gt, p_ge, p_eqI, p_neI, p_isN, p_isnN, p_isB, p_isnB, p_isNone_n, p_isNone_i, p_isNone_t, p_isNone_l, p_appL, p_appT, b_mc, b_mn, b_ac, b_an, b_rs, b_rz, b_lc, b_ln, b_it, b_if, b_itt, b_iff, p_dSeq, p_eqB, p_neB, len_eT, len_eR, len_eV, isNone_eO, seq_eT, seq_eR, seq_eV, seq_eL, eO_some, eO_none, len_eL, p_dOrT, ↓p_eqN, ↓p_neN, ↓p_ltN, ↓p_leN, ↓p_gtN, ↓p_geN, List.map_id']) (by omega) (by
            intro r hr
            refine ⟨_, rfl, ?_⟩
            have e := isT_cells (hT r hr)
            rw [lenT_cells (hT r hr)]
            simp only [bnd_some, bnd_none, p_dc, p_dv, lk_z, lk_s, st_z, st_s, un_z, un_s, wipe_n, wipe_c, p_d2, p_d1, p_dnil, p_dcons, p_dL, p_asB, p_asI, p_asL, p_asSeqL, p_asSeqT, p_bV, p_dB, p_bAnd, p_bOr, p_bNot, p_dIf, p_dAnd, p_dOr, p_dNot, p_dCh, p_bYes, p_gN, p_gT, p_gsNil, p_gsCons, p_dNx, p_dRet, p_dSet, p_dIfS, p_dAsg, p_dPar, p_dAug, p_dApp, p_dSetIx, p_nLst, p_nRep, p_nOf, p_dSetN, p_dParN1, p_dParNN, p_iSeq, p_iRng1, p_iRng2, p_oNo, p_oIx, p_dSl, p_asIx, p_opTup, p_opLst, p_lenT, p_lenL, p_lenS, p_tupT, p_tupL, p_add, p_sub, p_mul, p_lt, p_le, p_gt, p_ge, p_eqI, p_neI, p_isN, p_isnN, p_isB, p_isnB, p_isNone_n, p_isNone_i, p_isNone_t, p_isNone_l, p_appL, p_appT, b_mc, b_mn, b_ac, b_an, b_rs, b_rz, b_lc, b_ln, b_it, b_if, b_itt, b_iff, p_dSeq, p_eqB, p_neB, len_eT, len_eR, len_eV, isNone_eO, seq_eT, seq_eR, seq_eV, seq_eL, eO_some, eO_none, len_eL, p_dOrT, ↓p_eqN, ↓p_neN, ↓p_ltN, ↓p_leN, ↓p_gtN, ↓p_geN]
            conv => lhs; rw [e]
            rfl)
        have ul := usort_len (rs.map fun r => (lenT r : Int))
        rw [List.length_map] at ul
        have c2' : opSset (.lst (rs.map fun r => .int (lenT r))) = some (.lst ((usort (rs.map fun r => (lenT r : Int))).map .int)) := by
          show (asInts _).bind _ = _
          rw [asInts_map]
          simp only [Option.bind_some]
          exact if_pos (by omega)
        cases hq : len1 rs with
        | false =>
          have e : tabOk (.tup rs) = false := by show tabOkT rs = _; unfold tabOkT; rw [hr, d1, hq]; rfl
          rw [e]
          refine run_rt rfl ?_
          have hq' : ¬ ((usort (rs.map fun r => (lenT r : Int))).length : Int) = 1 := by
            have := of_decide_eq_false hq
            omega
          simp only [bnd_some, bnd_none, p_dc, p_dv, lk_z, lk_s, st_z, st_s, un_z, un_s, wipe_n, wipe_c, p_d2, p_d1, p_dnil, p_dcons, p_dL, p_asB, p_asI, p_asL, p_asSeqL, p_asSeqT, p_bV, p_dB, p_bAnd, p_bOr, p_bNot, p_dIf, p_dAnd, p_dOr, p_dNot, p_dCh, p_bYes, p_gN, p_gT, p_gsNil, p_gsCons, p_dNx, p_dRet, p_dSet, p_dIfS, p_dAsg, p_dPar, p_dAug, p_dApp, p_dSetIx, p_nLst, p_nRep, p_nOf, p_dSetN, p_dParN1, p_dParNN, p_iSeq, p_iRng1, p_iRng2, p_oNo, p_oIx, p_dSl, p_asIx, p_opTup, p_opLst, p_lenT, p_lenL, p_lenS, p_tupT, p_tupL, p_add, p_sub, p_mul, p_lt, p_le, p_gt, p_ge, p_eqI, p_neI, p_isN, p_isnN, p_isB, p_isnB, p_isNone_n, p_isNone_i, p_isNone_t, p_isNone_l, p_appL, p_appT, b_mc, b_mn, b_ac, b_an, b_rs, b_rz, b_lc, b_ln, b_it, b_if, b_itt, b_iff, p_dSeq, p_eqB, p_neB, len_eT, len_eR, len_eV, isNone_eO, seq_eT, seq_eR, seq_eV, seq_eL, eO_some, eO_none, len_eL, p_dOrT, ↓p_eqN, ↓p_neN, ↓p_ltN, ↓p_leN, ↓p_gtN, ↓p_geN, Nat.reduceSub, h1, Bool.not_true, lc, Bool.not_false, c1, c1', c2, c2', List.length_map, decide_eq_false hq']
        | true =>
          have hq' : ((usort (rs.map fun r => (lenT r : Int))).length : Int) = 1 := by
            have := of_decide_eq_true hq
            omega
          have c3 : m_is_table_c3 [some (.tup rs), none, none] = some (.lst ((rs.flatMap cells).map fun e => .bl (entOk e))) := by
            unfold m_is_table_c3
            have hfl : (rs.flatMap fun x => ((cells x).filter ((fun _ _ => true : D → D → Bool) x)).map ((fun _ e => .bl (entOk e) : D → D → D) x)) = (rs.flatMap cells).map fun e => .bl (entOk e) := by
              rw [List.map_flatMap]
              congr 1
              funext x
              rw [List.filter_eq_self.mpr fun _ _ => rfl]
            rw [← hfl]
            refine comp2_if (fun r : D => r) (fun e : D => e) cells (fun _ _ => true) (fun _ e => .bl (entOk e)) rs (by simp only [bnd_some, bnd_none, p_dc, p_dv, lk_z, lk_s, st_z, st_s, un_z, un_s, wipe_n, wipe_c, p_d2, p_d1, p_dnil, p_dcons, p_dL, p_asB, p_asI, p_asL, p_asSeqL, p_asSeqT, p_bV, p_dB, p_bAnd, p_bOr, p_bNot, p_dIf, p_dAnd, p_dOr, p_dNot, p_dCh, p_bYes, p_gN, p_gT, p_gsNil, p_gsCons, p_dNx, p_dRet, p_dSet, p_dIfS, p_dAsg, p_dPar, p_dAug, p_dApp, p_dSetIx, p_nLst, p_nRep, p_nOf, p_dSetN, p_dParN1, p_dParNN, p_iSeq, p_iRng1, p_iRng2, p_oNo, p_oIx, p_dSl, p_asIx, p_opTup, p_opLst, p_lenT, p_lenL, p_lenS, p_tupT, p_tupL, p_add, p_sub, p_mul, p_lt, p_le, p_gt, p_ge, p_eqI, p_neI, p_isN, p_isnN, p_isB, p_isnB, p_isNone_n, p_isNone_i, p_isNone_t, p_isNone_l, p_appL, p_appT, b_mc, b_mn, b_ac, b_an, b_rs, b_rz, b_lc, b_ln, b_it, b_if, b_itt, b_iff, p_dSeq, p_eqB, p_neB, len_eT, len_eR, len_eV, isNone_eO, seq_eT, seq_eR, seq_eV, seq_eL, eO_some, eO_none, len_eL, p_dOrT, ↓p_eqN, ↓p_neN, ↓p_ltN, ↓p_leN, ↓p_gtN, ↓p_geN, List.map_id']) ?_ ?_
            · rw [hfl, List.length_map]
              have := flat_le (rs := rs) fun r h => by
                rw [← lenT_cells (hT r h)]
                exact (rowIn_iff.mp (hr' r h)).2.2
              omega
            · intro r hr
              refine ⟨_, rfl, ?_, ?_⟩
              · have e := isT_cells (hT r hr)
                simp only [bnd_some, bnd_none, p_dc, p_dv, lk_z, lk_s, st_z, st_s, un_z, un_s, wipe_n, wipe_c, p_d2, p_d1, p_dnil, p_dcons, p_dL, p_asB, p_asI, p_asL, p_asSeqL, p_asSeqT, p_bV, p_dB, p_bAnd, p_bOr, p_bNot, p_dIf, p_dAnd, p_dOr, p_dNot, p_dCh, p_bYes, p_gN, p_gT, p_gsNil, p_gsCons, p_dNx, p_dRet, p_dSet, p_dIfS, p_dAsg, p_dPar, p_dAug, p_dApp, p_dSetIx, p_nLst, p_nRep, p_nOf, p_dSetN, p_dParN1, p_dParNN, p_iSeq, p_iRng1, p_iRng2, p_oNo, p_oIx, p_dSl, p_asIx, p_opTup, p_opLst, p_lenT, p_lenL, p_lenS, p_tupT, p_tupL, p_add, p_sub, p_mul, p_lt, p_le, p_gt, p_ge, p_eqI, p_neI, p_isN, p_isnN, p_isB, p_isnB, p_isNone_n, p_isNone_i, p_isNone_t, p_isNone_l, p_appL, p_appT, b_mc, b_mn, b_ac, b_an, b_rs, b_rz, b_lc, b_ln, b_it, b_if, b_itt, b_iff, p_dSeq, p_eqB, p_neB, len_eT, len_eR, len_eV, isNone_eO, seq_eT, seq_eR, seq_eV, seq_eL, eO_some, eO_none, len_eL, p_dOrT, ↓p_eqN, ↓p_neN, ↓p_ltN, ↓p_leN, ↓p_gtN, ↓p_geN, List.map_id']
                conv => lhs; rw [e]
                rfl
              · intro e he
                exact ⟨_, rfl, rfl, fun _ => ent_test (pl_cells (hp r hr) e he) rfl⟩
          have c3' := opAll_b entOk (rs.flatMap cells)
          have e : tabOk (.tup rs) = (rs.flatMap cells).all entOk := by show tabOkT rs = _; unfold tabOkT; rw [hr, d1, hq]; rfl
          rw [e]
          refine run_rt rfl ?_
          simp only [bnd_some, bnd_none, p_dc, p_dv, lk_z, lk_s, st_z, st_s, un_z, un_s, wipe_n, wipe_c, p_d2, p_d1, p_dnil, p_dcons, p_dL, p_asB, p_asI, p_asL, p_asSeqL, p_asSeqT, p_bV, p_dB, p_bAnd, p_bOr, p_bNot, p_dIf, p_dAnd, p_dOr, p_dNot, p_dCh, p_bYes, p_gN, p_gT, p_gsNil, p_gsCons, p_dNx, p_dRet, p_dSet, p_dIfS, p_dAsg, p_dPar, p_dAug, p_dApp, p_dSetIx, p_nLst, p_nRep, p_nOf, p_dSetN, p_dParN1, p_dParNN, p_iSeq, p_iRng1, p_iRng2, p_oNo, p_oIx, p_dSl, p_asIx, p_opTup, p_opLst, p_lenT, p_lenL, p_lenS, p_tupT, p_tupL, p_add, p_sub, p_mul, p_lt, p_le, p_gt, p_ge, p_eqI, p_neI, p_isN, p_isnN, p_isB, p_isnB, p_isNone_n, p_isNone_i, p_isNone_t, p_isNone_l, p_appL, p_appT, b_mc, b_mn, b_ac, b_an, b_rs, b_rz, b_lc, b_ln, b_it, b_if, b_itt, b_iff, p_dSeq, p_eqB, p_neB, len_eT, len_eR, len_eV, isNone_eO, seq_eT, seq_eR, seq_eV, seq_eL, eO_some, eO_none, len_eL, p_dOrT, ↓p_eqN, ↓p_neN, ↓p_ltN, ↓p_leN, ↓p_gtN, ↓p_geN, Nat.reduceSub, h1, Bool.not_true, lc, Bool.not_false, c1, c1', c2, c2', List.length_map, decide_eq_true hq', c3, c3']
def badR (n : Nat) (r : D) : Bool := !isT r || !(decide (1 ≤ lenT r) && decide (lenT r ≤ 5)) || !decide (lenT r = n) || !(cells r).all entOk
theorem law_c1 {a r x : Option D} {es : List D} (hp : ∀ e ∈ es, pl e = true) (hl : es.length ≤ 5) : m_law_is_table_c1 [a, some (.tup es), x] = some (.lst (es.filter fun e => !entOk e)) := by
  unfold m_law_is_table_c1
  rw [comp_if (fun e : D => e) (fun e => !entOk e) (fun e => e) es (by simp only [bnd_some, bnd_none, p_dc, p_dv, lk_z, lk_s, st_z, st_s, un_z, un_s, wipe_n, wipe_c, p_d2, p_d1, p_dnil, p_dcons, p_dL, p_asB, p_asI, p_asL, p_asSeqL, p_asSeqT, p_bV, p_dB, p_bAnd, p_bOr, p_bNot, p_dIf, p_dAnd, p_dOr, p_dNot, p_dCh, p_bYes, p_gN, p_gT, p_gsNil, p_gsCons, p_dNx, p_dRet, p_dSet, p_dIfS, p_dAsg, p_dPar, p_dAug, p_dApp, p_dSetIx, p_nLst, p_nRep, p_nOf, p_dSetN, p_dParN1, p_dParNN, p_iSeq, p_iRng1, p_iRng2, p_oNo, p_oIx, p_dSl, p_asIx, p_opTup, p_opLst, p_lenT, p_lenL, p_lenS, p_tupT, p_tupL, p_add, p_sub, p_mul, p_lt, p_le, p_gt, p_ge, p_eqI, p_neI, p_isN, p_isnN, p_isB, p_isnB, p_isNone_n, p_isNone_i, p_isNone_t, p_isNone_l, p_appL, p_appT, b_mc, b_mn, b_ac, b_an, b_rs, b_rz, b_lc, b_ln, b_it, b_if, b_itt, b_iff, p_dSeq, p_eqB, p_neB, len_eT, len_eR, len_eV, isNone_eO, seq_eT, seq_eR, seq_eV, seq_eL, eO_some, eO_none, len_eL, p_dOrT, ↓p_eqN, ↓p_neN, ↓p_ltN, ↓p_leN, ↓p_gtN, ↓p_geN, List.map_id']) (by omega) (by
    intro e he
    refine ⟨_, rfl, ?_, fun _ => rfl⟩
    have ii := law_is_integer_any e (hp e he) 1 1000000
    unfold entOk
    cases z : isNone e with
    | true => simp only [bnd_some, bnd_none, p_dc, p_dv, lk_z, lk_s, st_z, st_s, un_z, un_s, wipe_n, wipe_c, p_d2, p_d1, p_dnil, p_dcons, p_dL, p_asB, p_asI, p_asL, p_asSeqL, p_asSeqT, p_bV, p_dB, p_bAnd, p_bOr, p_bNot, p_dIf, p_dAnd, p_dOr, p_dNot, p_dCh, p_bYes, p_gN, p_gT, p_gsNil, p_gsCons, p_dNx, p_dRet, p_dSet, p_dIfS, p_dAsg, p_dPar, p_dAug, p_dApp, p_dSetIx, p_nLst, p_nRep, p_nOf, p_dSetN, p_dParN1, p_dParNN, p_iSeq, p_iRng1, p_iRng2, p_oNo, p_oIx, p_dSl, p_asIx, p_opTup, p_opLst, p_lenT, p_lenL, p_lenS, p_tupT, p_tupL, p_add, p_sub, p_mul, p_lt, p_le, p_gt, p_ge, p_eqI, p_neI, p_isN, p_isnN, p_isB, p_isnB, p_isNone_n, p_isNone_i, p_isNone_t, p_isNone_l, p_appL, p_appT, b_mc, b_mn, b_ac, b_an, b_rs, b_rz, b_lc, b_ln, b_it, b_if, b_itt, b_iff, p_dSeq, p_eqB, p_neB, len_eT, len_eR, len_eV, isNone_eO, seq_eT, seq_eR, seq_eV, seq_eL, eO_some, eO_none, len_eL, p_dOrT, ↓p_eqN, ↓p_neN, ↓p_ltN, ↓p_leN, ↓p_gtN, ↓p_geN, z, Bool.true_or, Bool.not_true]
    | false => simp only [bnd_some, bnd_none, p_dc, p_dv, lk_z, lk_s, st_z, st_s, un_z, un_s, wipe_n, wipe_c, p_d2, p_d1, p_dnil, p_dcons, p_dL, p_asB, p_asI, p_asL, p_asSeqL, p_asSeqT, p_bV, p_dB, p_bAnd, p_bOr, p_bNot, p_dIf, p_dAnd, p_dOr, p_dNot, p_dCh, p_bYes, p_gN, p_gT, p_gsNil, p_gsCons, p_dNx, p_dRet, p_dSet, p_dIfS, p_dAsg, p_dPar, p_dAug, p_dApp, p_dSetIx, p_nLst, p_nRep, p_nOf, p_dSetN, p_dParN1, p_dParNN, p_iSeq, p_iRng1, p_iRng2, p_oNo, p_oIx, p_dSl, p_asIx, p_opTup, p_opLst, p_lenT, p_lenL, p_lenS, p_tupT, p_tupL, p_add, p_sub, p_mul, p_lt, p_le, p_gt, p_ge, p_eqI, p_neI, p_isN, p_isnN, p_isB, p_isnB, p_isNone_n, p_isNone_i, p_isNone_t, p_isNone_l, p_appL, p_appT, b_mc, b_mn, b_ac, b_an, b_rs, b_rz, b_lc, b_ln, b_it, b_if, b_itt, b_iff, p_dSeq, p_eqB, p_neB, len_eT, len_eR, len_eV, isNone_eO, seq_eT, seq_eR, seq_eV, seq_eL, eO_some, eO_none, len_eL, p_dOrT, ↓p_eqN, ↓p_neN, ↓p_ltN, ↓p_leN, ↓p_gtN, ↓p_geN, z, p6k, ii, Bool.false_or, Bool.not_false])]
  rw [List.map_id']
theorem law_b1 {rs : List D} {r0 r : D} {x : Option D} (hd : pl r = true) (hdp : dp r ≤ 50) (h0 : rs[0]? = some r0) (ht : isT r0 = true ∨ isT r = false) :
    (badR (lenT r0) r = true → m_law_is_table_b1 [some (.tup rs), some r, x] = some (.rt (.bl false))) ∧ (badR (lenT r0) r = false → m_law_is_table_b1 [some (.tup rs), some r, x] = some (.nx [some (.tup rs), some r, x])) := by
  have h1 := isi_tup r hd
  cases z : isT r with
  | false =>
    rw [z] at h1
    refine ⟨fun _ => ?_, fun q => ?_⟩
    · simp only [m_law_is_table_b1, bnd_some, bnd_none, p_dc, p_dv, lk_z, lk_s, st_z, st_s, un_z, un_s, wipe_n, wipe_c, p_d2, p_d1, p_dnil, p_dcons, p_dL, p_asB, p_asI, p_asL, p_asSeqL, p_asSeqT, p_bV, p_dB, p_bAnd, p_bOr, p_bNot, p_dIf, p_dAnd, p_dOr, p_dNot, p_dCh, p_bYes, p_gN, p_gT, p_gsNil, p_gsCons, p_dNx, p_dRet, p_dSet, p_dIfS, p_dAsg, p_dPar, p_dAug, p_dApp, p_dSetIx, p_nLst, p_nRep, p_nOf, p_dSetN, p_dParN1, p_dParNN, p_iSeq, p_iRng1, p_iRng2, p_oNo, p_oIx, p_dSl, p_asIx, p_opTup, p_opLst, p_lenT, p_lenL, p_lenS, p_tupT, p_tupL, p_add, p_sub, p_mul, p_lt, p_le, p_gt, p_ge, p_eqI, p_neI, p_isN, p_isnN, p_isB, p_isnB, p_isNone_n, p_isNone_i, p_isNone_t, p_isNone_l, p_appL, p_appT, b_mc, b_mn, b_ac, b_an, b_rs, b_rz, b_lc, b_ln, b_it, b_if, b_itt, b_iff, p_dSeq, p_eqB, p_neB, len_eT, len_eR, len_eV, isNone_eO, seq_eT, seq_eR, seq_eV, seq_eL, eO_some, eO_none, len_eL, p_dOrT, ↓p_eqN, ↓p_neN, ↓p_ltN, ↓p_leN, ↓p_gtN, ↓p_geN, h1, Bool.not_false]
    · unfold badR at q
      rw [z] at q
      cases q
  | true =>
    have ht0 : isT r0 = true := ht.resolve_right (by rw [z]; decide)
    rw [z] at h1
    have e := isT_cells z
    have hp := pl_cells hd
    have lt := lenT_cells z
    have e0 := isT_cells ht0
    have lt0 := lenT_cells ht0
    unfold badR
    rw [z, lt, lt0]
    generalize hes : cells r = es at *
    generalize cells r0 = es0 at *
    subst e
    subst e0
    have lc := len_ch es
    simp only [bnd_some, bnd_none, p_dc, p_dv, lk_z, lk_s, st_z, st_s, un_z, un_s, wipe_n, wipe_c, p_d2, p_d1, p_dnil, p_dcons, p_dL, p_asB, p_asI, p_asL, p_asSeqL, p_asSeqT, p_bV, p_dB, p_bAnd, p_bOr, p_bNot, p_dIf, p_dAnd, p_dOr, p_dNot, p_dCh, p_bYes, p_gN, p_gT, p_gsNil, p_gsCons, p_dNx, p_dRet, p_dSet, p_dIfS, p_dAsg, p_dPar, p_dAug, p_dApp, p_dSetIx, p_nLst, p_nRep, p_nOf, p_dSetN, p_dParN1, p_dParNN, p_iSeq, p_iRng1, p_iRng2, p_oNo, p_oIx, p_dSl, p_asIx, p_opTup, p_opLst, p_lenT, p_lenL, p_lenS, p_tupT, p_tupL, p_add, p_sub, p_mul, p_lt, p_le, p_gt, p_ge, p_eqI, p_neI, p_isN, p_isnN, p_isB, p_isnB, p_isNone_n, p_isNone_i, p_isNone_t, p_isNone_l, p_appL, p_appT, b_mc, b_mn, b_ac, b_an, b_rs, b_rz, b_lc, b_ln, b_it, b_if, b_itt, b_iff, p_dSeq, p_eqB, p_neB, len_eT, len_eR, len_eV, isNone_eO, seq_eT, seq_eR, seq_eV, seq_eL, eO_some, eO_none, len_eL, p_dOrT, ↓p_eqN, ↓p_neN, ↓p_ltN, ↓p_leN, ↓p_gtN, ↓p_geN] at lc
    have ix0 : opIx (.tup rs) (.int 0) = some (.tup es0) := by
      have : 0 < rs.length := by
        rcases Nat.eq_zero_or_pos rs.length with q | q
        · rw [List.eq_nil_of_length_eq_zero q] at h0
          cases h0
        · exact q
      have ixn : ixNat rs.length 0 = some 0 := by
        unfold ixNat
        simp only [Int.le_refl, if_true]
        rw [if_pos (by omega)]
        rfl
      show (ixNat rs.length 0).bind _ = _
      rw [ixn]
      exact h0
    simp only [Bool.not_true, Bool.false_or]
    cases hL : (decide (1 ≤ es.length) && decide (es.length ≤ 5)) with
    | false =>
      rw [hL] at lc
      refine ⟨fun _ => ?_, fun q => ?_⟩
      · simp only [m_law_is_table_b1, bnd_some, bnd_none, p_dc, p_dv, lk_z, lk_s, st_z, st_s, un_z, un_s, wipe_n, wipe_c, p_d2, p_d1, p_dnil, p_dcons, p_dL, p_asB, p_asI, p_asL, p_asSeqL, p_asSeqT, p_bV, p_dB, p_bAnd, p_bOr, p_bNot, p_dIf, p_dAnd, p_dOr, p_dNot, p_dCh, p_bYes, p_gN, p_gT, p_gsNil, p_gsCons, p_dNx, p_dRet, p_dSet, p_dIfS, p_dAsg, p_dPar, p_dAug, p_dApp, p_dSetIx, p_nLst, p_nRep, p_nOf, p_dSetN, p_dParN1, p_dParNN, p_iSeq, p_iRng1, p_iRng2, p_oNo, p_oIx, p_dSl, p_asIx, p_opTup, p_opLst, p_lenT, p_lenL, p_lenS, p_tupT, p_tupL, p_add, p_sub, p_mul, p_lt, p_le, p_gt, p_ge, p_eqI, p_neI, p_isN, p_isnN, p_isB, p_isnB, p_isNone_n, p_isNone_i, p_isNone_t, p_isNone_l, p_appL, p_appT, b_mc, b_mn, b_ac, b_an, b_rs, b_rz, b_lc, b_ln, b_it, b_if, b_itt, b_iff, p_dSeq, p_eqB, p_neB, len_eT, len_eR, len_eV, isNone_eO, seq_eT, seq_eR, seq_eV, seq_eL, eO_some, eO_none, len_eL, p_dOrT, ↓p_eqN, ↓p_neN, ↓p_ltN, ↓p_leN, ↓p_gtN, ↓p_geN, h1, Bool.not_false, Bool.not_true, lc]
      · simp at q
    | true =>
      rw [hL] at lc
      by_cases hn : es.length = es0.length
      · have h5 : es.length ≤ 5 := by
          rw [Bool.and_eq_true, decide_eq_true_eq, decide_eq_true_eq] at hL
          exact hL.2
        have c1 := law_c1 (a := some (.tup rs)) (r := none) (x := x) hp h5
        have okl : okD 60 (.lst (es.filter fun e => !entOk e)) = true := okD_of 60 _ (pls_iff.mpr fun e he => hp e (List.mem_filter.mp he).1) (by
          show 1 + dps _ ≤ 60
          have : dps (es.filter fun e => !entOk e) ≤ 50 := dps_le.mpr fun e he => by
            have h2 : 1 + dps es ≤ 50 := hdp
            have h3 := (dps_le (n := 50) (ds := es)).mp (by omega)
            exact h3 e (List.mem_filter.mp he).1
          omega)
        have ne : opNe (.lst (es.filter fun e => !entOk e)) (.lst []) = some (.bl (!es.all entOk)) := by
          unfold opNe
          rw [if_pos ⟨okl, rfl⟩]
          congr 2
          rw [List.all_eq_not_any_not]
          cases q : es.filter fun e => !entOk e with
          | nil =>
            have : es.any (fun e => !entOk e) = false := by
              rw [List.any_eq_false]
              intro y hy w
              have : y ∈ es.filter fun e => !entOk e := List.mem_filter.mpr ⟨hy, w⟩
              rw [q] at this
              cases this
            rw [this]
            rfl
          | cons y l =>
            have hy : y ∈ es.filter fun e => !entOk e := by rw [q]; exact List.mem_cons_self
            have : es.any (fun e => !entOk e) = true := List.any_eq_true.mpr ⟨y, (List.mem_filter.mp hy).1, (List.mem_filter.mp hy).2⟩
            rw [this]
            rfl
        rw [decide_eq_true hn]
        have on : opLst [] = some (.lst []) := rfl
        cases hb : es.all entOk with
        | true =>
          rw [hb] at ne
          refine ⟨fun q => absurd q (by decide), fun _ => ?_⟩
          simp only [m_law_is_table_b1, bnd_some, bnd_none, p_dc, p_dv, lk_z, lk_s, st_z, st_s, un_z, un_s, wipe_n, wipe_c, p_d2, p_d1, p_dnil, p_dcons, p_dL, p_asB, p_asI, p_asL, p_asSeqL, p_asSeqT, p_bV, p_dB, p_bAnd, p_bOr, p_bNot, p_dIf, p_dAnd, p_dOr, p_dNot, p_dCh, p_bYes, p_gN, p_gT, p_gsNil, p_gsCons, p_dNx, p_dRet, p_dSet, p_dIfS, p_dAsg, p_dPar, p_dAug, p_dApp, p_dSetIx, p_nLst, p_nRep, p_nOf, p_dSetN, p_dParN1, p_dParNN, p_iSeq, p_iRng1, p_iRng2, p_oNo, p_oIx, p_dSl, p_asIx, p_opTup, p_opLst, p_lenT, p_lenL, p_lenS, p_tupT, p_tupL, p_add, p_sub, p_mul, p_lt, p_le, p_gt, p_ge, p_eqI, p_neI, p_isN, p_isnN, p_isB, p_isnB, p_isNone_n, p_isNone_i, p_isNone_t, p_isNone_l, p_appL, p_appT, b_mc, b_mn, b_ac, b_an, b_rs, b_rz, b_lc, b_ln, b_it, b_if, b_itt, b_iff, p_dSeq, p_eqB, p_neB, len_eT, len_eR, len_eV, isNone_eO, seq_eT, seq_eR, seq_eV, seq_eL, eO_some, eO_none, len_eL, p_dOrT, ↓p_eqN, ↓p_neN, ↓p_ltN, ↓p_leN, ↓p_gtN, ↓p_geN, h1, Bool.not_false, Bool.not_true, lc, ix0, hn.symm, decide_true, c1, on, ne, Nat.zero_le, Nat.reduceLeDiff]
        | false =>
          rw [hb] at ne
          refine ⟨fun _ => ?_, fun q => absurd q (by decide)⟩
          simp only [m_law_is_table_b1, bnd_some, bnd_none, p_dc, p_dv, lk_z, lk_s, st_z, st_s, un_z, un_s, wipe_n, wipe_c, p_d2, p_d1, p_dnil, p_dcons, p_dL, p_asB, p_asI, p_asL, p_asSeqL, p_asSeqT, p_bV, p_dB, p_bAnd, p_bOr, p_bNot, p_dIf, p_dAnd, p_dOr, p_dNot, p_dCh, p_bYes, p_gN, p_gT, p_gsNil, p_gsCons, p_dNx, p_dRet, p_dSet, p_dIfS, p_dAsg, p_dPar, p_dAug, p_dApp, p_dSetIx, p_nLst, p_nRep, p_nOf, p_dSetN, p_dParN1, p_dParNN, p_iSeq, p_iRng1, p_iRng2, p_oNo, p_oIx, p_dSl, p_asIx, p_opTup, p_opLst, p_lenT, p_lenL, p_lenS, p_tupT, p_tupL, p_add, p_sub, p_mul, p_lt, p_le, p_gt, p_ge, p_eqI, p_neI, p_isN, p_isnN, p_isB, p_isnB, p_isNone_n, p_isNone_i, p_isNone_t, p_isNone_l, p_appL, p_appT, b_mc, b_mn, b_ac, b_an, b_rs, b_rz, b_lc, b_ln, b_it, b_if, b_itt, b_iff, p_dSeq, p_eqB, p_neB, len_eT, len_eR, len_eV, isNone_eO, seq_eT, seq_eR, seq_eV, seq_eL, eO_some, eO_none, len_eL, p_dOrT, ↓p_eqN, ↓p_neN, ↓p_ltN, ↓p_leN, ↓p_gtN, ↓p_geN, h1, Bool.not_false, Bool.not_true, lc, ix0, hn.symm, decide_true, c1, on, ne, Nat.zero_le, Nat.reduceLeDiff]
      · refine ⟨fun _ => ?_, fun q => ?_⟩
        · simp only [m_law_is_table_b1, bnd_some, bnd_none, p_dc, p_dv, lk_z, lk_s, st_z, st_s, un_z, un_s, wipe_n, wipe_c, p_d2, p_d1, p_dnil, p_dcons, p_dL, p_asB, p_asI, p_asL, p_asSeqL, p_asSeqT, p_bV, p_dB, p_bAnd, p_bOr, p_bNot, p_dIf, p_dAnd, p_dOr, p_dNot, p_dCh, p_bYes, p_gN, p_gT, p_gsNil, p_gsCons, p_dNx, p_dRet, p_dSet, p_dIfS, p_dAsg, p_dPar, p_dAug, p_dApp, p_dSetIx, p_nLst, p_nRep, p_nOf, p_dSetN, p_dParN1, p_dParNN, p_iSeq, p_iRng1, p_iRng2, p_oNo, p_oIx, p_dSl, p_asIx, p_opTup, p_opLst, p_lenT, p_lenL, p_lenS, p_tupT, p_tupL, p_add, p_sub, p_mul, p_lt, p_le, p_gt, p_ge, p_eqI, p_neI, p_isN, p_isnN, p_isB, p_isnB, p_isNone_n, p_isNone_i, p_isNone_t, p_isNone_l, p_appL, p_appT, b_mc, b_mn, b_ac, b_an, b_rs, b_rz, b_lc, b_ln, b_it, b_if, b_itt, b_iff, p_dSeq, p_eqB, p_neB, len_eT, len_eR, len_eV, isNone_eO, seq_eT, seq_eR, seq_eV, seq_eL, eO_some, eO_none, len_eL, p_dOrT, ↓p_eqN, ↓p_neN, ↓p_ltN, ↓p_leN, ↓p_gtN, ↓p_geN, h1, Bool.not_false, Bool.not_true, lc, ix0, decide_eq_false hn]
        · rw [decide_eq_false hn] at q
          cases q
theorem tab_bad {rs : List D} {r0 : D} {l : List D} (hrs : rs = r0 :: l) (hL : (decide (1 ≤ rs.length) && decide (rs.length ≤ 5)) = true) : tabOk (.tup rs) = !rs.any (badR (lenT r0)) := by
  show tabOkT rs = _
  unfold tabOkT
  rw [hL, Bool.true_and]
  have key : (rs.all rowIn && (len1 rs && (rs.flatMap cells).all entOk)) = true ↔ (!rs.any (badR (lenT r0))) = true := by
    rw [Bool.and_eq_true, Bool.and_eq_true, List.all_eq_true, List.all_eq_true, Bool.not_eq_true', List.any_eq_false]
    have bad : ∀ r, ¬ badR (lenT r0) r = true ↔ (rowIn r = true ∧ lenT r = lenT r0 ∧ (cells r).all entOk = true) := by
      intro r
      unfold badR rowIn
      cases isT r <;> cases (decide (1 ≤ lenT r) && decide (lenT r ≤ 5)) <;> cases (cells r).all entOk <;> simp
    constructor
    · rintro ⟨h1, h2, h3⟩ r hr
      refine (bad r).mpr ⟨h1 r hr, ?_, ?_⟩
      · by_cases q : lenT r = lenT r0
        · exact q
        · refine absurd (of_decide_eq_true h2) (usort_more _ (a := (lenT r : Int)) (b := (lenT r0 : Int)) (List.mem_map.mpr ⟨r, hr, rfl⟩) (List.mem_map.mpr ⟨r0, by rw [hrs]; exact List.mem_cons_self, rfl⟩) (by omega))
      · exact List.all_eq_true.mpr fun e he => h3 e (List.mem_flatMap.mpr ⟨r, hr, he⟩)
    · intro h
      refine ⟨fun r hr => ((bad r).mp (h r hr)).1, ?_, ?_⟩
      · refine decide_eq_true ?_
        rw [usort_one _ (lenT r0 : Int) (by
          intro x hx
          obtain ⟨r, hr, rfl⟩ := List.mem_map.mp hx
          have := ((bad r).mp (h r hr)).2.1
          omega) (by rw [hrs]; simp)]
        rfl
      · intro e he
        obtain ⟨r, hr, he⟩ := List.mem_flatMap.mp he
        exact List.all_eq_true.mp ((bad r).mp (h r hr)).2.2 e he
  cases a : (rs.all rowIn && (len1 rs && (rs.flatMap cells).all entOk)) <;> cases b : (!rs.any (badR (lenT r0))) <;> first | rfl | (rw [a, b] at key; simp at key)
theorem law_loop {rs : List D} {r0 : D} (h0 : rs[0]? = some r0) (ht : isT r0 = true) (x2 : Option D) : ∀ (l : List D), (∀ r ∈ l, pl r = true ∧ dp r ≤ 50) → ∀ y : Option D, ∃ y', forL (gN 1) m_law_is_table_b1 l [some (.tup rs), y, x2] = some (if l.any (badR (lenT r0)) = true then R.rt (.bl false) else R.nx [some (.tup rs), y', x2])
  | [], _, y => ⟨y, rfl⟩
  | r :: l, h, y => by
    have hr := h r List.mem_cons_self
    have b := law_b1 (x := x2) hr.1 hr.2 h0 (Or.inl ht)
    obtain ⟨y', ih⟩ := law_loop h0 ht x2 l (fun z hz => h z (List.mem_cons_of_mem _ hz)) (some r)
    refine ⟨y', ?_⟩
    have g : gN 1 r [some (.tup rs), y, x2] = some [some (.tup rs), some r, x2] := rfl
    cases q : badR (lenT r0) r with
    | true => simp [forL, g, b.1 q, q]
    | false => simp [forL, g, b.2 q, q, ih]
theorem law_is_table_any (d : D) (hd : pl d = true) (hdp : dp d ≤ 50) : m_law_is_table [d] = some (.bl (tabOk d)) := by
  have h1 := isi_tup d hd
  cases z : isT d with
  | false =>
    rw [z] at h1
    have e : tabOk d = false := by cases d <;> first | rfl | cases z
    rw [e]
    refine run_rt rfl ?_
    simp only [bnd_some, bnd_none, p_dc, p_dv, lk_z, lk_s, st_z, st_s, un_z, un_s, wipe_n, wipe_c, p_d2, p_d1, p_dnil, p_dcons, p_dL, p_asB, p_asI, p_asL, p_asSeqL, p_asSeqT, p_bV, p_dB, p_bAnd, p_bOr, p_bNot, p_dIf, p_dAnd, p_dOr, p_dNot, p_dCh, p_bYes, p_gN, p_gT, p_gsNil, p_gsCons, p_dNx, p_dRet, p_dSet, p_dIfS, p_dAsg, p_dPar, p_dAug, p_dApp, p_dSetIx, p_nLst, p_nRep, p_nOf, p_dSetN, p_dParN1, p_dParNN, p_iSeq, p_iRng1, p_iRng2, p_oNo, p_oIx, p_dSl, p_asIx, p_opTup, p_opLst, p_lenT, p_lenL, p_lenS, p_tupT, p_tupL, p_add, p_sub, p_mul, p_lt, p_le, p_gt, p_ge, p_eqI, p_neI, p_isN, p_isnN, p_isB, p_isnB, p_isNone_n, p_isNone_i, p_isNone_t, p_isNone_l, p_appL, p_appT, b_mc, b_mn, b_ac, b_an, b_rs, b_rz, b_lc, b_ln, b_it, b_if, b_itt, b_iff, p_dSeq, p_eqB, p_neB, len_eT, len_eR, len_eV, isNone_eO, seq_eT, seq_eR, seq_eV, seq_eL, eO_some, eO_none, len_eL, p_dOrT, ↓p_eqN, ↓p_neN, ↓p_ltN, ↓p_leN, ↓p_gtN, ↓p_geN, Nat.reduceSub, h1, Bool.not_false]
  | true =>
    rw [z] at h1
    have e := isT_cells z
    generalize cells d = rs at e
    subst e
    have hp : ∀ r ∈ rs, pl r = true := pls_iff.mp hd
    have hq : ∀ r ∈ rs, dp r ≤ 50 := by
      have h2 : 1 + dps rs ≤ 50 := hdp
      exact (dps_le (n := 50) (ds := rs)).mp (by omega)
    have lc := len_ch rs
    simp only [bnd_some, bnd_none, p_dc, p_dv, lk_z, lk_s, st_z, st_s, un_z, un_s, wipe_n, wipe_c, p_d2, p_d1, p_dnil, p_dcons, p_dL, p_asB, p_asI, p_asL, p_asSeqL, p_asSeqT, p_bV, p_dB, p_bAnd, p_bOr, p_bNot, p_dIf, p_dAnd, p_dOr, p_dNot, p_dCh, p_bYes, p_gN, p_gT, p_gsNil, p_gsCons, p_dNx, p_dRet, p_dSet, p_dIfS, p_dAsg, p_dPar, p_dAug, p_dApp, p_dSetIx, p_nLst, p_nRep, p_nOf, p_dSetN, p_dParN1, p_dParNN, p_iSeq, p_iRng1, p_iRng2, p_oNo, p_oIx, p_dSl, p_asIx, p_opTup, p_opLst, p_lenT, p_lenL, p_lenS, p_tupT, p_tupL, p_add, p_sub, p_mul, p_lt, p_le, p_gt, p_ge, p_eqI, p_neI, p_isN, p_isnN, p_isB, p_isnB, p_isNone_n, p_isNone_i, p_isNone_t, p_isNone_l, p_appL, p_appT, b_mc, b_mn, b_ac, b_an, b_rs, b_rz, b_lc, b_ln, b_it, b_if, b_itt, b_iff, p_dSeq, p_eqB, p_neB, len_eT, len_eR, len_eV, isNone_eO, seq_eT, seq_eR, seq_eV, seq_eL, eO_some, eO_none, len_eL, p_dOrT, ↓p_eqN, ↓p_neN, ↓p_ltN, ↓p_leN, ↓p_gtN, ↓p_geN] at lc
    cases hL : (decide (1 ≤ rs.length) && decide (rs.length ≤ 5)) with
    | false =>
      have e : tabOk (.tup rs) = false := by show tabOkT rs = _; unfold tabOkT; rw [hL]; rfl
      rw [e]
      refine run_rt rfl ?_
      rw [hL] at lc
      simp only [bnd_some, bnd_none, p_dc, p_dv, lk_z, lk_s, st_z, st_s, un_z, un_s, wipe_n, wipe_c, p_d2, p_d1, p_dnil, p_dcons, p_dL, p_asB, p_asI, p_asL, p_asSeqL, p_asSeqT, p_bV, p_dB, p_bAnd, p_bOr, p_bNot, p_dIf, p_dAnd, p_dOr, p_dNot, p_dCh, p_bYes, p_gN, p_gT, p_gsNil, p_gsCons, p_dNx, p_dRet, p_dSet, p_dIfS, p_dAsg, p_dPar, p_dAug, p_dApp, p_dSetIx, p_nLst, p_nRep, p_nOf, p_dSetN, p_dParN1, p_dParNN, p_iSeq, p_iRng1, p_iRng2, p_oNo, p_oIx, p_dSl, p_asIx, p_opTup, p_opLst, p_lenT, p_lenL, p_lenS, p_tupT, p_tupL, p_add, p_sub, p_mul, p_lt, p_le, p_gt, p_ge, p_eqI, p_neI, p_isN, p_isnN, p_isB, p_isnB, p_isNone_n, p_isNone_i, p_isNone_t, p_isNone_l, p_appL, p_appT, b_mc, b_mn, b_ac, b_an, b_rs, b_rz, b_lc, b_ln, b_it, b_if, b_itt, b_iff, p_dSeq, p_eqB, p_neB, len_eT, len_eR, len_eV, isNone_eO, seq_eT, seq_eR, seq_eV, seq_eL, eO_some, eO_none, len_eL, p_dOrT, ↓p_eqN, ↓p_neN, ↓p_ltN, ↓p_leN, ↓p_gtN, ↓p_geN, Nat.reduceSub, h1, Bool.not_true, lc, Bool.not_false]
    | true =>
      rw [hL] at lc
      cases hrs : rs with
      | nil => rw [hrs] at hL; cases hL
      | cons r0 l =>
        have h0 : rs[0]? = some r0 := by rw [hrs]; rfl
        rw [← hrs, tab_bad hrs hL]
        have it : iSeq (dv 0) [some (.tup rs), none, none] = some rs := rfl
        have go : ∃ y', forL (gN 1) m_law_is_table_b1 rs [some (.tup rs), none, none] = some (if rs.any (badR (lenT r0)) = true then R.rt (.bl false) else R.nx [some (.tup rs), y', none]) := by
          cases ht : isT r0 with
          | true => exact law_loop h0 ht none rs (fun r hr => ⟨hp r hr, hq r hr⟩) none
          | false =>
            have hm : r0 ∈ rs := by rw [hrs]; exact List.mem_cons_self
            have b := law_b1 (x := none) (hp r0 hm) (hq r0 hm) h0 (Or.inr ht)
            have q : badR (lenT r0) r0 = true := by unfold badR; rw [ht]; rfl
            refine ⟨none, ?_⟩
            have g : gN 1 r0 [some (.tup rs), none, none] = some [some (.tup rs), some r0, none] := rfl
            have a : rs.any (badR (lenT r0)) = true := List.any_eq_true.mpr ⟨r0, hm, q⟩
            rw [a]
            conv => lhs; arg 3; rw [hrs]
            simp [forL, g, b.1 q]
        obtain ⟨y', go⟩ := go
        refine run_rt rfl ?_
        have f := (for_eq (g := gN 1) (b := m_law_is_table_b1) it).trans go
        cases q : rs.any (badR (lenT r0)) with
        | true =>
          rw [q] at f
          simp only [bnd_some, bnd_none, p_dc, p_dv, lk_z, lk_s, st_z, st_s, un_z, un_s, wipe_n, wipe_c, p_d2, p_d1, p_dnil, p_dcons, p_dL, p_asB, p_asI, p_asL, p_asSeqL, p_asSeqT, p_bV, p_dB, p_bAnd, p_bOr, p_bNot, p_dIf, p_dAnd, p_dOr, p_dNot, p_dCh, p_bYes, p_gN, p_gT, p_gsNil, p_gsCons, p_dNx, p_dRet, p_dSet, p_dIfS, p_dAsg, p_dPar, p_dAug, p_dApp, p_dSetIx, p_nLst, p_nRep, p_nOf, p_dSetN, p_dParN1, p_dParNN, p_iSeq, p_iRng1, p_iRng2, p_oNo, p_oIx, p_dSl, p_asIx, p_opTup, p_opLst, p_lenT, p_lenL, p_lenS, p_tupT, p_tupL, p_add, p_sub, p_mul, p_lt, p_le, p_gt, p_ge, p_eqI, p_neI, p_isN, p_isnN, p_isB, p_isnB, p_isNone_n, p_isNone_i, p_isNone_t, p_isNone_l, p_appL, p_appT, b_mc, b_mn, b_ac, b_an, b_rs, b_rz, b_lc, b_ln, b_it, b_if, b_itt, b_iff, p_dSeq, p_eqB, p_neB, len_eT, len_eR, len_eV, isNone_eO, seq_eT, seq_eR, seq_eV, seq_eL, eO_some, eO_none, len_eL, p_dOrT, ↓p_eqN, ↓p_neN, ↓p_ltN, ↓p_leN, ↓p_gtN, ↓p_geN, Nat.reduceSub, h1, Bool.not_true, lc, Bool.not_false, f]
        | false =>
          rw [q] at f
          simp only [bnd_some, bnd_none, p_dc, p_dv, lk_z, lk_s, st_z, st_s, un_z, un_s, wipe_n, wipe_c, p_d2, p_d1, p_dnil, p_dcons, p_dL, p_asB, p_asI, p_asL, p_asSeqL, p_asSeqT, p_bV, p_dB, p_bAnd, p_bOr, p_bNot, p_dIf, p_dAnd, p_dOr, p_dNot, p_dCh, p_bYes, p_gN, p_gT, p_gsNil, p_gsCons, p_dNx, p_dRet, p_dSet, p_dIfS, p_dAsg, p_dPar, p_dAug, p_dApp, p_dSetIx, p_nLst, p_nRep, p_nOf, p_dSetN, p_dParN1, p_dParNN, p_iSeq, p_iRng1, p_iRng2, p_oNo, p_oIx, p_dSl, p_asIx, p_opTup, p_opLst, p_lenT, p_lenL, p_lenS, p_tupT, p_tupL, p_add, p_sub, p_mul, p_lt, p_le, p_gt, p_ge, p_eqI, p_neI, p_isN, p_isnN, p_isB, p_isnB, p_isNone_n, p_isNone_i, p_isNone_t, p_isNone_l, p_appL, p_appT, b_mc, b_mn, b_ac, b_an, b_rs, b_rz, b_lc, b_ln, b_it, b_if, b_itt, b_iff, p_dSeq, p_eqB, p_neB, len_eT, len_eR, len_eV, isNone_eO, seq_eT, seq_eR, seq_eV, seq_eL, eO_some, eO_none, len_eL, p_dOrT, ↓p_eqN, ↓p_neN, ↓p_ltN, ↓p_leN, ↓p_gtN, ↓p_geN, Nat.reduceSub, h1, Bool.not_true, lc, Bool.not_false, f]
end Mi
namespace Mi
open DL
theorem gd_cl {n s : Nat} {d : D} (h1 : pl d = true) (h2 : dp d ≤ n) (h3 : sz d ≤ s) : Gd n s d := ⟨h1, h2, h3⟩
theorem gd_tup1 {n s : Nat} {d : D} (h : Gd n s d) : Gd (n + 1) (s + 1) (.tup [d]) := gd_cl (by show (pl d && true) = true; rw [h.pl]; rfl) (by show 1 + max (dp d) 0 ≤ _; have := h.dp; omega) (by show 1 + (sz d + 0) ≤ _; have := h.sz; omega)
theorem gd_lst1 {n s : Nat} {d : D} (h : Gd n s d) : Gd (n + 1) (s + 1) (.lst [d]) := gd_cl (by show (pl d && true) = true; rw [h.pl]; rfl) (by show 1 + max (dp d) 0 ≤ _; have := h.dp; omega) (by show 1 + (sz d + 0) ≤ _; have := h.sz; omega)
theorem gd_int (n s : Nat) (i : Int) : Gd n (s + 1) (.int i) := ⟨rfl, Nat.zero_le _, by show 1 ≤ _; omega⟩
theorem gd_bl (n s : Nat) (i : Bool) : Gd n (s + 1) (.bl i) := ⟨rfl, Nat.zero_le _, by show 1 ≤ _; omega⟩
/-- the values that other_value always has -/
def oth0 (d : D) : List D := [.non, .bl true, .bl false, .int 7, .int (-1), .int 1000000000000000000000000000000000000000, .str "0", .str "", .tup [], .lst [], .tup [d], .lst [d], .tup [.int 0], .tup [.int 1, .int 0], .int 1, .int 0]
theorem oth0_gd {n s : Nat} {d : D} (h : Gd n s d) : ∀ e ∈ oth0 d, Gd (n + 1) (s + 3) e := by
  intro e he
  simp only [oth0, List.mem_cons, List.not_mem_nil, or_false] at he
  rcases he with rfl | rfl | rfl | rfl | rfl | rfl | rfl | rfl | rfl | rfl | rfl | rfl | rfl | rfl | rfl | rfl
  · exact gd_cl rfl (Nat.zero_le _) (by show 1 ≤ _; omega)
  · exact gd_bl _ _ _
  · exact gd_bl _ _ _
  · exact gd_int _ _ _
  · exact gd_int _ _ _
  · exact gd_int _ _ _
  · exact gd_cl (by decide +kernel) (Nat.zero_le _) (by show 1 ≤ _; omega)
  · exact gd_cl (by decide +kernel) (Nat.zero_le _) (by show 1 ≤ _; omega)
  · exact gd_cl rfl (by show 1 + 0 ≤ _; omega) (by show 1 + 0 ≤ _; omega)
  · exact gd_cl rfl (by show 1 + 0 ≤ _; omega) (by show 1 + 0 ≤ _; omega)
  · exact (gd_tup1 h).mono (by omega) (by omega)
  · exact (gd_lst1 h).mono (by omega) (by omega)
  · exact gd_cl rfl (by show 1 ≤ n + 1; omega) (by show 2 ≤ _; omega)
  · exact gd_cl rfl (by show 1 ≤ n + 1; omega) (by show 3 ≤ _; omega)
  · exact gd_int _ _ _
  · exact gd_int _ _ _
theorem pick_m {L : List D} (hne : L ≠ []) (a : Nat) : ∃ e ∈ L, (bnd (opMod (.int (a : Int)) (.int (L.length : Int))) fun y => opIx (.lst L) y) = some e := by
  have hl : 0 < L.length := List.length_pos_iff.mpr hne
  have h1 := mod_n (a := a) hl
  have lt := Nat.mod_lt a hl
  refine ⟨L[a % L.length], List.getElem_mem lt, ?_⟩
  rw [h1]
  show (ixNat L.length _).bind _ = _
  rw [ixN lt]
  exact List.getElem?_eq_getElem lt
theorem p39 : opPow (.int 10) (.int 39) = some (.int 1000000000000000000000000000000000000000) := sameO_eq (by decide +kernel)
theorem other_value_m {n s : Nat} {d : D} (h : Gd n s d) {ds : List Nat} (hds : ds.length = 5) : ∃ e, m_law_other_value [d, eL ds] = some e ∧ Gd (n + 1) (s + 3) e := by
  have d1 : opIx (eL ds) (.int 1) = some (.int (ds.getD 1 0)) := ix_eL (k := 1) (by omega)
  have o0 := oth0_gd h
  have eo : opLst [.non, .bl true, .bl false, .int 7, .int (0 - 1), .int 1000000000000000000000000000000000000000, .str "0", .str "", .tup [], .lst [], .tup [d], .lst [d], .tup [.int 0], .tup [.int 1, .int 0], .int 1, .int 0] = some (.lst (oth0 d)) := rfl
  have t0 : opTup [] = some (.tup []) := rfl
  have l0 : opLst [] = some (.lst []) := rfl
  have t1 : ∀ x : D, opTup [x] = some (.tup [x]) := fun _ => rfl
  have l1 : ∀ x : D, opLst [x] = some (.lst [x]) := fun _ => rfl
  have t2 : ∀ x y : D, opTup [x, y] = some (.tup [x, y]) := fun _ _ => rfl
  have don : ∀ (L : List D), L ≠ [] → (∀ e ∈ L, Gd (n + 1) (s + 3) e) → ∃ e, Gd (n + 1) (s + 3) e ∧ ∀ x, (dRet (d2 opIx (dv 2) (d2 opMod (d2 opIx (dv 1) (dc (.int 1))) (dL opLen (dcons (dv 2) dnil))))) [x, some (eL ds), some (.lst L)] = some (.rt e) := by
    intro L hne hL
    obtain ⟨e, he, h2⟩ := pick_m hne (ds.getD 1 0)
    refine ⟨e, hL e he, fun x => ?_⟩
    simp only [p_dRet, p_d2, p_dv, p_dc, p_dL, p_dcons, p_dnil, lk_z, lk_s, bnd_some, d1, p_lenL]
    rw [h2]
    rfl
  have big : ∀ (A : List D), A.length ≤ 10 → opAdd (.lst A) (.lst (oth0 d)) = some (.lst (A ++ oth0 d)) := by
    intro A hA
    exact if_pos (by show A.length + 16 ≤ _; omega)
  have sizeNN : ∀ i : Int, True := fun _ => trivial
  have seqs : ∀ (xs ys : List D), (∀ e ∈ ys, e ∈ xs) → szs ys = szs xs → pls xs = true → 1 + dps xs ≤ n → 1 + szs xs ≤ s → Gd (n + 1) (s + 3) (.tup ys) ∧ Gd (n + 1) (s + 3) (.lst ys) := by
    intro xs ys hs hz hp hd hsz
    have p2 : pls ys = true := pls_iff.mpr fun e he => pls_iff.mp hp e (hs e he)
    have p3 : dps ys ≤ dps xs := dps_le.mpr fun e he => dps_le.mp (Nat.le_refl _) e (hs e he)
    exact ⟨gd_cl p2 (by show 1 + dps ys ≤ _; omega) (by show 1 + szs ys ≤ _; omega), gd_cl p2 (by show 1 + dps ys ≤ _; omega) (by show 1 + szs ys ≤ _; omega)⟩
  cases d with
  | int i =>
    have b1 : opBool [.int i] = some (.bl (i != 0)) := rfl
    have i1 : opIsi "int" (.int i) = some (.bl true) := rfl
    have i2 : opIsi "bool" (.int i) = some (.bl false) := rfl
    have i3 : opIsiLT (.int i) = some (.bl false) := rfl
    have l6 : ∀ a b c d e f : D, opLst [a, b, c, d, e, f] = some (.lst [a, b, c, d, e, f]) := fun _ _ _ _ _ _ => rfl
    obtain ⟨e, he, hf⟩ := don ([.int (i + 1), .int (i - 1), .bl (i != 0), .int (i + 1), .int (i - 1), .bl (i != 0)] ++ oth0 (.int i)) (by simp) (by
      intro e he
      rcases List.mem_append.mp he with q | q
      · simp only [List.mem_cons, List.not_mem_nil, or_false] at q
        rcases q with rfl | rfl | rfl | rfl | rfl | rfl <;> first | exact gd_int _ _ _ | exact gd_bl _ _ _
      · exact o0 e q)
    refine ⟨e, run_rt rfl ?_, he⟩
    have bg := big [.int (i + 1), .int (i - 1), .bl (i != 0), .int (i + 1), .int (i - 1), .bl (i != 0)] (by simp)
    rw [← hf (some (.int i))]
    simp only [p_dSeq, p_dSet, p_dIfS, p_bAnd, p_bNot, p_bV, p_d1, p_d2, p_dL, p_dcons, p_dnil, p_dc, p_dv, bnd_some, p_sub, p_add, p39, t0, l0, t1, l1, t2, eo, b_mc, b_mn, b_ac, b_an, b_rs, b_rz, Nat.reduceSub, lk_z, lk_s, st_z, st_s, i1, i2, i3, b1, p_asB, Bool.not_false, if_true, if_false, Bool.false_eq_true, l6, bg, p_dNx]
  | bl b =>
    have i1 : opIsi "int" (.bl b) = some (.bl true) := rfl
    have i2 : opIsi "bool" (.bl b) = some (.bl true) := rfl
    have i3 : opIsiLT (.bl b) = some (.bl false) := rfl
    obtain ⟨e, he, hf⟩ := don (oth0 (.bl b)) (by simp [oth0]) o0
    refine ⟨e, run_rt rfl ?_, he⟩
    rw [← hf (some (.bl b))]
    simp only [p_dSeq, p_dSet, p_dIfS, p_bAnd, p_bNot, p_bV, p_d1, p_d2, p_dL, p_dcons, p_dnil, p_dc, p_dv, bnd_some, p_sub, p_add, p39, t0, l0, t1, l1, t2, eo, b_mc, b_mn, b_ac, b_an, b_rs, b_rz, Nat.reduceSub, lk_z, lk_s, st_z, st_s, i1, i2, i3, p_asB, Bool.not_true, if_true, if_false, Bool.false_eq_true, p_dNx]
  | non =>
    have i1 : opIsi "int" .non = some (.bl false) := rfl
    have i3 : opIsiLT .non = some (.bl false) := rfl
    obtain ⟨e, he, hf⟩ := don (oth0 .non) (by simp [oth0]) o0
    refine ⟨e, run_rt rfl ?_, he⟩
    rw [← hf (some .non)]
    simp only [p_dSeq, p_dSet, p_dIfS, p_bAnd, p_bNot, p_bV, p_d1, p_d2, p_dL, p_dcons, p_dnil, p_dc, p_dv, bnd_some, p_sub, p_add, p39, t0, l0, t1, l1, t2, eo, b_mc, b_mn, b_ac, b_an, b_rs, b_rz, Nat.reduceSub, lk_z, lk_s, st_z, st_s, i1, i3, p_asB, if_true, if_false, Bool.false_eq_true, p_dNx]
  | str x =>
    have i1 : opIsi "int" (.str x) = some (.bl false) := rfl
    have i3 : opIsiLT (.str x) = some (.bl false) := rfl
    obtain ⟨e, he, hf⟩ := don (oth0 (.str x)) (by simp [oth0]) o0
    refine ⟨e, run_rt rfl ?_, he⟩
    rw [← hf (some (.str x))]
    simp only [p_dSeq, p_dSet, p_dIfS, p_bAnd, p_bNot, p_bV, p_d1, p_d2, p_dL, p_dcons, p_dnil, p_dc, p_dv, bnd_some, p_sub, p_add, p39, t0, l0, t1, l1, t2, eo, b_mc, b_mn, b_ac, b_an, b_rs, b_rz, Nat.reduceSub, lk_z, lk_s, st_z, st_s, i1, i3, p_asB, if_true, if_false, Bool.false_eq_true, p_dNx]
  | tup xs =>
    have i1 : opIsi "int" (.tup xs) = some (.bl false) := rfl
    have i3 : opIsiLT (.tup xs) = some (.bl true) := rfl
    have z1 : opList [.tup xs] = some (.lst xs) := rfl
    have z2 : opTuple [.tup xs] = some (.tup xs) := rfl
    have z3 : opRev (.tup xs) = some (.tup xs.reverse) := rfl
    have z4 : opTuple [.tup xs.reverse] = some (.tup xs.reverse) := rfl
    have l4 : ∀ a b c d : D, opLst [a, b, c, d] = some (.lst [a, b, c, d]) := fun _ _ _ _ => rfl
    have g1 := seqs xs xs (fun _ h => h) rfl h.pl h.dp h.sz
    have g2 := seqs xs xs.reverse (fun _ h => List.mem_reverse.mp h) (szs_rev xs) h.pl h.dp h.sz
    obtain ⟨e, he, hf⟩ := don ([.lst xs, .tup xs, .tup xs.reverse, .lst xs] ++ oth0 (.tup xs)) (by simp) (by
      intro e he
      rcases List.mem_append.mp he with q | q
      · simp only [List.mem_cons, List.not_mem_nil, or_false] at q
        rcases q with rfl | rfl | rfl | rfl
        · exact g1.2
        · exact g1.1
        · exact g2.1
        · exact g1.2
      · exact o0 e q)
    refine ⟨e, run_rt rfl ?_, he⟩
    have bg := big [.lst xs, .tup xs, .tup xs.reverse, .lst xs] (by simp)
    rw [← hf (some (.tup xs))]
    simp only [p_dSeq, p_dSet, p_dIfS, p_bAnd, p_bNot, p_bV, p_d1, p_d2, p_dL, p_dcons, p_dnil, p_dc, p_dv, bnd_some, p_sub, p_add, p39, t0, l0, t1, l1, t2, eo, b_mc, b_mn, b_ac, b_an, b_rs, b_rz, Nat.reduceSub, lk_z, lk_s, st_z, st_s, i1, i3, z1, z2, z3, z4, l4, bg, p_asB, if_true, if_false, Bool.false_eq_true, p_dNx]
  | lst xs =>
    have i1 : opIsi "int" (.lst xs) = some (.bl false) := rfl
    have i3 : opIsiLT (.lst xs) = some (.bl true) := rfl
    have z1 : opList [.lst xs] = some (.lst xs) := rfl
    have z2 : opTuple [.lst xs] = some (.tup xs) := rfl
    have z3 : opRev (.lst xs) = some (.lst xs.reverse) := rfl
    have z4 : opTuple [.lst xs.reverse] = some (.tup xs.reverse) := rfl
    have l4 : ∀ a b c d : D, opLst [a, b, c, d] = some (.lst [a, b, c, d]) := fun _ _ _ _ => rfl
    have g1 := seqs xs xs (fun _ h => h) rfl h.pl h.dp h.sz
    have g2 := seqs xs xs.reverse (fun _ h => List.mem_reverse.mp h) (szs_rev xs) h.pl h.dp h.sz
    obtain ⟨e, he, hf⟩ := don ([.lst xs, .tup xs, .tup xs.reverse, .lst xs] ++ oth0 (.lst xs)) (by simp) (by
      intro e he
      rcases List.mem_append.mp he with q | q
      · simp only [List.mem_cons, List.not_mem_nil, or_false] at q
        rcases q with rfl | rfl | rfl | rfl
        · exact g1.2
        · exact g1.1
        · exact g2.1
        · exact g1.2
      · exact o0 e q)
    refine ⟨e, run_rt rfl ?_, he⟩
    have bg := big [.lst xs, .tup xs, .tup xs.reverse, .lst xs] (by simp)
    rw [← hf (some (.lst xs))]
    simp only [p_dSeq, p_dSet, p_dIfS, p_bAnd, p_bNot, p_bV, p_d1, p_d2, p_dL, p_dcons, p_dnil, p_dc, p_dv, bnd_some, p_sub, p_add, p39, t0, l0, t1, l1, t2, eo, b_mc, b_mn, b_ac, b_an, b_rs, b_rz, Nat.reduceSub, lk_z, lk_s, st_z, st_s, i1, i3, z1, z2, z3, z4, l4, bg, p_asB, if_true, if_false, Bool.false_eq_true, p_dNx]
  | bell _ => have := h.pl; cases this
  | scr _ => have := h.pl; cases this
  | ext _ => have := h.pl; cases this
end Mi
namespace Mi
open DL
/-- a place within a value -/
def isPath : D → List Nat → Prop
  | _, [] => True
  | d, i :: p => ∃ ds x, asSeq d = some ds ∧ ds[i]? = some x ∧ isPath x p
theorem path_len : ∀ (p : List Nat) (d : D), isPath d p → p.length ≤ dp d
  | [], _, _ => Nat.zero_le _
  | i :: p, d, ⟨ds, x, h1, h2, h3⟩ => by
    have ih := path_len p x h3
    have h4 : dp x ≤ dps ds := dps_le.mp (Nat.le_refl _) x (List.mem_of_getElem? h2)
    have h5 : dp d = 1 + dps ds := by
      cases d <;> first | (cases h1; rfl) | cases h1
    rw [List.length_cons]
    omega
theorem enum_list (xs : List D) : enumD xs = (List.range xs.length).map fun i => .tup [.int (i : Nat), xs.getD i .non] := by
  have : xs = (List.range xs.length).map fun i => xs.getD i .non := by
    apply List.ext_getElem
    · simp
    · intro i h1 h2
      simp [List.getD_eq_getElem?_getD, List.getElem?_eq_getElem h1]
  conv => lhs; rw [this]
  rw [enum_range]
theorem getD_get {xs : List D} {i : Nat} (h : i < xs.length) : xs[i]? = some (xs.getD i .non) := by
  rw [List.getD_eq_getElem?_getD, List.getElem?_eq_getElem h]
  rfl
def PsOk (d : D) (n : Nat) (ps : List (List Nat)) : Prop := ps ≠ [] ∧ ps.length ≤ n ∧ ∀ p ∈ ps, isPath d p
theorem paths_m : ∀ (f : Nat) (d : D), pl d = true → dp d < f → sz d ≤ 1000000 → ∃ ps : List (List Nat), m_law_paths_n f [d] = some (.lst (ps.map eI)) ∧ PsOk d (sz d) ps
  | 0, _, _, h, _ => by omega
  | f + 1, d, hp, hd, hs => by
    have e0 : opLst [.tup []] = some (.lst [.tup []]) := rfl
    have t0 : opTup [] = some (.tup []) := rfl
    have flat : opIsiLT d = some (.bl false) → ∃ ps : List (List Nat), m_law_paths_n (f + 1) [d] = some (.lst (ps.map eI)) ∧ PsOk d (sz d) ps := by
      intro h
      refine ⟨[[]], (show m_law_paths_f (m_law_paths_n f) [d] = _ from run_rt rfl ?_), by simp, sz_pos d, fun p hp => ?_⟩
      · simp only [bnd_some, bnd_none, p_dc, p_dv, lk_z, lk_s, st_z, st_s, un_z, un_s, wipe_n, wipe_c, p_d2, p_d1, p_dnil, p_dcons, p_dL, p_asB, p_asI, p_asL, p_asSeqL, p_asSeqT, p_bV, p_dB, p_bAnd, p_bOr, p_bNot, p_dIf, p_dAnd, p_dOr, p_dNot, p_dCh, p_bYes, p_gN, p_gT, p_gsNil, p_gsCons, p_dNx, p_dRet, p_dSet, p_dIfS, p_dAsg, p_dPar, p_dAug, p_dApp, p_dSetIx, p_nLst, p_nRep, p_nOf, p_dSetN, p_dParN1, p_dParNN, p_iSeq, p_iRng1, p_iRng2, p_oNo, p_oIx, p_dSl, p_asIx, p_opTup, p_opLst, p_lenT, p_lenL, p_lenS, p_tupT, p_tupL, p_add, p_sub, p_mul, p_lt, p_le, p_gt, p_ge, p_eqI, p_neI, p_isN, p_isnN, p_isB, p_isnB, p_isNone_n, p_isNone_i, p_isNone_t, p_isNone_l, p_appL, p_appT, b_mc, b_mn, b_ac, b_an, b_rs, b_rz, b_lc, b_ln, b_it, b_if, b_itt, b_iff, p_dSeq, p_eqB, p_neB, len_eT, len_eR, len_eV, isNone_eO, seq_eT, seq_eR, seq_eV, seq_eL, eO_some, eO_none, len_eL, p_dOrT, ↓p_eqN, ↓p_neN, ↓p_ltN, ↓p_leN, ↓p_gtN, ↓p_geN, Nat.zero_le, Nat.reduceLeDiff, Nat.reduceAdd, if_true, Nat.reduceSub, t0, e0, h]
        rfl
      · rw [List.mem_singleton.mp hp]
        trivial
    have deep : ∀ xs : List D, asSeq d = some xs → opIsiLT d = some (.bl true) → pls xs = true → dps xs < f → 1 + szs xs = sz d → ∃ ps : List (List Nat), m_law_paths_n (f + 1) [d] = some (.lst (ps.map eI)) ∧ PsOk d (sz d) ps := by
      intro xs hsq hlt hpx hdx hsx
      obtain ⟨ρ', h1, ps, x2, x3, hρ, hne, hl, hv⟩ := for_range (g := gT (gsCons (gN 2) (gsCons (gN 3) gsNil))) (b := m_law_paths_b1 (m_law_paths_n f)) (fun i => .tup [.int (i : Nat), xs.getD i .non])
        (fun k ρ => ∃ ps x2 x3, ρ = [some d, some (.lst (ps.map eI)), x2, x3, none] ∧ PsOk d (1 + szs (xs.take k)) ps) xs.length (by
          rintro k hk ρ ⟨ps, x2, x3, rfl, hne, hl, hv⟩
          have hg := getD_get hk
          generalize xs.getD k .non = x at hg
          have hm := List.mem_of_getElem? hg
          obtain ⟨qs, hq, _, hql, hqv⟩ := paths_m f x (pls_iff.mp hpx x hm) (by
            have := dps_le.mp (Nat.le_refl _) x hm
            omega) (by
            have := szs_get hg
            omega)
          have tk : szs (xs.take (k + 1)) = szs (xs.take k) + sz x := by
            rw [List.take_succ, hg, szs_app]
            rfl
          have tk2 : szs (xs.take (k + 1)) ≤ szs xs := by
            have := szs_take xs (k + 1)
            omega
          refine ⟨_, rfl, [some d, some (.lst ((ps ++ qs.map fun p => k :: p).map eI)), some (.int k), some x, none], ?_, _, _, _, rfl, ?_, ?_, ?_⟩
          · have c1 : m_law_paths_c1 (m_law_paths_n f) [some d, some (.lst (ps.map eI)), some (.int k), some x, none] = some (.lst (qs.map fun p => eI (k :: p))) := by
              unfold m_law_paths_c1
              refine comp_all eI (fun p => eI (k :: p)) qs (by simp only [bnd_some, bnd_none, p_dc, p_dv, lk_z, lk_s, st_z, st_s, un_z, un_s, wipe_n, wipe_c, p_d2, p_d1, p_dnil, p_dcons, p_dL, p_asB, p_asI, p_asL, p_asSeqL, p_asSeqT, p_bV, p_dB, p_bAnd, p_bOr, p_bNot, p_dIf, p_dAnd, p_dOr, p_dNot, p_dCh, p_bYes, p_gN, p_gT, p_gsNil, p_gsCons, p_dNx, p_dRet, p_dSet, p_dIfS, p_dAsg, p_dPar, p_dAug, p_dApp, p_dSetIx, p_nLst, p_nRep, p_nOf, p_dSetN, p_dParN1, p_dParNN, p_iSeq, p_iRng1, p_iRng2, p_oNo, p_oIx, p_dSl, p_asIx, p_opTup, p_opLst, p_lenT, p_lenL, p_lenS, p_tupT, p_tupL, p_add, p_sub, p_mul, p_lt, p_le, p_gt, p_ge, p_eqI, p_neI, p_isN, p_isnN, p_isB, p_isnB, p_isNone_n, p_isNone_i, p_isNone_t, p_isNone_l, p_appL, p_appT, b_mc, b_mn, b_ac, b_an, b_rs, b_rz, b_lc, b_ln, b_it, b_if, b_itt, b_iff, p_dSeq, p_eqB, p_neB, len_eT, len_eR, len_eV, isNone_eO, seq_eT, seq_eR, seq_eV, seq_eL, eO_some, eO_none, len_eL, p_dOrT, ↓p_eqN, ↓p_neN, ↓p_ltN, ↓p_leN, ↓p_gtN, ↓p_geN, Nat.zero_le, Nat.reduceLeDiff, Nat.reduceAdd, if_true, hq]) (by omega) fun p hp => ⟨_, rfl, ?_⟩
              have t1 : opTup [.int (k : Int)] = some (.tup [.int (k : Int)]) := rfl
              have pth := path_len p x (hqv p hp)
              have dx := dps_le.mp (Nat.le_refl _) x hm
              simp only [bnd_some, bnd_none, p_dc, p_dv, lk_z, lk_s, st_z, st_s, un_z, un_s, wipe_n, wipe_c, p_d2, p_d1, p_dnil, p_dcons, p_dL, p_asB, p_asI, p_asL, p_asSeqL, p_asSeqT, p_bV, p_dB, p_bAnd, p_bOr, p_bNot, p_dIf, p_dAnd, p_dOr, p_dNot, p_dCh, p_bYes, p_gN, p_gT, p_gsNil, p_gsCons, p_dNx, p_dRet, p_dSet, p_dIfS, p_dAsg, p_dPar, p_dAug, p_dApp, p_dSetIx, p_nLst, p_nRep, p_nOf, p_dSetN, p_dParN1, p_dParNN, p_iSeq, p_iRng1, p_iRng2, p_oNo, p_oIx, p_dSl, p_asIx, p_opTup, p_opLst, p_lenT, p_lenL, p_lenS, p_tupT, p_tupL, p_add, p_sub, p_mul, p_lt, p_le, p_gt, p_ge, p_eqI, p_neI, p_isN, p_isnN, p_isB, p_isnB, p_isNone_n, p_isNone_i, p_isNone_t, p_isNone_l, p_appL, p_appT, b_mc, b_mn, b_ac, b_an, b_rs, b_rz, b_lc, b_ln, b_it, b_if, b_itt, b_iff, p_dSeq, p_eqB, p_neB, len_eT, len_eR, len_eV, isNone_eO, seq_eT, seq_eR, seq_eV, seq_eL, eO_some, eO_none, len_eL, p_dOrT, ↓p_eqN, ↓p_neN, ↓p_ltN, ↓p_leN, ↓p_gtN, ↓p_geN, Nat.zero_le, Nat.reduceLeDiff, Nat.reduceAdd, if_true, t1]
              show opAdd (.tup [.int (k : Int)]) (.tup (p.map fun n => .int (n : Nat))) = _
              have hsz : p.length ≤ 1000000 := by
                have : dp x ≤ sz x := (by
                  have gen : ∀ m : Nat, (∀ y : D, sz y ≤ m → dp y ≤ sz y) := by
                    intro m
                    induction m with
                    | zero => intro y hy; have := sz_pos y; omega
                    | succ m ih =>
                      intro y hy
                      have inner : ∀ ds : List D, szs ds ≤ m → dps ds ≤ szs ds := by
                        intro ds hds
                        refine dps_le.mpr fun z hz => ?_
                        obtain ⟨i, hi⟩ := List.mem_iff_getElem?.mp hz
                        have h1 := szs_get hi
                        have := ih z (by omega)
                        omega
                      cases y with
                      | tup ds =>
                        have h1 : 1 + szs ds ≤ m + 1 := hy
                        have := inner ds (by omega)
                        show 1 + dps ds ≤ 1 + szs ds
                        omega
                      | lst ds =>
                        have h1 : 1 + szs ds ≤ m + 1 := hy
                        have := inner ds (by omega)
                        show 1 + dps ds ≤ 1 + szs ds
                        omega
                      | _ => exact Nat.zero_le _
                  exact gen (sz x) x (Nat.le_refl _))
                have := szs_get hg
                omega
              rw [p_appT, if_pos (by rw [List.length_map]; simp; omega)]
              rfl
            have e1 : (ps ++ qs.map fun p => k :: p).map eI = ps.map eI ++ qs.map fun p => eI (k :: p) := by
              rw [List.map_append, List.map_map]
              rfl
            rw [e1]
            have hx : lk [some d, some (.lst (ps.map eI)), some (.int (k : Int)), some x, none] 1 = some (.lst (ps.map eI)) := rfl
            have ad : opAdd (.lst (ps.map eI)) (.lst (qs.map fun p => eI (k :: p))) = some (.lst (ps.map eI ++ qs.map fun p => eI (k :: p))) := if_pos (by
              rw [List.length_map, List.length_map]
              have := szs_get hg
              omega)
            simp only [m_law_paths_b1, p_dSet, p_d2, p_dv, hx, bnd_some, c1, ad, st_s, st_z]
          · simp [hne]
          · rw [List.length_append, List.length_map, tk]
            omega
          · intro p hp
            rcases List.mem_append.mp hp with q | q
            · exact hv p q
            · obtain ⟨p', hp', rfl⟩ := List.mem_map.mp q
              exact ⟨xs, x, hsq, hg, hqv p' hp'⟩) (ρ := [some d, some (.lst [.tup []]), none, none, none]) ⟨[[]], none, none, rfl, by simp, by simp, fun p hp => by rw [List.mem_singleton.mp hp]; trivial⟩
      refine ⟨ps, (show m_law_paths_f (m_law_paths_n f) [d] = _ from run_rt rfl ?_), hne, ?_, hv⟩
      · have it : iEn (dcons (dv 0) dnil) [some d, some (.lst [.tup []]), none, none, none] = some (enumD xs) := by
          cases d <;> first | (cases hsq; rfl) | cases hsq
        rw [enum_list] at it
        have f := (for_eq (g := gT (gsCons (gN 2) (gsCons (gN 3) gsNil))) (b := m_law_paths_b1 (m_law_paths_n f)) it).trans h1
        rw [hρ] at f
        simp only [bnd_some, bnd_none, p_dc, p_dv, lk_z, lk_s, st_z, st_s, un_z, un_s, wipe_n, wipe_c, p_d2, p_d1, p_dnil, p_dcons, p_dL, p_asB, p_asI, p_asL, p_asSeqL, p_asSeqT, p_bV, p_dB, p_bAnd, p_bOr, p_bNot, p_dIf, p_dAnd, p_dOr, p_dNot, p_dCh, p_bYes, p_gN, p_gT, p_gsNil, p_gsCons, p_dNx, p_dRet, p_dSet, p_dIfS, p_dAsg, p_dPar, p_dAug, p_dApp, p_dSetIx, p_nLst, p_nRep, p_nOf, p_dSetN, p_dParN1, p_dParNN, p_iSeq, p_iRng1, p_iRng2, p_oNo, p_oIx, p_dSl, p_asIx, p_opTup, p_opLst, p_lenT, p_lenL, p_lenS, p_tupT, p_tupL, p_add, p_sub, p_mul, p_lt, p_le, p_gt, p_ge, p_eqI, p_neI, p_isN, p_isnN, p_isB, p_isnB, p_isNone_n, p_isNone_i, p_isNone_t, p_isNone_l, p_appL, p_appT, b_mc, b_mn, b_ac, b_an, b_rs, b_rz, b_lc, b_ln, b_it, b_if, b_itt, b_iff, p_dSeq, p_eqB, p_neB, len_eT, len_eR, len_eV, isNone_eO, seq_eT, seq_eR, seq_eV, seq_eL, eO_some, eO_none, len_eL, p_dOrT, ↓p_eqN, ↓p_neN, ↓p_ltN, ↓p_leN, ↓p_gtN, ↓p_geN, Nat.zero_le, Nat.reduceLeDiff, Nat.reduceAdd, if_true, Nat.reduceSub, t0, e0, hlt, f]
      · rw [List.take_length] at hl
        omega
    cases d with
    | tup xs => exact deep xs rfl rfl hp (by have : 1 + dps xs < f + 1 := hd; omega) rfl
    | lst xs => exact deep xs rfl rfl hp (by have : 1 + dps xs < f + 1 := hd; omega) rfl
    | bell _ => cases hp
    | scr _ => cases hp
    | ext _ => cases hp
    | _ => exact flat rfl
end Mi
namespace Mi
open DL
theorem ixL_get {xs : List D} {i : Nat} {x : D} (h : xs[i]? = some x) : opIx (.lst xs) (.int (i : Int)) = some x := by
  have lt : i < xs.length := by
    obtain ⟨q, _⟩ := List.getElem?_eq_some_iff.mp h
    exact q
  show (ixNat xs.length _).bind _ = _
  rw [ixN lt]
  exact h
theorem appL_ok {a b : List D} (h : a.length + b.length ≤ 16777216) : opAdd (.lst a) (.lst b) = some (.lst (a ++ b)) := if_pos h
theorem moved_item_m {xs : List D} {i : Nat} {x : D} {ds : List Nat} (hx : xs[i]? = some x) (hds : ds.length = 5) (hsz : szs xs ≤ 1000000) :
    ∃ ys, m_law_moved_item [.lst xs, .int (i : Int), eL ds] = some (.lst ys) ∧ (∀ y ∈ ys, y ∈ xs) ∧ szs ys ≤ 2 * szs xs := by
  have lt : i < xs.length := by
    obtain ⟨q, _⟩ := List.getElem?_eq_some_iff.mp hx
    exact q
  have hm := List.mem_of_getElem? hx
  have hl := szs_len xs
  have sx := szs_get hx
  have d0 : opIx (eL ds) (.int 0) = some (.int (ds.getD 0 0)) := ix_eL (k := 0) (by omega)
  have d2 : opIx (eL ds) (.int 2) = some (.int (ds.getD 2 0)) := ix_eL (k := 2) (by omega)
  have m3 : opMod (.int (ds.getD 0 0 : Int)) (.int 3) = some (.int ((ds.getD 0 0 % 3 : Nat) : Int)) := mod_n (b := 3) (by decide)
  have ml := mod_n (a := ds.getD 2 0) (b := xs.length) (by omega)
  generalize ds.getD 2 0 % xs.length = t at ml
  have ix := ixL_get hx
  have k1 := sl_takeL (xs := xs) (k := i)
  have k2 := sl_dropL (xs := xs) (k := i + 1)
  have k3 := sl_takeL (xs := xs) (k := t)
  have k4 := sl_dropL (xs := xs) (k := t)
  have hi1 : (i : Int) + 1 = ((i + 1 : Nat) : Int) := by omega
  have l1 : opLst [x] = some (.lst [x]) := rfl
  have cutm : ∀ y ∈ xs.take i ++ xs.drop (i + 1), y ∈ xs := by
    intro y hy
    rcases List.mem_append.mp hy with q | q
    · exact List.mem_of_mem_take q
    · exact List.mem_of_mem_drop q
  have cuts : szs (xs.take i ++ xs.drop (i + 1)) ≤ szs xs := by
    rw [szs_app]
    have h1 := szs_take xs i
    have h2 := szs_take (xs.drop i) 1
    rw [List.drop_drop] at h2
    omega
  have a1 : opAdd (.lst (xs.take i)) (.lst (xs.drop (i + 1))) = some (.lst (xs.take i ++ xs.drop (i + 1))) := appL_ok (by rw [List.length_take, List.length_drop]; omega)
  by_cases c0 : ((ds.getD 0 0 % 3 : Nat) : Int) = 0
  · refine ⟨xs.take i ++ xs.drop (i + 1), run_rt rfl ?_, cutm, by omega⟩
    simp only [bnd_some, bnd_none, p_dc, p_dv, lk_z, lk_s, st_z, st_s, un_z, un_s, wipe_n, wipe_c, p_d2, p_d1, p_dnil, p_dcons, p_dL, p_asB, p_asI, p_asL, p_asSeqL, p_asSeqT, p_bV, p_dB, p_bAnd, p_bOr, p_bNot, p_dIf, p_dAnd, p_dOr, p_dNot, p_dCh, p_bYes, p_gN, p_gT, p_gsNil, p_gsCons, p_dNx, p_dRet, p_dSet, p_dIfS, p_dAsg, p_dPar, p_dAug, p_dApp, p_dSetIx, p_nLst, p_nRep, p_nOf, p_dSetN, p_dParN1, p_dParNN, p_iSeq, p_iRng1, p_iRng2, p_oNo, p_oIx, p_dSl, p_asIx, p_opTup, p_opLst, p_lenT, p_lenL, p_lenS, p_tupT, p_tupL, p_add, p_sub, p_mul, p_lt, p_le, p_gt, p_ge, p_eqI, p_neI, p_isN, p_isnN, p_isB, p_isnB, p_isNone_n, p_isNone_i, p_isNone_t, p_isNone_l, p_appL, p_appT, b_mc, b_mn, b_ac, b_an, b_rs, b_rz, b_lc, b_ln, b_it, b_if, b_itt, b_iff, p_dSeq, p_eqB, p_neB, len_eT, len_eR, len_eV, isNone_eO, seq_eT, seq_eR, seq_eV, seq_eL, eO_some, eO_none, len_eL, p_dOrT, ↓p_eqN, ↓p_neN, ↓p_ltN, ↓p_leN, ↓p_gtN, ↓p_geN, Nat.zero_le, Nat.reduceLeDiff, Nat.reduceAdd, if_true, Nat.reduceSub, d0, d2, m3, ml, decide_eq_true c0, hi1, k1, k2, a1]
  · by_cases c1 : ((ds.getD 0 0 % 3 : Nat) : Int) = 1
    · have a2 : opAdd (.lst (xs.take t)) (.lst [x]) = some (.lst (xs.take t ++ [x])) := appL_ok (by rw [List.length_take]; simp; omega)
      have a3 : opAdd (.lst (xs.take t ++ [x])) (.lst (xs.drop t)) = some (.lst (xs.take t ++ [x] ++ xs.drop t)) := appL_ok (by rw [List.length_append, List.length_take, List.length_drop]; simp; omega)
      refine ⟨xs.take t ++ [x] ++ xs.drop t, run_rt rfl ?_, ?_, ?_⟩
      · simp only [bnd_some, bnd_none, p_dc, p_dv, lk_z, lk_s, st_z, st_s, un_z, un_s, wipe_n, wipe_c, p_d2, p_d1, p_dnil, p_dcons, p_dL, p_asB, p_asI, p_asL, p_asSeqL, p_asSeqT, p_bV, p_dB, p_bAnd, p_bOr, p_bNot, p_dIf, p_dAnd, p_dOr, p_dNot, p_dCh, p_bYes, p_gN, p_gT, p_gsNil, p_gsCons, p_dNx, p_dRet, p_dSet, p_dIfS, p_dAsg, p_dPar, p_dAug, p_dApp, p_dSetIx, p_nLst, p_nRep, p_nOf, p_dSetN, p_dParN1, p_dParNN, p_iSeq, p_iRng1, p_iRng2, p_oNo, p_oIx, p_dSl, p_asIx, p_opTup, p_opLst, p_lenT, p_lenL, p_lenS, p_tupT, p_tupL, p_add, p_sub, p_mul, p_lt, p_le, p_gt, p_ge, p_eqI, p_neI, p_isN, p_isnN, p_isB, p_isnB, p_isNone_n, p_isNone_i, p_isNone_t, p_isNone_l, p_appL, p_appT, b_mc, b_mn, b_ac, b_an, b_rs, b_rz, b_lc, b_ln, b_it, b_if, b_itt, b_iff, p_dSeq, p_eqB, p_neB, len_eT, len_eR, len_eV, isNone_eO, seq_eT, seq_eR, seq_eV, seq_eL, eO_some, eO_none, len_eL, p_dOrT, ↓p_eqN, ↓p_neN, ↓p_ltN, ↓p_leN, ↓p_gtN, ↓p_geN, Nat.zero_le, Nat.reduceLeDiff, Nat.reduceAdd, if_true, Nat.reduceSub, d0, d2, m3, ml, decide_eq_false c0, decide_eq_true c1, ix, l1, k3, k4, a2, a3]
      · intro y hy
        simp only [List.mem_append, List.mem_singleton] at hy
        rcases hy with (q | q) | q
        · exact List.mem_of_mem_take q
        · rw [q]; exact hm
        · exact List.mem_of_mem_drop q
      · rw [szs_app, szs_app]
        have h1 := szs_take xs t
        show szs _ + (sz x + 0) + szs _ ≤ _
        omega
    · have k5 := sl_takeL (xs := xs.take i ++ xs.drop (i + 1)) (k := t)
      have k6 := sl_dropL (xs := xs.take i ++ xs.drop (i + 1)) (k := t)
      have ol : (xs.take i ++ xs.drop (i + 1)).length ≤ xs.length := by rw [List.length_append, List.length_take, List.length_drop]; omega
      generalize xs.take i ++ xs.drop (i + 1) = os at *
      have a2 : opAdd (.lst (os.take t)) (.lst [x]) = some (.lst (os.take t ++ [x])) := appL_ok (by rw [List.length_take]; simp; omega)
      have a3 : opAdd (.lst (os.take t ++ [x])) (.lst (os.drop t)) = some (.lst (os.take t ++ [x] ++ os.drop t)) := appL_ok (by rw [List.length_append, List.length_take, List.length_drop]; simp; omega)
      refine ⟨os.take t ++ [x] ++ os.drop t, run_rt rfl ?_, ?_, ?_⟩
      · simp only [bnd_some, bnd_none, p_dc, p_dv, lk_z, lk_s, st_z, st_s, un_z, un_s, wipe_n, wipe_c, p_d2, p_d1, p_dnil, p_dcons, p_dL, p_asB, p_asI, p_asL, p_asSeqL, p_asSeqT, p_bV, p_dB, p_bAnd, p_bOr, p_bNot, p_dIf, p_dAnd, p_dOr, p_dNot, p_dCh, p_bYes, p_gN, p_gT, p_gsNil, p_gsCons, p_dNx, p_dRet, p_dSet, p_dIfS, p_dAsg, p_dPar, p_dAug, p_dApp, p_dSetIx, p_nLst, p_nRep, p_nOf, p_dSetN, p_dParN1, p_dParNN, p_iSeq, p_iRng1, p_iRng2, p_oNo, p_oIx, p_dSl, p_asIx, p_opTup, p_opLst, p_lenT, p_lenL, p_lenS, p_tupT, p_tupL, p_add, p_sub, p_mul, p_lt, p_le, p_gt, p_ge, p_eqI, p_neI, p_isN, p_isnN, p_isB, p_isnB, p_isNone_n, p_isNone_i, p_isNone_t, p_isNone_l, p_appL, p_appT, b_mc, b_mn, b_ac, b_an, b_rs, b_rz, b_lc, b_ln, b_it, b_if, b_itt, b_iff, p_dSeq, p_eqB, p_neB, len_eT, len_eR, len_eV, isNone_eO, seq_eT, seq_eR, seq_eV, seq_eL, eO_some, eO_none, len_eL, p_dOrT, ↓p_eqN, ↓p_neN, ↓p_ltN, ↓p_leN, ↓p_gtN, ↓p_geN, Nat.zero_le, Nat.reduceLeDiff, Nat.reduceAdd, if_true, Nat.reduceSub, d0, d2, m3, ml, decide_eq_false c0, decide_eq_false c1, hi1, ix, l1, k1, k2, a1, k5, k6, a2, a3]
      · intro y hy
        simp only [List.mem_append, List.mem_singleton] at hy
        rcases hy with (q | q) | q
        · exact cutm y (List.mem_of_mem_take q)
        · rw [q]; exact hm
        · exact cutm y (List.mem_of_mem_drop q)
      · rw [szs_app, szs_app]
        have h1 := szs_take os t
        show szs _ + (sz x + 0) + szs _ ≤ _
        omega
theorem eq_path (p : List Nat) (hp : p.length ≤ 100) : opEq (eI p) (.tup []) = some (.bl p.isEmpty) := by
  unfold opEq
  rw [if_pos ⟨okDs_map _ _ fun _ _ => by simp [okD], rfl⟩]
  congr 2
  cases p <;> rfl
theorem change_at_m {ds : List Nat} (hds : ds.length = 5) : ∀ (f : Nat) (d : D) (p : List Nat) (n s : Nat), p.length < f → f ≤ 100 → isPath d p → Gd n s d → s ≤ 400000 → ∃ e, m_law_change_at_n f [d, eI p, eL ds] = some e ∧ Gd (n + 1) (2 * s + 3) e
  | 0, _, _, _, _, h, _, _, _, _ => by omega
  | f + 1, d, [], n, s, _, _, _, h, hs => by
    obtain ⟨e, he, hg⟩ := other_value_m h hds
    refine ⟨e, (show m_law_change_at_f (m_law_change_at_n f) [d, eI [], eL ds] = _ from run_rt rfl ?_), hg.mono (Nat.le_refl _) (by omega)⟩
    have q := eq_path [] (by decide)
    have t0 : opTup [] = some (.tup []) := rfl
    simp only [bnd_some, bnd_none, p_dc, p_dv, lk_z, lk_s, st_z, st_s, un_z, un_s, wipe_n, wipe_c, p_d2, p_d1, p_dnil, p_dcons, p_dL, p_asB, p_asI, p_asL, p_asSeqL, p_asSeqT, p_bV, p_dB, p_bAnd, p_bOr, p_bNot, p_dIf, p_dAnd, p_dOr, p_dNot, p_dCh, p_bYes, p_gN, p_gT, p_gsNil, p_gsCons, p_dNx, p_dRet, p_dSet, p_dIfS, p_dAsg, p_dPar, p_dAug, p_dApp, p_dSetIx, p_nLst, p_nRep, p_nOf, p_dSetN, p_dParN1, p_dParNN, p_iSeq, p_iRng1, p_iRng2, p_oNo, p_oIx, p_dSl, p_asIx, p_opTup, p_opLst, p_lenT, p_lenL, p_lenS, p_tupT, p_tupL, p_add, p_sub, p_mul, p_lt, p_le, p_gt, p_ge, p_eqI, p_neI, p_isN, p_isnN, p_isB, p_isnB, p_isNone_n, p_isNone_i, p_isNone_t, p_isNone_l, p_appL, p_appT, b_mc, b_mn, b_ac, b_an, b_rs, b_rz, b_lc, b_ln, b_it, b_if, b_itt, b_iff, p_dSeq, p_eqB, p_neB, len_eT, len_eR, len_eV, isNone_eO, seq_eT, seq_eR, seq_eV, seq_eL, eO_some, eO_none, len_eL, p_dOrT, ↓p_eqN, ↓p_neN, ↓p_ltN, ↓p_leN, ↓p_gtN, ↓p_geN, Nat.zero_le, Nat.reduceLeDiff, Nat.reduceAdd, if_true, Nat.reduceSub, t0, q, List.isEmpty_nil, he]
  | f + 1, d, i :: p, n, s, hf, hf2, ⟨xs, x, hsq, hx, hpx⟩, h, hs => by
    have lt : i < xs.length := by
      obtain ⟨q, _⟩ := List.getElem?_eq_some_iff.mp hx
      exact q
    have hm := List.mem_of_getElem? hx
    have q := eq_path (i :: p) (by omega)
    have t0 : opTup [] = some (.tup []) := rfl
    have d3 : opIx (eL ds) (.int 3) = some (.int (ds.getD 3 0)) := ix_eL (k := 3) (by omega)
    have m2 : opMod (.int (ds.getD 3 0 : Int)) (.int 2) = some (.int ((ds.getD 3 0 % 2 : Nat) : Int)) := mod_n (b := 2) (by decide)
    have ln : opLen [eI (i :: p)] = some (.int ((p.length + 1 : Nat) : Int)) := by
      show some (D.int (((i :: p).map fun n => D.int (n : Nat)).length : Nat)) = _
      rw [List.length_map]
      rfl
    have ix0 : opIx (eI (i :: p)) (.int 0) = some (.int (i : Int)) := by
      show (ixNat ((i :: p).map fun n => D.int (n : Nat)).length ((0 : Nat) : Int)).bind _ = _
      rw [ixN (by simp)]
      rfl
    have sl1 : opSl (some 1) none (eI (i :: p)) = some (eI p) := sl_drop (xs := (i :: p).map fun n => .int (n : Nat)) (k := 1) (by simp)
    have hpl : pls xs = true := by
      have := h.pl
      cases d <;> first | (cases hsq; exact this) | cases hsq
    have hdp : 1 + dps xs ≤ n := by
      have := h.dp
      cases d <;> first | (cases hsq; exact this) | cases hsq
    have hsz : 1 + szs xs ≤ s := by
      have := h.sz
      cases d <;> first | (cases hsq; exact this) | cases hsq
    have fin : ∀ ys : List D, pls ys = true → 1 + dps ys ≤ n + 1 → 1 + szs ys ≤ 2 * s + 3 → ∃ e, (dRet (dIf (bV (d1 (opIsi "list") (dv 0))) (dv 3) (dL opTuple (dcons (dv 3) dnil)))) [some d, some (eI (i :: p)), some (eL ds), some (.lst ys)] = some (.rt e) ∧ Gd (n + 1) (2 * s + 3) e := by
      intro ys h1 h2 h3
      cases d with
      | tup zs => exact ⟨.tup ys, rfl, gd_cl h1 h2 h3⟩
      | lst zs => exact ⟨.lst ys, rfl, gd_cl h1 h2 h3⟩
      | _ => cases hsq
    by_cases c : p.length = 0 ∧ ds.getD 3 0 % 2 = 0
    · obtain ⟨ys, h1, h2, h3⟩ := moved_item_m hx hds (by omega)
      obtain ⟨e, he, hg⟩ := fin ys (pls_iff.mpr fun y hy => pls_iff.mp hpl y (h2 y hy)) (by
        have : dps ys ≤ dps xs := dps_le.mpr fun y hy => dps_le.mp (Nat.le_refl _) y (h2 y hy)
        omega) (by omega)
      refine ⟨e, (show m_law_change_at_f (m_law_change_at_n f) [d, eI (i :: p), eL ds] = _ from run_rt rfl ?_), hg⟩
      rw [← he]
      have c1 : (((p.length + 1 : Nat)) : Int) = 1 := by omega
      have c2 : ((ds.getD 3 0 % 2 : Nat) : Int) = 0 := by omega
      simp only [bnd_some, bnd_none, p_dc, p_dv, lk_z, lk_s, st_z, st_s, un_z, un_s, wipe_n, wipe_c, p_d2, p_d1, p_dnil, p_dcons, p_dL, p_asB, p_asI, p_asL, p_asSeqL, p_asSeqT, p_bV, p_dB, p_bAnd, p_bOr, p_bNot, p_dIf, p_dAnd, p_dOr, p_dNot, p_dCh, p_bYes, p_gN, p_gT, p_gsNil, p_gsCons, p_dNx, p_dRet, p_dSet, p_dIfS, p_dAsg, p_dPar, p_dAug, p_dApp, p_dSetIx, p_nLst, p_nRep, p_nOf, p_dSetN, p_dParN1, p_dParNN, p_iSeq, p_iRng1, p_iRng2, p_oNo, p_oIx, p_dSl, p_asIx, p_opTup, p_opLst, p_lenT, p_lenL, p_lenS, p_tupT, p_tupL, p_add, p_sub, p_mul, p_lt, p_le, p_gt, p_ge, p_eqI, p_neI, p_isN, p_isnN, p_isB, p_isnB, p_isNone_n, p_isNone_i, p_isNone_t, p_isNone_l, p_appL, p_appT, b_mc, b_mn, b_ac, b_an, b_rs, b_rz, b_lc, b_ln, b_it, b_if, b_itt, b_iff, p_dSeq, p_eqB, p_neB, len_eT, len_eR, len_eV, isNone_eO, seq_eT, seq_eR, seq_eV, seq_eL, eO_some, eO_none, len_eL, p_dOrT, ↓p_eqN, ↓p_neN, ↓p_ltN, ↓p_leN, ↓p_gtN, ↓p_geN, Nat.zero_le, Nat.reduceLeDiff, Nat.reduceAdd, if_true, Nat.reduceSub, t0, q, List.isEmpty_cons, hsq, ln, d3, m2, decide_eq_true c1, decide_eq_true c2, ix0, h1]
    · have gx : Gd (n - 1) (sz x) x := gd_cl (pls_iff.mp hpl x hm) (by
        have := dps_le.mp (Nat.le_refl _) x hm
        omega) (Nat.le_refl _)
      have sx := szs_get hx
      rw [List.length_cons] at hf
      obtain ⟨e', he', hg'⟩ := change_at_m hds f x p (n - 1) (sz x) (by omega) (by omega) hpx gx (by omega)
      have hs2 := szs_set (e := e') hx
      have g1 := hg'.pl
      have g2 := hg'.dp
      have g3 := hg'.sz
      have mem : ∀ y ∈ xs.set i e', y ∈ xs ∨ y = e' := fun y hy => List.mem_or_eq_of_mem_set hy
      obtain ⟨e, he, hg⟩ := fin (xs.set i e') (pls_iff.mpr fun y hy => by
        rcases mem y hy with z | z
        · exact pls_iff.mp hpl y z
        · rw [z]; exact g1) (by
        have : dps (xs.set i e') ≤ n := dps_le.mpr fun y hy => by
          rcases mem y hy with z | z
          · have := dps_le.mp (Nat.le_refl _) y z
            omega
          · rw [z]; omega
        omega) (by omega)
      refine ⟨e, (show m_law_change_at_f (m_law_change_at_n f) [d, eI (i :: p), eL ds] = _ from run_rt rfl ?_), hg⟩
      rw [← he]
      have ixx := ixL_get hx
      have n1 : ixNat xs.length (i : Int) = some i := ixN lt
      by_cases c1 : p.length = 0
      · have c1' : (((p.length + 1 : Nat)) : Int) = 1 := by omega
        have c2' : ¬ ((ds.getD 3 0 % 2 : Nat) : Int) = 0 := by omega
        simp only [bnd_some, bnd_none, p_dc, p_dv, lk_z, lk_s, st_z, st_s, un_z, un_s, wipe_n, wipe_c, p_d2, p_d1, p_dnil, p_dcons, p_dL, p_asB, p_asI, p_asL, p_asSeqL, p_asSeqT, p_bV, p_dB, p_bAnd, p_bOr, p_bNot, p_dIf, p_dAnd, p_dOr, p_dNot, p_dCh, p_bYes, p_gN, p_gT, p_gsNil, p_gsCons, p_dNx, p_dRet, p_dSet, p_dIfS, p_dAsg, p_dPar, p_dAug, p_dApp, p_dSetIx, p_nLst, p_nRep, p_nOf, p_dSetN, p_dParN1, p_dParNN, p_iSeq, p_iRng1, p_iRng2, p_oNo, p_oIx, p_dSl, p_asIx, p_opTup, p_opLst, p_lenT, p_lenL, p_lenS, p_tupT, p_tupL, p_add, p_sub, p_mul, p_lt, p_le, p_gt, p_ge, p_eqI, p_neI, p_isN, p_isnN, p_isB, p_isnB, p_isNone_n, p_isNone_i, p_isNone_t, p_isNone_l, p_appL, p_appT, b_mc, b_mn, b_ac, b_an, b_rs, b_rz, b_lc, b_ln, b_it, b_if, b_itt, b_iff, p_dSeq, p_eqB, p_neB, len_eT, len_eR, len_eV, isNone_eO, seq_eT, seq_eR, seq_eV, seq_eL, eO_some, eO_none, len_eL, p_dOrT, ↓p_eqN, ↓p_neN, ↓p_ltN, ↓p_leN, ↓p_gtN, ↓p_geN, Nat.zero_le, Nat.reduceLeDiff, Nat.reduceAdd, if_true, Nat.reduceSub, t0, q, List.isEmpty_cons, hsq, ln, d3, m2, decide_eq_true c1', decide_eq_false c2', ix0, sl1, ixx, he', n1]
      · have c1' : ¬ (((p.length + 1 : Nat)) : Int) = 1 := by omega
        simp only [bnd_some, bnd_none, p_dc, p_dv, lk_z, lk_s, st_z, st_s, un_z, un_s, wipe_n, wipe_c, p_d2, p_d1, p_dnil, p_dcons, p_dL, p_asB, p_asI, p_asL, p_asSeqL, p_asSeqT, p_bV, p_dB, p_bAnd, p_bOr, p_bNot, p_dIf, p_dAnd, p_dOr, p_dNot, p_dCh, p_bYes, p_gN, p_gT, p_gsNil, p_gsCons, p_dNx, p_dRet, p_dSet, p_dIfS, p_dAsg, p_dPar, p_dAug, p_dApp, p_dSetIx, p_nLst, p_nRep, p_nOf, p_dSetN, p_dParN1, p_dParNN, p_iSeq, p_iRng1, p_iRng2, p_oNo, p_oIx, p_dSl, p_asIx, p_opTup, p_opLst, p_lenT, p_lenL, p_lenS, p_tupT, p_tupL, p_add, p_sub, p_mul, p_lt, p_le, p_gt, p_ge, p_eqI, p_neI, p_isN, p_isnN, p_isB, p_isnB, p_isNone_n, p_isNone_i, p_isNone_t, p_isNone_l, p_appL, p_appT, b_mc, b_mn, b_ac, b_an, b_rs, b_rz, b_lc, b_ln, b_it, b_if, b_itt, b_iff, p_dSeq, p_eqB, p_neB, len_eT, len_eR, len_eV, isNone_eO, seq_eT, seq_eR, seq_eV, seq_eL, eO_some, eO_none, len_eL, p_dOrT, ↓p_eqN, ↓p_neN, ↓p_ltN, ↓p_leN, ↓p_gtN, ↓p_geN, Nat.zero_le, Nat.reduceLeDiff, Nat.reduceAdd, if_true, Nat.reduceSub, t0, q, List.isEmpty_cons, hsq, ln, decide_eq_false c1', ix0, sl1, ixx, he', n1]
theorem mutated_m {ds : List Nat} (hds : ds.length = 5) {n s : Nat} {d : D} (h : Gd n s d) (hn : n ≤ 8) (hs : s ≤ 400000) : ∃ e, m_law_mutated [d, eL ds] = some e ∧ Gd (n + 1) (2 * s + 3) e := by
  obtain ⟨ps, h1, hne, hl, hv⟩ := paths_m 10 d h.pl (by have := h.dp; omega) (by have := h.sz; omega)
  have d4 : opIx (eL ds) (.int 4) = some (.int (ds.getD 4 0)) := ix_eL (k := 4) (by omega)
  obtain ⟨x, hx, pk⟩ := pick_m (L := ps.map eI) (by simpa using hne) (ds.getD 4 0)
  obtain ⟨p, hp, rfl⟩ := List.mem_map.mp hx
  have pl := path_len p d (hv p hp)
  have := h.dp
  obtain ⟨e, he, hg⟩ := change_at_m hds 10 d p n s (by omega) (by decide) (hv p hp) h hs
  have he : m_law_change_at [d, eI p, eL ds] = some e := he
  have h1 : m_law_paths [d] = some (.lst (ps.map eI)) := h1
  refine ⟨e, run_rt rfl ?_, hg⟩
  cases mo : opMod (.int (ds.getD 4 0 : Int)) (.int ((ps.map eI).length : Int)) with
  | none => rw [mo] at pk; cases pk
  | some y =>
    rw [mo] at pk
    simp only [bnd_some] at pk
    simp only [bnd_some, bnd_none, p_dc, p_dv, lk_z, lk_s, st_z, st_s, un_z, un_s, wipe_n, wipe_c, p_d2, p_d1, p_dnil, p_dcons, p_dL, p_asB, p_asI, p_asL, p_asSeqL, p_asSeqT, p_bV, p_dB, p_bAnd, p_bOr, p_bNot, p_dIf, p_dAnd, p_dOr, p_dNot, p_dCh, p_bYes, p_gN, p_gT, p_gsNil, p_gsCons, p_dNx, p_dRet, p_dSet, p_dIfS, p_dAsg, p_dPar, p_dAug, p_dApp, p_dSetIx, p_nLst, p_nRep, p_nOf, p_dSetN, p_dParN1, p_dParNN, p_iSeq, p_iRng1, p_iRng2, p_oNo, p_oIx, p_dSl, p_asIx, p_opTup, p_opLst, p_lenT, p_lenL, p_lenS, p_tupT, p_tupL, p_add, p_sub, p_mul, p_lt, p_le, p_gt, p_ge, p_eqI, p_neI, p_isN, p_isnN, p_isB, p_isnB, p_isNone_n, p_isNone_i, p_isNone_t, p_isNone_l, p_appL, p_appT, b_mc, b_mn, b_ac, b_an, b_rs, b_rz, b_lc, b_ln, b_it, b_if, b_itt, b_iff, p_dSeq, p_eqB, p_neB, len_eT, len_eR, len_eV, isNone_eO, seq_eT, seq_eR, seq_eV, seq_eL, eO_some, eO_none, len_eL, p_dOrT, ↓p_eqN, ↓p_neN, ↓p_ltN, ↓p_leN, ↓p_gtN, ↓p_geN, Nat.zero_le, Nat.reduceLeDiff, Nat.reduceAdd, if_true, Nat.reduceSub, h1, d4, mo, pk, he]
end Mi
namespace Mi
open DL
theorem pick3 (a b c : D) (x : Nat) : ∃ e, opIx (.lst [a, b, c]) (.int ((x % 3 : Nat) : Int)) = some e ∧ (e = a ∨ e = b ∨ e = c) := by
  have : x % 3 = 0 ∨ x % 3 = 1 ∨ x % 3 = 2 := by omega
  rcases this with q | q | q <;> rw [q]
  · exact ⟨a, rfl, by simp⟩
  · exact ⟨b, rfl, by simp⟩
  · exact ⟨c, rfl, by simp⟩
def eight : List D := [.str "", .str "0", .str "a", .str "ax", .str "3", .str "none", .str "A", .str "~"]
theorem eight_ok : ∀ e ∈ eight, pl e = true := by
  have : eight.all pl = true := by decide +kernel
  exact List.all_eq_true.mp this
theorem eight_dp : ∀ e ∈ eight, dp e = 0 := by
  intro e he
  simp only [eight, List.mem_cons, List.not_mem_nil, or_false] at he
  rcases he with rfl | rfl | rfl | rfl | rfl | rfl | rfl | rfl <;> rfl
theorem any_value_m : ∀ (f : Nat) (ds : List Nat) (k : Nat), ds.length = 60 → k ≤ 4 → 5 ≤ k + f → ∃ e, m_law_any_value_n f [eL ds, .int (k : Int)] = some e ∧ pl e = true ∧ dp e ≤ f
  | 0, _, _, _, h1, h2 => by omega
  | f + 1, ds, k, hl, hk, hkf => by
    have d0 : opIx (eL ds) (.int (k : Int)) = some (.int (ds.getD k 0)) := ix_eL (by omega)
    have d1 : opIx (eL ds) (.int ((k : Int) + 1)) = some (.int (ds.getD (k + 1) 0)) := ix_eLz (k + 1) (by omega) (by omega)
    have d2 : opIx (eL ds) (.int ((k : Int) + 2)) = some (.int (ds.getD (k + 2) 0)) := ix_eLz (k + 2) (by omega) (by omega)
    have d3 : opIx (eL ds) (.int ((k : Int) + 3)) = some (.int (ds.getD (k + 3) 0)) := ix_eLz (k + 3) (by omega) (by omega)
    have d4 : opIx (eL ds) (.int ((k : Int) + 4)) = some (.int (ds.getD (k + 4) 0)) := ix_eLz (k + 4) (by omega) (by omega)
    have m0 : opMod (.int (ds.getD k 0 : Int)) (.int 12) = some (.int ((ds.getD k 0 % 12 : Nat) : Int)) := mod_n (b := 12) (by decide)
    have m1 : opMod (.int (ds.getD (k + 1) 0 : Int)) (.int 12) = some (.int ((ds.getD (k + 1) 0 % 12 : Nat) : Int)) := mod_n (b := 12) (by decide)
    have m2 : opMod (.int (ds.getD (k + 2) 0 : Int)) (.int 3) = some (.int ((ds.getD (k + 2) 0 % 3 : Nat) : Int)) := mod_n (b := 3) (by decide)
    have m3 : opMod (.int (ds.getD (k + 3) 0 : Int)) (.int 8) = some (.int ((ds.getD (k + 3) 0 % 8 : Nat) : Int)) := mod_n (b := 8) (by decide)
    have m4 : opMod (.int (ds.getD (k + 4) 0 : Int)) (.int 4) = some (.int ((ds.getD (k + 4) 0 % 4 : Nat) : Int)) := mod_n (b := 4) (by decide)
    have l3 : ∀ a b c : D, opLst [a, b, c] = some (.lst [a, b, c]) := fun _ _ _ => rfl
    have l8 : opLst [.str "", .str "0", .str "a", .str "ax", .str "3", .str "none", .str "A", .str "~"] = some (.lst eight) := rfl
    obtain ⟨sm, hsm, hsv⟩ := pick3 (.int (((ds.getD (k + 1) 0 % 12 : Nat) : Int) - 2)) (.int (0 - 1000000000000000000000000000000000000000)) (.int 1000000000000000000000000000000000000000) (ds.getD (k + 2) 0)
    obtain ⟨e8, hm8, he8⟩ := pick_m (L := eight) (by simp [eight]) (ds.getD (k + 3) 0)
    have h8 : opMod (.int (ds.getD (k + 3) 0 : Int)) (.int (eight.length : Int)) = some (.int ((ds.getD (k + 3) 0 % 8 : Nat) : Int)) := m3
    rw [h8, bnd_some] at he8
    have lt0 : ds.getD k 0 % 12 < 12 := Nat.mod_lt _ (by decide)
    have lt4 : ds.getD (k + 4) 0 % 4 < 4 := Nat.mod_lt _ (by decide)
    generalize ds.getD k 0 % 12 = r0 at m0 lt0
    generalize ds.getD (k + 1) 0 % 12 = r1 at m1 hsm hsv
    generalize ds.getD (k + 2) 0 % 3 = r2 at m2 hsm
    generalize ds.getD (k + 3) 0 % 8 = r3 at m3 he8
    generalize ds.getD (k + 4) 0 % 4 = r4 at m4 lt4
    have smp : pl sm = true ∧ dp sm = 0 := by rcases hsv with e | e | e <;> rw [e] <;> exact ⟨rfl, rfl⟩
    by_cases c1 : (r0 : Int) < 4
    · refine ⟨sm, (show m_law_any_value_f (m_law_any_value_n f) [eL ds, .int (k : Int)] = _ from run_rt rfl ?_), smp.1, by omega⟩
      simp only [bnd_some, bnd_none, p_dc, p_dv, lk_z, lk_s, st_z, st_s, un_z, un_s, wipe_n, wipe_c, p_d2, p_d1, p_dnil, p_dcons, p_dL, p_asB, p_asI, p_asL, p_asSeqL, p_asSeqT, p_bV, p_dB, p_bAnd, p_bOr, p_bNot, p_dIf, p_dAnd, p_dOr, p_dNot, p_dCh, p_bYes, p_gN, p_gT, p_gsNil, p_gsCons, p_dNx, p_dRet, p_dSet, p_dIfS, p_dAsg, p_dPar, p_dAug, p_dApp, p_dSetIx, p_nLst, p_nRep, p_nOf, p_dSetN, p_dParN1, p_dParNN, p_iSeq, p_iRng1, p_iRng2, p_oNo, p_oIx, p_dSl, p_asIx, p_opTup, p_opLst, p_lenT, p_lenL, p_lenS, p_tupT, p_tupL, p_add, p_sub, p_mul, p_lt, p_le, p_gt, p_ge, p_eqI, p_neI, p_isN, p_isnN, p_isB, p_isnB, p_isNone_n, p_isNone_i, p_isNone_t, p_isNone_l, p_appL, p_appT, b_mc, b_mn, b_ac, b_an, b_rs, b_rz, b_lc, b_ln, b_it, b_if, b_itt, b_iff, p_dSeq, p_eqB, p_neB, len_eT, len_eR, len_eV, isNone_eO, seq_eT, seq_eR, seq_eV, seq_eL, eO_some, eO_none, len_eL, p_dOrT, ↓p_eqN, ↓p_neN, ↓p_ltN, ↓p_leN, ↓p_gtN, ↓p_geN, Nat.zero_le, Nat.reduceLeDiff, Nat.reduceAdd, if_true, Nat.reduceSub, d0, d1, d2, m0, m1, m2, p39, l3, hsm, decide_eq_true c1]
    · by_cases c2 : (3 : Int) < k
      · refine ⟨sm, (show m_law_any_value_f (m_law_any_value_n f) [eL ds, .int (k : Int)] = _ from run_rt rfl ?_), smp.1, by omega⟩
        simp only [bnd_some, bnd_none, p_dc, p_dv, lk_z, lk_s, st_z, st_s, un_z, un_s, wipe_n, wipe_c, p_d2, p_d1, p_dnil, p_dcons, p_dL, p_asB, p_asI, p_asL, p_asSeqL, p_asSeqT, p_bV, p_dB, p_bAnd, p_bOr, p_bNot, p_dIf, p_dAnd, p_dOr, p_dNot, p_dCh, p_bYes, p_gN, p_gT, p_gsNil, p_gsCons, p_dNx, p_dRet, p_dSet, p_dIfS, p_dAsg, p_dPar, p_dAug, p_dApp, p_dSetIx, p_nLst, p_nRep, p_nOf, p_dSetN, p_dParN1, p_dParNN, p_iSeq, p_iRng1, p_iRng2, p_oNo, p_oIx, p_dSl, p_asIx, p_opTup, p_opLst, p_lenT, p_lenL, p_lenS, p_tupT, p_tupL, p_add, p_sub, p_mul, p_lt, p_le, p_gt, p_ge, p_eqI, p_neI, p_isN, p_isnN, p_isB, p_isnB, p_isNone_n, p_isNone_i, p_isNone_t, p_isNone_l, p_appL, p_appT, b_mc, b_mn, b_ac, b_an, b_rs, b_rz, b_lc, b_ln, b_it, b_if, b_itt, b_iff, p_dSeq, p_eqB, p_neB, len_eT, len_eR, len_eV, isNone_eO, seq_eT, seq_eR, seq_eV, seq_eL, eO_some, eO_none, len_eL, p_dOrT, ↓p_eqN, ↓p_neN, ↓p_ltN, ↓p_leN, ↓p_gtN, ↓p_geN, Nat.zero_le, Nat.reduceLeDiff, Nat.reduceAdd, if_true, Nat.reduceSub, d0, d1, d2, m0, m1, m2, p39, l3, hsm, decide_eq_false c1, decide_eq_true c2]
      · by_cases c3 : (r0 : Int) < 7
        · have : ∃ e, opIx (.lst [.bl true, .bl false, .non]) (.int ((r0 : Int) - 4)) = some e ∧ pl e = true ∧ dp e = 0 := by
            have : r0 = 4 ∨ r0 = 5 ∨ r0 = 6 := by omega
            rcases this with q | q | q <;> subst q
            · exact ⟨.bl true, rfl, rfl, rfl⟩
            · exact ⟨.bl false, rfl, rfl, rfl⟩
            · exact ⟨.non, rfl, rfl, rfl⟩
          obtain ⟨e, he, hp, hd⟩ := this
          refine ⟨e, (show m_law_any_value_f (m_law_any_value_n f) [eL ds, .int (k : Int)] = _ from run_rt rfl ?_), hp, by omega⟩
          simp only [bnd_some, bnd_none, p_dc, p_dv, lk_z, lk_s, st_z, st_s, un_z, un_s, wipe_n, wipe_c, p_d2, p_d1, p_dnil, p_dcons, p_dL, p_asB, p_asI, p_asL, p_asSeqL, p_asSeqT, p_bV, p_dB, p_bAnd, p_bOr, p_bNot, p_dIf, p_dAnd, p_dOr, p_dNot, p_dCh, p_bYes, p_gN, p_gT, p_gsNil, p_gsCons, p_dNx, p_dRet, p_dSet, p_dIfS, p_dAsg, p_dPar, p_dAug, p_dApp, p_dSetIx, p_nLst, p_nRep, p_nOf, p_dSetN, p_dParN1, p_dParNN, p_iSeq, p_iRng1, p_iRng2, p_oNo, p_oIx, p_dSl, p_asIx, p_opTup, p_opLst, p_lenT, p_lenL, p_lenS, p_tupT, p_tupL, p_add, p_sub, p_mul, p_lt, p_le, p_gt, p_ge, p_eqI, p_neI, p_isN, p_isnN, p_isB, p_isnB, p_isNone_n, p_isNone_i, p_isNone_t, p_isNone_l, p_appL, p_appT, b_mc, b_mn, b_ac, b_an, b_rs, b_rz, b_lc, b_ln, b_it, b_if, b_itt, b_iff, p_dSeq, p_eqB, p_neB, len_eT, len_eR, len_eV, isNone_eO, seq_eT, seq_eR, seq_eV, seq_eL, eO_some, eO_none, len_eL, p_dOrT, ↓p_eqN, ↓p_neN, ↓p_ltN, ↓p_leN, ↓p_gtN, ↓p_geN, Nat.zero_le, Nat.reduceLeDiff, Nat.reduceAdd, if_true, Nat.reduceSub, d0, d1, d2, m0, m1, m2, p39, l3, hsm, decide_eq_false c1, decide_eq_false c2, decide_eq_true c3, he]
        · by_cases c4 : (r0 : Int) < 9
          · have he9 : opIx (.lst [.str "", .str "0", .str "a", .str "ax", .str "3", .str "none", .str "A", .str "~"]) (.int (r3 : Int)) = some e8 := he8
            refine ⟨e8, (show m_law_any_value_f (m_law_any_value_n f) [eL ds, .int (k : Int)] = _ from run_rt rfl ?_), eight_ok e8 hm8, by rw [eight_dp e8 hm8]; omega⟩
            simp only [bnd_some, bnd_none, p_dc, p_dv, lk_z, lk_s, st_z, st_s, un_z, un_s, wipe_n, wipe_c, p_d2, p_d1, p_dnil, p_dcons, p_dL, p_asB, p_asI, p_asL, p_asSeqL, p_asSeqT, p_bV, p_dB, p_bAnd, p_bOr, p_bNot, p_dIf, p_dAnd, p_dOr, p_dNot, p_dCh, p_bYes, p_gN, p_gT, p_gsNil, p_gsCons, p_dNx, p_dRet, p_dSet, p_dIfS, p_dAsg, p_dPar, p_dAug, p_dApp, p_dSetIx, p_nLst, p_nRep, p_nOf, p_dSetN, p_dParN1, p_dParNN, p_iSeq, p_iRng1, p_iRng2, p_oNo, p_oIx, p_dSl, p_asIx, p_opTup, p_opLst, p_lenT, p_lenL, p_lenS, p_tupT, p_tupL, p_add, p_sub, p_mul, p_lt, p_le, p_gt, p_ge, p_eqI, p_neI, p_isN, p_isnN, p_isB, p_isnB, p_isNone_n, p_isNone_i, p_isNone_t, p_isNone_l, p_appL, p_appT, b_mc, b_mn, b_ac, b_an, b_rs, b_rz, b_lc, b_ln, b_it, b_if, b_itt, b_iff, p_dSeq, p_eqB, p_neB, len_eT, len_eR, len_eV, isNone_eO, seq_eT, seq_eR, seq_eV, seq_eL, eO_some, eO_none, len_eL, p_dOrT, ↓p_eqN, ↓p_neN, ↓p_ltN, ↓p_leN, ↓p_gtN, ↓p_geN, Nat.zero_le, Nat.reduceLeDiff, Nat.reduceAdd, if_true, Nat.reduceSub, d0, d1, d2, d3, m0, m1, m2, m3, p39, l3, l8, hsm, decide_eq_false c1, decide_eq_false c2, decide_eq_false c3, decide_eq_true c4, he8, he9]
          · have rc0 : ∀ i : Nat, ∃ e, i < 4 → m_law_any_value_n f [eL (ds.drop i ++ ds.take i), .int ((k + 1 : Nat) : Int)] = some e ∧ pl e = true ∧ dp e ≤ f := by
              intro i
              by_cases q : i < 4
              · obtain ⟨e, he⟩ := any_value_m f (ds.drop i ++ ds.take i) (k + 1) (by rw [List.length_append, List.length_drop, List.length_take]; omega) (by omega) (by omega)
                exact ⟨e, fun _ => he⟩
              · exact ⟨.non, fun z => absurd z q⟩
            let g : Nat → D := fun i => Classical.choose (rc0 i)
            have hg : ∀ i, i < 4 → m_law_any_value_n f [eL (ds.drop i ++ ds.take i), .int ((k + 1 : Nat) : Int)] = some (g i) ∧ pl (g i) = true ∧ dp (g i) ≤ f := fun i => Classical.choose_spec (rc0 i)
            have c1' : ∀ x2 x3 x4 : Option D, m_law_any_value_c1 (m_law_any_value_n f) [some (eL ds), some (.int (k : Int)), x2, x3, x4, none] = some (.lst ((List.range r4).map g)) := by
              intro x2 x3 x4
              unfold m_law_any_value_c1
              refine comp_all (fun i : Nat => D.int i) g (List.range r4) (by simp only [bnd_some, bnd_none, p_dc, p_dv, lk_z, lk_s, st_z, st_s, un_z, un_s, wipe_n, wipe_c, p_d2, p_d1, p_dnil, p_dcons, p_dL, p_asB, p_asI, p_asL, p_asSeqL, p_asSeqT, p_bV, p_dB, p_bAnd, p_bOr, p_bNot, p_dIf, p_dAnd, p_dOr, p_dNot, p_dCh, p_bYes, p_gN, p_gT, p_gsNil, p_gsCons, p_dNx, p_dRet, p_dSet, p_dIfS, p_dAsg, p_dPar, p_dAug, p_dApp, p_dSetIx, p_nLst, p_nRep, p_nOf, p_dSetN, p_dParN1, p_dParNN, p_iSeq, p_iRng1, p_iRng2, p_oNo, p_oIx, p_dSl, p_asIx, p_opTup, p_opLst, p_lenT, p_lenL, p_lenS, p_tupT, p_tupL, p_add, p_sub, p_mul, p_lt, p_le, p_gt, p_ge, p_eqI, p_neI, p_isN, p_isnN, p_isB, p_isnB, p_isNone_n, p_isNone_i, p_isNone_t, p_isNone_l, p_appL, p_appT, b_mc, b_mn, b_ac, b_an, b_rs, b_rz, b_lc, b_ln, b_it, b_if, b_itt, b_iff, p_dSeq, p_eqB, p_neB, len_eT, len_eR, len_eV, isNone_eO, seq_eT, seq_eR, seq_eV, seq_eL, eO_some, eO_none, len_eL, p_dOrT, ↓p_eqN, ↓p_neN, ↓p_ltN, ↓p_leN, ↓p_gtN, ↓p_geN, Nat.zero_le, Nat.reduceLeDiff, Nat.reduceAdd, if_true, d4, m4, rng1 (n := r4) (by omega)]) (by simp; omega) ?_
              intro i hi
              have hi := List.mem_range.mp hi
              refine ⟨_, rfl, ?_⟩
              have s1 : opSl (some (i : Int)) none (eL ds) = some (eL (ds.drop i)) := sl_eL (by omega)
              have s2 : opSl none (some (i : Int)) (eL ds) = some (eL (ds.take i)) := sl_eLt (by omega)
              have ad : opAdd (eL (ds.drop i)) (eL (ds.take i)) = some (eL (ds.drop i ++ ds.take i)) := by
                unfold eL
                rw [p_appL, if_pos (by rw [List.length_map, List.length_map, List.length_drop, List.length_take]; omega), List.map_append]
              have kk : (k : Int) + 1 = ((k + 1 : Nat) : Int) := by omega
              simp only [bnd_some, bnd_none, p_dc, p_dv, lk_z, lk_s, st_z, st_s, un_z, un_s, wipe_n, wipe_c, p_d2, p_d1, p_dnil, p_dcons, p_dL, p_asB, p_asI, p_asL, p_asSeqL, p_asSeqT, p_bV, p_dB, p_bAnd, p_bOr, p_bNot, p_dIf, p_dAnd, p_dOr, p_dNot, p_dCh, p_bYes, p_gN, p_gT, p_gsNil, p_gsCons, p_dNx, p_dRet, p_dSet, p_dIfS, p_dAsg, p_dPar, p_dAug, p_dApp, p_dSetIx, p_nLst, p_nRep, p_nOf, p_dSetN, p_dParN1, p_dParNN, p_iSeq, p_iRng1, p_iRng2, p_oNo, p_oIx, p_dSl, p_asIx, p_opTup, p_opLst, p_lenT, p_lenL, p_lenS, p_tupT, p_tupL, p_add, p_sub, p_mul, p_lt, p_le, p_gt, p_ge, p_eqI, p_neI, p_isN, p_isnN, p_isB, p_isnB, p_isNone_n, p_isNone_i, p_isNone_t, p_isNone_l, p_appL, p_appT, b_mc, b_mn, b_ac, b_an, b_rs, b_rz, b_lc, b_ln, b_it, b_if, b_itt, b_iff, p_dSeq, p_eqB, p_neB, len_eT, len_eR, len_eV, isNone_eO, seq_eT, seq_eR, seq_eV, seq_eL, eO_some, eO_none, len_eL, p_dOrT, ↓p_eqN, ↓p_neN, ↓p_ltN, ↓p_leN, ↓p_gtN, ↓p_geN, Nat.zero_le, Nat.reduceLeDiff, Nat.reduceAdd, if_true, s1, s2, ad, kk, (hg i (by omega)).1]
            have gp : pls ((List.range r4).map g) = true := pls_iff.mpr fun d hd => by
              obtain ⟨i, hi, rfl⟩ := List.mem_map.mp hd
              exact (hg i (by have := List.mem_range.mp hi; omega)).2.1
            have gd : dps ((List.range r4).map g) ≤ f := dps_le.mpr fun d hd => by
              obtain ⟨i, hi, rfl⟩ := List.mem_map.mp hd
              exact (hg i (by have := List.mem_range.mp hi; omega)).2.2
            by_cases c5 : (r0 : Int) = 9
            · refine ⟨.lst ((List.range r4).map g), (show m_law_any_value_f (m_law_any_value_n f) [eL ds, .int (k : Int)] = _ from run_rt rfl ?_), gp, by show 1 + dps _ ≤ _; omega⟩
              simp only [bnd_some, bnd_none, p_dc, p_dv, lk_z, lk_s, st_z, st_s, un_z, un_s, wipe_n, wipe_c, p_d2, p_d1, p_dnil, p_dcons, p_dL, p_asB, p_asI, p_asL, p_asSeqL, p_asSeqT, p_bV, p_dB, p_bAnd, p_bOr, p_bNot, p_dIf, p_dAnd, p_dOr, p_dNot, p_dCh, p_bYes, p_gN, p_gT, p_gsNil, p_gsCons, p_dNx, p_dRet, p_dSet, p_dIfS, p_dAsg, p_dPar, p_dAug, p_dApp, p_dSetIx, p_nLst, p_nRep, p_nOf, p_dSetN, p_dParN1, p_dParNN, p_iSeq, p_iRng1, p_iRng2, p_oNo, p_oIx, p_dSl, p_asIx, p_opTup, p_opLst, p_lenT, p_lenL, p_lenS, p_tupT, p_tupL, p_add, p_sub, p_mul, p_lt, p_le, p_gt, p_ge, p_eqI, p_neI, p_isN, p_isnN, p_isB, p_isnB, p_isNone_n, p_isNone_i, p_isNone_t, p_isNone_l, p_appL, p_appT, b_mc, b_mn, b_ac, b_an, b_rs, b_rz, b_lc, b_ln, b_it, b_if, b_itt, b_iff, p_dSeq, p_eqB, p_neB, len_eT, len_eR, len_eV, isNone_eO, seq_eT, seq_eR, seq_eV, seq_eL, eO_some, eO_none, len_eL, p_dOrT, ↓p_eqN, ↓p_neN, ↓p_ltN, ↓p_leN, ↓p_gtN, ↓p_geN, Nat.zero_le, Nat.reduceLeDiff, Nat.reduceAdd, if_true, Nat.reduceSub, d0, d1, d2, m0, m1, m2, p39, l3, hsm, decide_eq_false c1, decide_eq_false c2, decide_eq_false c3, decide_eq_false c4, c1', decide_eq_true c5]
            · refine ⟨.tup ((List.range r4).map g), (show m_law_any_value_f (m_law_any_value_n f) [eL ds, .int (k : Int)] = _ from run_rt rfl ?_), gp, by show 1 + dps _ ≤ _; omega⟩
              simp only [bnd_some, bnd_none, p_dc, p_dv, lk_z, lk_s, st_z, st_s, un_z, un_s, wipe_n, wipe_c, p_d2, p_d1, p_dnil, p_dcons, p_dL, p_asB, p_asI, p_asL, p_asSeqL, p_asSeqT, p_bV, p_dB, p_bAnd, p_bOr, p_bNot, p_dIf, p_dAnd, p_dOr, p_dNot, p_dCh, p_bYes, p_gN, p_gT, p_gsNil, p_gsCons, p_dNx, p_dRet, p_dSet, p_dIfS, p_dAsg, p_dPar, p_dAug, p_dApp, p_dSetIx, p_nLst, p_nRep, p_nOf, p_dSetN, p_dParN1, p_dParNN, p_iSeq, p_iRng1, p_iRng2, p_oNo, p_oIx, p_dSl, p_asIx, p_opTup, p_opLst, p_lenT, p_lenL, p_lenS, p_tupT, p_tupL, p_add, p_sub, p_mul, p_lt, p_le, p_gt, p_ge, p_eqI, p_neI, p_isN, p_isnN, p_isB, p_isnB, p_isNone_n, p_isNone_i, p_isNone_t, p_isNone_l, p_appL, p_appT, b_mc, b_mn, b_ac, b_an, b_rs, b_rz, b_lc, b_ln, b_it, b_if, b_itt, b_iff, p_dSeq, p_eqB, p_neB, len_eT, len_eR, len_eV, isNone_eO, seq_eT, seq_eR, seq_eV, seq_eL, eO_some, eO_none, len_eL, p_dOrT, ↓p_eqN, ↓p_neN, ↓p_ltN, ↓p_leN, ↓p_gtN, ↓p_geN, Nat.zero_le, Nat.reduceLeDiff, Nat.reduceAdd, if_true, Nat.reduceSub, d0, d1, d2, m0, m1, m2, p39, l3, hsm, decide_eq_false c1, decide_eq_false c2, decide_eq_false c3, decide_eq_false c4, c1', decide_eq_false c5]
def okV (d : D) : Bool := pl d && decide (dp d ≤ 50)
theorem okV_iff {d : D} : okV d = true ↔ pl d = true ∧ dp d ≤ 50 := by
  unfold okV
  simp
theorem gd_eO (x : Option Nat) : pl (eO x) = true ∧ dp (eO x) = 0 ∧ sz (eO x) = 1 := by cases x <;> exact ⟨rfl, rfl, rfl⟩
theorem szs_map {α : Type} (f : α → D) (c : Nat) : ∀ l : List α, (∀ x ∈ l, sz (f x) ≤ c) → szs (l.map f) ≤ l.length * c
  | [], _ => Nat.zero_le _
  | x :: l, h => by
    have h1 := h x List.mem_cons_self
    have ih := szs_map f c l fun y hy => h y (List.mem_cons_of_mem _ hy)
    rw [List.length_cons, Nat.add_mul, Nat.one_mul]
    show sz (f x) + szs (l.map f) ≤ _
    omega
theorem gd_eR (w : Nat) (f : Nat → Option Nat) : pl (eR w f) = true ∧ dp (eR w f) ≤ 1 ∧ sz (eR w f) ≤ 1 + w := by
  refine ⟨pls_iff.mpr fun d hd => ?_, ?_, ?_⟩
  · obtain ⟨j, _, rfl⟩ := List.mem_map.mp hd
    exact (gd_eO _).1
  · have : dps ((List.range w).map fun j => eO (f j)) ≤ 0 := dps_le.mpr fun d hd => by
      obtain ⟨j, _, rfl⟩ := List.mem_map.mp hd
      exact Nat.le_of_eq (gd_eO _).2.1
    show 1 + dps _ ≤ _
    omega
  · have := szs_map (fun j => eO (f j)) 1 (List.range w) fun j _ => Nat.le_of_eq (gd_eO _).2.2
    rw [List.length_range] at this
    show 1 + szs _ ≤ _
    omega
theorem gd_eT {m w : Nat} (hm : m ≤ 5) (hw : w ≤ 5) (T : Nat → Nat → Option Nat) : Gd 2 31 (eT m w T) := by
  refine gd_cl (pls_iff.mpr fun d hd => ?_) ?_ ?_
  · obtain ⟨i, _, rfl⟩ := List.mem_map.mp hd
    exact (gd_eR _ _).1
  · have : dps ((List.range m).map fun i => eR w (T i)) ≤ 1 := dps_le.mpr fun d hd => by
      obtain ⟨i, _, rfl⟩ := List.mem_map.mp hd
      exact (gd_eR _ _).2.1
    show 1 + dps _ ≤ _
    omega
  · have := szs_map (fun i => eR w (T i)) 6 (List.range m) fun i _ => by
      have := (gd_eR w (T i)).2.2
      omega
    rw [List.length_range] at this
    show 1 + szs _ ≤ _
    omega
theorem sl_eLm {ds : List Nat} {a b : Nat} (h : a ≤ b) (hb : b ≤ ds.length) : opSl (some (a : Int)) (some (b : Int)) (eL ds) = some (eL ((ds.drop a).take (b - a))) := by
  have e : opSl (some (a : Int)) (some (b : Int)) (eL ds) = some (.lst (cutL (ds.map fun n : Nat => D.int n) (some (a : Int)) (some (b : Int)))) := rfl
  rw [e]
  unfold cutL eL
  rw [HT.sIx_nat, HT.sIx_nat, List.length_map, Nat.min_eq_left hb, Nat.min_eq_left (show a ≤ ds.length by omega), ← List.map_drop, ← List.map_take]
def VsP (n : Nat) (ρ : Rho) : Prop := ∃ vs : List D, lk ρ 1 = some (.lst vs) ∧ (∀ v ∈ vs, okV v = true) ∧ vs.length ≤ n
theorem k01_b1 {ρ : Rho} {T : D} {ds : List Nat} {k n : Nat} (hl : ρ.length = 11) (hds : ds.length = 60) (hT : Gd 2 31 T) (hk : k < 8) (hn : n ≤ 1000) (h1 : VsP n ρ) (h3 : lk ρ 3 = some (eL ds)) (h6 : lk ρ 6 = some T) (h7 : lk ρ 7 = some (.int (k : Int))) :
    ∃ ρ', m_k01_b1 ρ = some (.nx ρ') ∧ Ag [1, 7, 8, 9] ρ ρ' ∧ VsP (n + 3) ρ' := by
  obtain ⟨vs, hv, hok, hvl⟩ := h1
  have mu : opMul (.int 5) (.int (k : Int)) = some (.int ((5 * k : Nat) : Int)) := by
    rw [mul_j (by decide) (by decide)]
    congr 2
  have a5 : ((5 * k : Nat) : Int) + 5 = ((5 * k + 5 : Nat) : Int) := by omega
  have sm := sl_eLm (ds := ds) (a := 5 * k) (b := 5 * k + 5) (by omega) (by omega)
  have rl : ((ds.drop (5 * k)).take (5 * k + 5 - 5 * k)).length = 5 := by rw [List.length_take, List.length_drop]; omega
  generalize (ds.drop (5 * k)).take (5 * k + 5 - 5 * k) = row at sm rl
  obtain ⟨e1, he1, g1⟩ := mutated_m (ds := row) rl hT (by decide) (by decide)
  have rv : opRev (eL row) = some (eL row.reverse) := by
    unfold eL
    rw [List.map_reverse]
    rfl
  obtain ⟨e2, he2, g2⟩ := mutated_m (ds := row.reverse) (by rw [List.length_reverse]; exact rl) g1 (by decide) (by decide)
  have s1 : opSl (some (k : Int)) none (eL ds) = some (eL (ds.drop k)) := sl_eL (by omega)
  have s2 : opSl none (some (k : Int)) (eL ds) = some (eL (ds.take k)) := sl_eLt (by omega)
  have ad : opAdd (eL (ds.drop k)) (eL (ds.take k)) = some (eL (ds.drop k ++ ds.take k)) := by
    unfold eL
    rw [p_appL, if_pos (by rw [List.length_map, List.length_map, List.length_drop, List.length_take]; omega), List.map_append]
  obtain ⟨e3, he3, p3, d3⟩ := any_value_m 10 (ds.drop k ++ ds.take k) 0 (by rw [List.length_append, List.length_drop, List.length_take]; omega) (by decide) (by decide)
  have he3 : m_law_any_value [eL (ds.drop k ++ ds.take k), .int 0] = some e3 := he3
  have l3 : opLst [e1, e2, e3] = some (.lst [e1, e2, e3]) := rfl
  have ap : opAdd (.lst vs) (.lst [e1, e2, e3]) = some (.lst (vs ++ [e1, e2, e3])) := appL_ok (by simp; omega)
  refine ⟨st (st (st ρ 8 (eL row)) 9 e1) 1 (.lst (vs ++ [e1, e2, e3])), ?_, (((Ag.refl _ ρ).st (by decide)).st (by decide)).st (by decide), vs ++ [e1, e2, e3], ?_, ?_, ?_⟩
  · simp only [m_k01_b1, bnd_some, bnd_none, p_dc, p_dv, lk_z, lk_s, st_z, st_s, un_z, un_s, wipe_n, wipe_c, p_d2, p_d1, p_dnil, p_dcons, p_dL, p_asB, p_asI, p_asL, p_asSeqL, p_asSeqT, p_bV, p_dB, p_bAnd, p_bOr, p_bNot, p_dIf, p_dAnd, p_dOr, p_dNot, p_dCh, p_bYes, p_gN, p_gT, p_gsNil, p_gsCons, p_dNx, p_dRet, p_dSet, p_dIfS, p_dAsg, p_dPar, p_dAug, p_dApp, p_dSetIx, p_nLst, p_nRep, p_nOf, p_dSetN, p_dParN1, p_dParNN, p_iSeq, p_iRng1, p_iRng2, p_oNo, p_oIx, p_dSl, p_asIx, p_opTup, p_opLst, p_lenT, p_lenL, p_lenS, p_tupT, p_tupL, p_add, p_sub, p_mul, p_lt, p_le, p_gt, p_ge, p_eqI, p_neI, p_isN, p_isnN, p_isB, p_isnB, p_isNone_n, p_isNone_i, p_isNone_t, p_isNone_l, p_appL, p_appT, b_mc, b_mn, b_ac, b_an, b_rs, b_rz, b_lc, b_ln, b_it, b_if, b_itt, b_iff, p_dSeq, p_eqB, p_neB, len_eT, len_eR, len_eV, isNone_eO, seq_eT, seq_eR, seq_eV, seq_eL, eO_some, eO_none, len_eL, p_dOrT, ↓p_eqN, ↓p_neN, ↓p_ltN, ↓p_leN, ↓p_gtN, ↓p_geN, Nat.zero_le, Nat.reduceLeDiff, Nat.reduceAdd, if_true, lk_st_o, lk_st_i, len_st, Nat.reduceBEq, Nat.reduceLT, hl, h3, h6, h7, hv, mu, a5, sm, he1, rv, he2, s1, s2, ad, he3, l3, ap]
  · exact lk_st_i (by rw [len_st, len_st, hl]; decide)
  · intro v hv
    rcases List.mem_append.mp hv with q | q
    · exact hok v q
    · simp only [List.mem_cons, List.not_mem_nil, or_false] at q
      rcases q with rfl | rfl | rfl
      · exact okV_iff.mpr ⟨g1.pl, by have := g1.dp; omega⟩
      · exact okV_iff.mpr ⟨g2.pl, by have := g2.dp; omega⟩
      · exact okV_iff.mpr ⟨p3, by omega⟩
  · simp
    omega
theorem k01_b2 {ρ : Rho} {v : D} (hv : okV v = true) (h : lk ρ 10 = some v) : m_k01_b2 ρ = some (.nx ρ) := by
  obtain ⟨h1, h2⟩ := okV_iff.mp hv
  have a := is_table_any v h1
  have b := law_is_table_any v h1 h2
  have c := same_bool_m (tabOk v) (tabOk v)
  simp only [m_k01_b2, bnd_some, bnd_none, p_dc, p_dv, lk_z, lk_s, st_z, st_s, un_z, un_s, wipe_n, wipe_c, p_d2, p_d1, p_dnil, p_dcons, p_dL, p_asB, p_asI, p_asL, p_asSeqL, p_asSeqT, p_bV, p_dB, p_bAnd, p_bOr, p_bNot, p_dIf, p_dAnd, p_dOr, p_dNot, p_dCh, p_bYes, p_gN, p_gT, p_gsNil, p_gsCons, p_dNx, p_dRet, p_dSet, p_dIfS, p_dAsg, p_dPar, p_dAug, p_dApp, p_dSetIx, p_nLst, p_nRep, p_nOf, p_dSetN, p_dParN1, p_dParNN, p_iSeq, p_iRng1, p_iRng2, p_oNo, p_oIx, p_dSl, p_asIx, p_opTup, p_opLst, p_lenT, p_lenL, p_lenS, p_tupT, p_tupL, p_add, p_sub, p_mul, p_lt, p_le, p_gt, p_ge, p_eqI, p_neI, p_isN, p_isnN, p_isB, p_isnB, p_isNone_n, p_isNone_i, p_isNone_t, p_isNone_l, p_appL, p_appT, b_mc, b_mn, b_ac, b_an, b_rs, b_rz, b_lc, b_ln, b_it, b_if, b_itt, b_iff, p_dSeq, p_eqB, p_neB, len_eT, len_eR, len_eV, isNone_eO, seq_eT, seq_eR, seq_eV, seq_eL, eO_some, eO_none, len_eL, p_dOrT, ↓p_eqN, ↓p_neN, ↓p_ltN, ↓p_leN, ↓p_gtN, ↓p_geN, Nat.zero_le, Nat.reduceLeDiff, Nat.reduceAdd, if_true, h, a, b, c, decide_true, Bool.not_true]
theorem k01_b3 {ns : List Int} (hns : ns.length ≤ 63) {ρ : Rho} {i n : Nat} (hl : ρ.length = 11) (hi : i < 4) (hn : n ≤ 900) (h0 : lk ρ 0 = some (.scr ns)) (h1 : VsP n ρ) (h2 : lk ρ 2 = some (.int (i : Int))) :
    ∃ ρ', m_k01_b3 ρ = some (.nx ρ') ∧ Ag [1, 2, 3, 4, 5, 6, 7, 8, 9, 10] ρ ρ' ∧ VsP (n + 24) ρ' := by
  obtain ⟨ds, dl, _, hds⟩ := digits_m hns (i := i) (count := 60) (base := 27720) (by omega) (by decide) (by decide) (by decide)
  have hds : m_law_digits [.scr ns, .int (i : Int), .int 60, .int 27720] = some (eL ds) := hds
  have d50 : opIx (eL ds) (.int 50) = some (.int (ds.getD 50 0)) := ix_eL (k := 50) (by omega)
  have d51 : opIx (eL ds) (.int 51) = some (.int (ds.getD 51 0)) := ix_eL (k := 51) (by omega)
  obtain ⟨m, m0, m5, em⟩ := size_m (ds.getD 50 0) 5 5 rfl (by decide) (by decide)
  obtain ⟨w, w0, w5, ew⟩ := size_m (ds.getD 51 0) 5 5 rfl (by decide) (by decide)
  obtain ⟨R, C, hR, hC, hnum⟩ := numbers_m (ds := ds) (by omega) m5 w5
  have bR : ∀ i, 0 < R i ∧ R i ≤ 1000000000 := fun i => by have := someL_pos (hR i); omega
  have bC : ∀ i, 0 < C i ∧ C i ≤ 1000000000 := fun i => by have := someL_pos (hC i); omega
  have tab := table_m (m := m) (w := w) (by omega) (by omega) bR bC
  have s20 : opSl (some 20) none (eL ds) = some (eL (ds.drop 20)) := sl_eL (k := 20) (by omega)
  obtain ⟨hid, hh⟩ := hidden_m (ds := ds.drop 20) (often := 4) (tab_lcm m0 w0 (by omega : m ≤ 100) (by omega : w ≤ 100) bR bC) (by rw [List.length_drop]; omega) (by decide)
  have hh : m_law_hidden [eT m w fun i j => some (Nat.lcm (R i) (C j)), eL (ds.drop 20), .int 4] = some (eT m w fun i j => if hid i j = true then none else some (Nat.lcm (R i) (C j))) := hh
  have gT := gd_eT m5 w5 (fun i j => if hid i j = true then none else some (Nat.lcm (R i) (C j)))
  generalize eT m w (fun i j => if hid i j = true then none else some (Nat.lcm (R i) (C j))) = T at hh gT
  generalize hρ : st (st (st (st ρ 3 (eL ds)) 4 (eV m R)) 5 (eV w C)) 6 T = ρ1
  have ll1 : ρ1.length = 11 := by rw [← hρ]; simp only [len_st, hl]
  have ag1 : Ag [1, 2, 3, 4, 5, 6, 7, 8, 9, 10] ρ ρ1 := by
    rw [← hρ]
    exact ((((Ag.refl _ ρ).st (by decide)).st (by decide)).st (by decide)).st (by decide)
  have a3 : lk ρ1 3 = some (eL ds) := by rw [← hρ]; simp only [lk_st_o, lk_st_i, len_st, Nat.reduceBEq, Nat.reduceLT, hl]
  have a6 : lk ρ1 6 = some T := by rw [← hρ]; simp only [lk_st_o, lk_st_i, len_st, Nat.reduceBEq, Nat.reduceLT, hl]
  have a1 : lk ρ1 1 = lk ρ 1 := by rw [← hρ]; simp only [lk_st_o, Nat.reduceBEq]
  have v0 : VsP n ρ1 := by
    obtain ⟨vs, x, y⟩ := h1
    exact ⟨vs, a1.trans x, y⟩
  obtain ⟨ρ2, q1, ag2, v2⟩ := for_agP (b := m_k01_b1) (i := 7) (n := 8) (ws := [1, 7, 8, 9]) (ρ := ρ1) (fun k : Nat => D.int k) (fun k ρ => VsP (n + 3 * k) ρ) (by decide) (by omega) v0
    (fun k ρ' d ⟨vs, x, y⟩ => ⟨vs, (lk_st_o (by rfl)).trans x, y⟩) (by
      intro k hk ρ' ag e v
      obtain ⟨ρ'', z1, z2, z3⟩ := k01_b1 (n := n + 3 * k) (by rw [ag.1, ll1]) dl gT hk (by omega) v (ag.lk 3 (by decide) a3) (ag.lk 6 (by decide) a6) e
      exact ⟨ρ'', z1, ag.trans z2, z3⟩)
  obtain ⟨vs, x, y, z⟩ := v2
  have l2 : ρ2.length = 11 := by rw [ag2.1, ll1]
  obtain ⟨ρ3, q2, ag3⟩ := for_agL (b := m_k01_b2) (i := 10) (ws := [10]) (ρ := ρ2) (fun d : D => d) (vs ++ [T]) (by decide) (by omega) (by
    intro v hv ρ' ag e
    refine ⟨ρ', k01_b2 ?_ e, ag⟩
    rcases List.mem_append.mp hv with q | q
    · exact y v q
    · rw [List.mem_singleton.mp q]
      exact okV_iff.mpr ⟨gT.pl, by have := gT.dp; omega⟩)
  rw [List.map_id'] at q2
  have r8 : opRng1 [.int 8] = some ((List.range 8).map fun i : Nat => D.int i) := rng1 (n := 8) (by decide)
  have f1 := (for_eq (it := iRng1 (dcons (dc (.int 8)) dnil)) (ρ := ρ1) (by simp only [bnd_some, bnd_none, p_dc, p_dv, lk_z, lk_s, st_z, st_s, un_z, un_s, wipe_n, wipe_c, p_d2, p_d1, p_dnil, p_dcons, p_dL, p_asB, p_asI, p_asL, p_asSeqL, p_asSeqT, p_bV, p_dB, p_bAnd, p_bOr, p_bNot, p_dIf, p_dAnd, p_dOr, p_dNot, p_dCh, p_bYes, p_gN, p_gT, p_gsNil, p_gsCons, p_dNx, p_dRet, p_dSet, p_dIfS, p_dAsg, p_dPar, p_dAug, p_dApp, p_dSetIx, p_nLst, p_nRep, p_nOf, p_dSetN, p_dParN1, p_dParNN, p_iSeq, p_iRng1, p_iRng2, p_oNo, p_oIx, p_dSl, p_asIx, p_opTup, p_opLst, p_lenT, p_lenL, p_lenS, p_tupT, p_tupL, p_add, p_sub, p_mul, p_lt, p_le, p_gt, p_ge, p_eqI, p_neI, p_isN, p_isnN, p_isB, p_isnB, p_isNone_n, p_isNone_i, p_isNone_t, p_isNone_l, p_appL, p_appT, b_mc, b_mn, b_ac, b_an, b_rs, b_rz, b_lc, b_ln, b_it, b_if, b_itt, b_iff, p_dSeq, p_eqB, p_neB, len_eT, len_eR, len_eV, isNone_eO, seq_eT, seq_eR, seq_eV, seq_eL, eO_some, eO_none, len_eL, p_dOrT, ↓p_eqN, ↓p_neN, ↓p_ltN, ↓p_leN, ↓p_gtN, ↓p_geN, Nat.zero_le, Nat.reduceLeDiff, Nat.reduceAdd, if_true, r8])).trans q1
  have l1 : opLst [T] = some (.lst [T]) := rfl
  have ap : opAdd (.lst vs) (.lst [T]) = some (.lst (vs ++ [T])) := appL_ok (by simp; omega)
  have a6' : lk ρ2 6 = some T := ag2.lk 6 (by decide) a6
  have f2 := (for_eq (it := iSeq (d2 opAdd (dv 1) (dL opLst (dcons (dv 6) dnil)))) (ρ := ρ2) (by simp only [bnd_some, bnd_none, p_dc, p_dv, lk_z, lk_s, st_z, st_s, un_z, un_s, wipe_n, wipe_c, p_d2, p_d1, p_dnil, p_dcons, p_dL, p_asB, p_asI, p_asL, p_asSeqL, p_asSeqT, p_bV, p_dB, p_bAnd, p_bOr, p_bNot, p_dIf, p_dAnd, p_dOr, p_dNot, p_dCh, p_bYes, p_gN, p_gT, p_gsNil, p_gsCons, p_dNx, p_dRet, p_dSet, p_dIfS, p_dAsg, p_dPar, p_dAug, p_dApp, p_dSetIx, p_nLst, p_nRep, p_nOf, p_dSetN, p_dParN1, p_dParNN, p_iSeq, p_iRng1, p_iRng2, p_oNo, p_oIx, p_dSl, p_asIx, p_opTup, p_opLst, p_lenT, p_lenL, p_lenS, p_tupT, p_tupL, p_add, p_sub, p_mul, p_lt, p_le, p_gt, p_ge, p_eqI, p_neI, p_isN, p_isnN, p_isB, p_isnB, p_isNone_n, p_isNone_i, p_isNone_t, p_isNone_l, p_appL, p_appT, b_mc, b_mn, b_ac, b_an, b_rs, b_rz, b_lc, b_ln, b_it, b_if, b_itt, b_iff, p_dSeq, p_eqB, p_neB, len_eT, len_eR, len_eV, isNone_eO, seq_eT, seq_eR, seq_eV, seq_eL, eO_some, eO_none, len_eL, p_dOrT, ↓p_eqN, ↓p_neN, ↓p_ltN, ↓p_leN, ↓p_gtN, ↓p_geN, Nat.zero_le, Nat.reduceLeDiff, Nat.reduceAdd, if_true, x, a6', l1, ap])).trans q2
  refine ⟨ρ3, ?_, (ag1.trans (ag2.mono (by decide))).trans (ag3.mono (by decide)), vs, ag3.lk 1 (by decide) x, y, z⟩
  simp only [m_k01_b3, bnd_some, bnd_none, p_dc, p_dv, lk_z, lk_s, st_z, st_s, un_z, un_s, wipe_n, wipe_c, p_d2, p_d1, p_dnil, p_dcons, p_dL, p_asB, p_asI, p_asL, p_asSeqL, p_asSeqT, p_bV, p_dB, p_bAnd, p_bOr, p_bNot, p_dIf, p_dAnd, p_dOr, p_dNot, p_dCh, p_bYes, p_gN, p_gT, p_gsNil, p_gsCons, p_dNx, p_dRet, p_dSet, p_dIfS, p_dAsg, p_dPar, p_dAug, p_dApp, p_dSetIx, p_nLst, p_nRep, p_nOf, p_dSetN, p_dParN1, p_dParNN, p_iSeq, p_iRng1, p_iRng2, p_oNo, p_oIx, p_dSl, p_asIx, p_opTup, p_opLst, p_lenT, p_lenL, p_lenS, p_tupT, p_tupL, p_add, p_sub, p_mul, p_lt, p_le, p_gt, p_ge, p_eqI, p_neI, p_isN, p_isnN, p_isB, p_isnB, p_isNone_n, p_isNone_i, p_isNone_t, p_isNone_l, p_appL, p_appT, b_mc, b_mn, b_ac, b_an, b_rs, b_rz, b_lc, b_ln, b_it, b_if, b_itt, b_iff, p_dSeq, p_eqB, p_neB, len_eT, len_eR, len_eV, isNone_eO, seq_eT, seq_eR, seq_eV, seq_eL, eO_some, eO_none, len_eL, p_dOrT, ↓p_eqN, ↓p_neN, ↓p_ltN, ↓p_leN, ↓p_gtN, ↓p_geN, Nat.zero_le, Nat.reduceLeDiff, Nat.reduceAdd, if_true, lk_st_o, lk_st_i, len_st, Nat.reduceBEq, Nat.reduceLT, hl, h0, h2, hds, d50, d51, em, ew, hnum, tab, s20, hh, hρ, f1, f2]
def k01_F1 : DF := (dL opLst (dcons (dL opTup dnil) (dcons (dL opTup (dcons (dL opTup dnil) dnil)) (dcons (dL opTup (dcons (dL opTup (dcons (dc (.int 1)) dnil)) dnil)) (dcons (dL opTup (dcons (dL opTup (dcons (dc (.int 1)) (dcons (dc (.int 2)) dnil))) (dcons (dL opTup (dcons (dc (.int 3)) dnil)) dnil))) (dcons (dL opTup (dcons (dL opTup (dcons (d2 opPow (dc (.int 10)) (dc (.int 6))) dnil)) dnil)) (dcons (dL opTup (dcons (dL opTup (dcons (d2 opAdd (d2 opPow (dc (.int 10)) (dc (.int 6))) (dc (.int 1))) dnil)) dnil)) (dcons (dL opTup (dcons (dL opTup (dcons (dc (.int 0)) dnil)) dnil)) (dcons (dL opTup (dcons (dL opTup (dcons (d1 opNeg (dc (.int 1))) dnil)) dnil)) (dcons (d2 opMul (dL opTup (dcons (dL opTup (dcons (dc (.int 1)) dnil)) dnil)) (dc (.int 5))) dnil))))))))))
def k01_F2 : DF := (dL opLst (dcons (d2 opMul (dL opTup (dcons (dL opTup (dcons (dc (.int 1)) dnil)) dnil)) (dc (.int 6))) (dcons (dL opTup (dcons (d2 opMul (dL opTup (dcons (dc (.int 1)) dnil)) (dc (.int 5))) dnil)) (dcons (dL opTup (dcons (d2 opMul (dL opTup (dcons (dc (.int 1)) dnil)) (dc (.int 6))) dnil)) (dcons (dL opLst (dcons (dL opLst (dcons (dc (.int 1)) dnil)) dnil)) (dcons (dL opTup (dcons (dL opLst (dcons (dc (.int 1)) dnil)) dnil)) (dcons (dL opTup (dcons (dL opTup (dcons (dc (.bl true)) dnil)) dnil)) (dcons (dL opTup (dcons (dL opTup (dcons (dc .non) dnil)) dnil)) dnil))))))))
def k01_F3 : DF := (dL opLst (dcons (dL opTup (dcons (dL opTup (dcons (dc (.int 1)) (dcons (dc .non) dnil))) (dcons (dL opTup (dcons (dc .non) (dcons (dc (.int 2)) dnil))) dnil))) (dcons (dc .non) (dcons (dc (.int 5)) (dcons (dL opTup (dcons (dL opTup (dcons (dc (.int 1)) (dcons (dc (.str "2")) dnil))) dnil)) (dcons (dL opTup (dcons (dL opTup (dcons (dc .non) (dcons (dc .non) dnil))) (dcons (dL opTup (dcons (dc .non) dnil)) dnil))) dnil))))))
def k01_R : DF := (dAnd (d2 opIs (dL m_is_table (dcons (dL opTup (dcons (dL opTup (dcons (dc (.int 12)) (dcons (dc .non) dnil))) (dcons (dL opTup (dcons (dc (.int 4)) (dcons (dc (.int 6)) dnil))) dnil))) dnil)) (dc (.bl true))) (d2 opIs (dL m_is_table (dcons (dL opTup (dcons (dL opTup (dcons (dc (.int 0)) dnil)) dnil)) dnil)) (dc (.bl false))))
def chkV : Option D → Bool
  | some (.lst vs) => vs.all okV && decide (vs.length ≤ 100)
  | _ => false
theorem chkV_some {x : Option D} (h : chkV x = true) : ∃ vs, x = some (.lst vs) ∧ (∀ v ∈ vs, okV v = true) ∧ vs.length ≤ 100 := by
  cases x with
  | none => cases h
  | some d =>
    cases d with
    | lst vs =>
      have h : (vs.all okV && decide (vs.length ≤ 100)) = true := h
      rw [Bool.and_eq_true, List.all_eq_true, decide_eq_true_eq] at h
      exact ⟨vs, rfl, h⟩
    | _ => cases h
theorem plain_k01 (ns : List Int) (h : ns.length ≤ 63) : m_k01 [.scr ns] = some (.bl true) := by
  obtain ⟨v1, e1, o1, l1⟩ := chkV_some (x := k01_F1 []) (by decide +kernel)
  obtain ⟨v2, e2, o2, l2⟩ := chkV_some (x := k01_F2 []) (by decide +kernel)
  obtain ⟨v3, e3, o3, l3⟩ := chkV_some (x := k01_F3 []) (by decide +kernel)
  have er : k01_R [] = some (.bl true) := sameO_eq (by decide +kernel)
  let ρ0 : Rho := some (.scr ns) :: List.replicate 10 none
  let ρ1 := st ρ0 1 (.lst v1)
  let ρ2 := st ρ1 1 (.lst (v1 ++ v2))
  let ρ3 := st ρ2 1 (.lst (v1 ++ v2 ++ v3))
  have s1 : dSet 1 k01_F1 ρ0 = some (.nx ρ1) := by
    have : k01_F1 ρ0 = some (.lst v1) := (show k01_F1 ρ0 = k01_F1 [] from rfl).trans e1
    show (k01_F1 ρ0).bind _ = _
    rw [this]
    rfl
  have s2 : dSet 1 (d2 opAdd (dv 1) k01_F2) ρ1 = some (.nx ρ2) := by
    have : k01_F2 ρ1 = some (.lst v2) := (show k01_F2 ρ1 = k01_F2 [] from rfl).trans e2
    have x : dv 1 ρ1 = some (.lst v1) := rfl
    have ap : opAdd (.lst v1) (.lst v2) = some (.lst (v1 ++ v2)) := appL_ok (by omega)
    rw [p_dSet, p_d2, x, this, bnd_some, bnd_some, ap]
    rfl
  have s3 : dSet 1 (d2 opAdd (dv 1) k01_F3) ρ2 = some (.nx ρ3) := by
    have : k01_F3 ρ2 = some (.lst v3) := (show k01_F3 ρ2 = k01_F3 [] from rfl).trans e3
    have x : dv 1 ρ2 = some (.lst (v1 ++ v2)) := rfl
    have ap : opAdd (.lst (v1 ++ v2)) (.lst v3) = some (.lst (v1 ++ v2 ++ v3)) := appL_ok (by rw [List.length_append]; omega)
    rw [p_dSet, p_d2, x, this, bnd_some, bnd_some, ap]
    rfl
  have v0 : VsP 300 ρ3 := ⟨v1 ++ v2 ++ v3, rfl, by
    intro v hv
    rcases List.mem_append.mp hv with q | q
    · rcases List.mem_append.mp q with q | q
      · exact o1 v q
      · exact o2 v q
    · exact o3 v q, by rw [List.length_append, List.length_append]; omega⟩
  obtain ⟨ρ', q1, _, _⟩ := for_agP (b := m_k01_b3) (i := 2) (n := 4) (ws := [1, 2, 3, 4, 5, 6, 7, 8, 9, 10]) (ρ := ρ3) (fun k : Nat => D.int k) (fun k ρ => VsP (300 + 24 * k) ρ) (by decide) (by show 2 < 11; decide) v0
    (fun k ρ' d ⟨vs, x, y⟩ => ⟨vs, (lk_st_o (by rfl)).trans x, y⟩) (by
      intro k hk ρ' ag e v
      obtain ⟨ρ'', z1, z2, z3⟩ := k01_b3 h (n := 300 + 24 * k) (by rw [ag.1]; rfl) hk (by omega) (ag.lk 0 (by decide) rfl) v e
      exact ⟨ρ'', z1, ag.trans z2, z3⟩)
  have f := (for_eq (it := iSeq (dL opTup (dcons (dc (.int 0)) (dcons (dc (.int 1)) (dcons (dc (.int 2)) (dcons (dc (.int 3)) dnil)))))) (ρ := ρ3) (ds := (List.range 4).map fun k : Nat => D.int k) rfl).trans q1
  have rt : dRet k01_R ρ' = some (.rt (.bl true)) := by
    have : k01_R ρ' = some (.bl true) := (show k01_R ρ' = k01_R [] from rfl).trans er
    rw [p_dRet, this]
    rfl
  refine run_rt rfl ?_
  exact (seq_nx s1).trans ((seq_nx s2).trans ((seq_nx s3).trans ((seq_nx f).trans rt)))
end Mi
namespace My
open PySem PySem.Spec PyProof.Rows L2 DL Mi
def topS (i : Nat) : Stmt := PySem.Challenge.pw_meetperiods_k01_tables.main.body.getD i (.Pass ⟨0, 0, 0, 0⟩)
abbrev s_is_integer : Stmt := topS 1
abbrev N_is_integer : List Str := ["value", "low", "high"]
theorem sc_is_integer : FnScope N_is_integer ["value", "low", "high"] (defScope s_is_integer) := ⟨rfl, rfl, rfl, by decide +kernel, rfl, by decide +kernel, by decide +kernel⟩
abbrev s_is_table : Stmt := topS 3
abbrev N_is_table : List Str := ["value", "row", "entry"]
theorem sc_is_table : FnScope N_is_table ["value"] (defScope s_is_table) := ⟨rfl, rfl, rfl, by decide +kernel, rfl, by decide +kernel, by decide +kernel⟩
abbrev s__law_cell : Stmt := topS 5
abbrev N__law_cell : List Str := ["script", "index"]
theorem sc__law_cell : FnScope N__law_cell ["script", "index"] (defScope s__law_cell) := ⟨rfl, rfl, rfl, by decide +kernel, rfl, by decide +kernel, by decide +kernel⟩
abbrev s__law_digits : Stmt := topS 6
abbrev N__law_digits : List Str := ["script", "index", "count", "base", "primes", "cell", "rest", "digits", "k", "mixed"]
theorem sc__law_digits : FnScope N__law_digits ["script", "index", "count", "base"] (defScope s__law_digits) := ⟨rfl, rfl, rfl, by decide +kernel, rfl, by decide +kernel, by decide +kernel⟩
abbrev s__law_is_integer : Stmt := topS 7
abbrev N__law_is_integer : List Str := ["value", "low", "high"]
theorem sc__law_is_integer : FnScope N__law_is_integer ["value", "low", "high"] (defScope s__law_is_integer) := ⟨rfl, rfl, rfl, by decide +kernel, rfl, by decide +kernel, by decide +kernel⟩
abbrev s__law_same_bool : Stmt := topS 8
abbrev N__law_same_bool : List Str := ["result", "expected"]
theorem sc__law_same_bool : FnScope N__law_same_bool ["result", "expected"] (defScope s__law_same_bool) := ⟨rfl, rfl, rfl, by decide +kernel, rfl, by decide +kernel, by decide +kernel⟩
abbrev s__law_paths : Stmt := topS 9
abbrev N__law_paths : List Str := ["value", "paths", "index", "part", "path"]
theorem sc__law_paths : FnScope N__law_paths ["value"] (defScope s__law_paths) := ⟨rfl, rfl, rfl, by decide +kernel, rfl, by decide +kernel, by decide +kernel⟩
abbrev s__law_other_value : Stmt := topS 10
abbrev N__law_other_value : List Str := ["value", "digits", "options"]
theorem sc__law_other_value : FnScope N__law_other_value ["value", "digits"] (defScope s__law_other_value) := ⟨rfl, rfl, rfl, by decide +kernel, rfl, by decide +kernel, by decide +kernel⟩
abbrev s__law_moved_item : Stmt := topS 11
abbrev N__law_moved_item : List Str := ["items", "index", "digits", "target", "rest"]
theorem sc__law_moved_item : FnScope N__law_moved_item ["items", "index", "digits"] (defScope s__law_moved_item) := ⟨rfl, rfl, rfl, by decide +kernel, rfl, by decide +kernel, by decide +kernel⟩
abbrev s__law_change_at : Stmt := topS 12
abbrev N__law_change_at : List Str := ["value", "path", "digits", "items"]
theorem sc__law_change_at : FnScope N__law_change_at ["value", "path", "digits"] (defScope s__law_change_at) := ⟨rfl, rfl, rfl, by decide +kernel, rfl, by decide +kernel, by decide +kernel⟩
abbrev s__law_mutated : Stmt := topS 13
abbrev N__law_mutated : List Str := ["value", "digits", "paths"]
theorem sc__law_mutated : FnScope N__law_mutated ["value", "digits"] (defScope s__law_mutated) := ⟨rfl, rfl, rfl, by decide +kernel, rfl, by decide +kernel, by decide +kernel⟩
abbrev s__law_any_value : Stmt := topS 14
abbrev N__law_any_value : List Str := ["digits", "depth", "choice", "number", "parts", "k"]
theorem sc__law_any_value : FnScope N__law_any_value ["digits", "depth"] (defScope s__law_any_value) := ⟨rfl, rfl, rfl, by decide +kernel, rfl, by decide +kernel, by decide +kernel⟩
abbrev s__law_gcd : Stmt := topS 15
abbrev N__law_gcd : List Str := ["one", "other"]
theorem sc__law_gcd : FnScope N__law_gcd ["one", "other"] (defScope s__law_gcd) := ⟨rfl, rfl, rfl, by decide +kernel, rfl, by decide +kernel, by decide +kernel⟩
abbrev s__law_lcm : Stmt := topS 16
abbrev N__law_lcm : List Str := ["one", "other"]
theorem sc__law_lcm : FnScope N__law_lcm ["one", "other"] (defScope s__law_lcm) := ⟨rfl, rfl, rfl, by decide +kernel, rfl, by decide +kernel, by decide +kernel⟩
abbrev s__law_numbers : Stmt := topS 17
abbrev N__law_numbers : List Str := ["digits", "many", "wide", "some", "size", "rows", "k"]
theorem sc__law_numbers : FnScope N__law_numbers ["digits", "many", "wide"] (defScope s__law_numbers) := ⟨rfl, rfl, rfl, by decide +kernel, rfl, by decide +kernel, by decide +kernel⟩
abbrev s__law_table : Stmt := topS 18
abbrev N__law_table : List Str := ["rows", "columns", "one", "other"]
theorem sc__law_table : FnScope N__law_table ["rows", "columns"] (defScope s__law_table) := ⟨rfl, rfl, rfl, by decide +kernel, rfl, by decide +kernel, by decide +kernel⟩
abbrev s__law_hidden : Stmt := topS 19
abbrev N__law_hidden : List Str := ["table", "digits", "often", "rows", "k", "row", "line", "entry"]
theorem sc__law_hidden : FnScope N__law_hidden ["table", "digits", "often"] (defScope s__law_hidden) := ⟨rfl, rfl, rfl, by decide +kernel, rfl, by decide +kernel, by decide +kernel⟩
abbrev s__law_is_table : Stmt := topS 20
abbrev N__law_is_table : List Str := ["value", "row", "entry"]
theorem sc__law_is_table : FnScope N__law_is_table ["value"] (defScope s__law_is_table) := ⟨rfl, rfl, rfl, by decide +kernel, rfl, by decide +kernel, by decide +kernel⟩
abbrev s_law : Stmt := topS 21
abbrev N_law : List Str := ["script", "values", "index", "digits", "rows", "columns", "table", "k", "row", "one", "value"]
theorem sc_law : FnScope N_law ["script"] (defScope s_law) := ⟨rfl, rfl, rfl, by decide +kernel, rfl, by decide +kernel, by decide +kernel⟩
structure Bi (mg : Str → Option Value) : Prop where
  all_ : mg "all" = none
  bool_ : mg "bool" = none
  enumerate_ : mg "enumerate" = none
  int_ : mg "int" = none
  isinstance_ : mg "isinstance" = none
  len_ : mg "len" = none
  list_ : mg "list" = none
  range_ : mg "range" = none
  set_ : mg "set" = none
  sorted_ : mg "sorted" = none
  tuple_ : mg "tuple" = none
section
variable {P : Program} {w : World} {K : PySem.W.Frag} {mg : Str → Option Value} {base : Heap} {C : Addr}
theorem ok_is_integer {f : Addr} {fd : FuncData} (F : Fun K "is_integer" "is_integer" s_is_integer f fd) (B : Bi mg) : FnOk P w K mg base CX0 1 f fd ["value", "low", "high"] (spD K C m_is_integer) :=
  have nd := sc_is_integer.nd
  fnD (k := 0) F sc_is_integer (by decide) fun cdv A outer s H E hr =>
    (dss_one (ds_ret (de_and (de_isi (T := "int") (by simp) (de_var 0) (by rfl) B.isinstance_ (by rfl) B.int_ bt_int) (de_and (de_not (de_isi (T := "bool") (by simp) (de_var 0) (by rfl) B.isinstance_ (by rfl) B.bool_ bt_bool)) (de_one (de_chain od_le od_le (de_var 1) (de_var 0) (de_var 2)))))))
theorem ok_is_table {f : Addr} {fd : FuncData} (F : Fun K "is_table" "is_table" s_is_table f fd) (B : Bi mg) (c_is_integer : Cal P w K mg base C 1 "is_integer" ["value", "low", "high"] m_is_integer) : FnOk P w K mg base CX0 2 f fd ["value"] (spD K C m_is_table) :=
  have nd := sc_is_table.nd
  fnD (k := 1) F sc_is_table (by decide) fun cdv A outer s H E hr =>
    (dss_cons (ds_if (dt_w (dw_or (dt_not (dt_val (de_isi (T := "tuple") (by simp) (de_var 0) (by rfl) B.isinstance_ (by rfl) B.tuple_ bt_tuple))) (dw_or1 (dt_not (dt_chain od_le od_le de_int (de_callB cd_len (by rfl) B.len_ bt_len (da_cons (de_var 0) da_nil)) de_int))))) (dss_one (ds_ret de_bl)) dss_nil)
      (dss_cons (ds_if (dt_not (dt_val (de_callB (cd_all rfl) (by rfl) B.all_ bt_all (da_cons (de_comp (own := [("row", 1)]) rfl nd (di_seq (de_var 0)) (blkOk_by (N := N_is_table) (sc := defScope s_is_table) (by decide +kernel)) (fun _ _ _ _ _ => (dg_name 1 nd)) (fun _ _ _ _ _ => dts_nil) (fun _ _ _ _ _ => (de_and (de_isi (T := "tuple") (by simp) (de_var 1) (by rfl) B.isinstance_ (by rfl) B.tuple_ bt_tuple) (de_one (de_chain od_le od_le de_int (de_callB cd_len (by rfl) B.len_ bt_len (da_cons (de_var 1) da_nil)) de_int))))) da_nil)))) (dss_one (ds_ret de_bl)) dss_nil)
      (dss_cons (ds_if (dt_cmp (od_ne hr.units) (de_callB cd_len (by rfl) B.len_ bt_len (da_cons (de_sset rfl (by rfl) B.sorted_ (by rfl) B.set_ (de_comp (own := [("row", 1)]) rfl nd (di_seq (de_var 0)) (blkOk_by (N := N_is_table) (sc := defScope s_is_table) (by decide +kernel)) (fun _ _ _ _ _ => (dg_name 1 nd)) (fun _ _ _ _ _ => dts_nil) (fun _ _ _ _ _ => (de_callB cd_len (by rfl) B.len_ bt_len (da_cons (de_var 1) da_nil))))) da_nil)) de_int) (dss_one (ds_ret de_bl)) dss_nil)
      (dss_one (ds_ret (de_callB (cd_all rfl) (by rfl) B.all_ bt_all (da_cons (de_comp2 (own := [("row", 1), ("entry", 2)]) (vs1 := [2]) rfl nd (di_seq (de_var 0)) (blkOk_by (N := N_is_table) (sc := defScope s_is_table) (by decide +kernel)) (fun _ _ _ _ _ => (dg_name 1 nd)) (fun _ _ _ _ _ => (di_seq (de_var 1))) (fun _ _ _ _ _ => (dg_name 2 nd)) (fun _ _ _ _ _ => dts_nil) (fun _ _ _ _ _ => (de_or (de_cmp od_is (de_var 2) de_non) (de_one (de_call c_is_integer hr (by rfl) (da_cons (de_var 2) (da_cons de_int (da_cons (de_op od_pow de_int de_int) da_nil)))))))) da_nil)))))))
theorem ok__law_cell {f : Addr} {fd : FuncData} (F : Fun K "_law_cell" "_law_cell" s__law_cell f fd) (B : Bi mg) : FnOk P w K mg base CX0 1 f fd ["script", "index"] (spD K C m_law_cell) :=
  have nd := sc__law_cell.nd
  fnD (k := 0) F sc__law_cell (by decide) fun cdv A outer s H E hr =>
    (dss_cons (ds_if (dt_cmp (od_lt hr.units0) (de_var 1) (de_callB cd_len (by rfl) B.len_ bt_len (da_cons (de_var 0) da_nil))) (dss_one (ds_ret (de_ix ix_d (de_var 0) (de_var 1)))) dss_nil)
      (dss_cons (ds_if (dt_cmp (od_eq hr.units) (de_callB cd_len (by rfl) B.len_ bt_len (da_cons (de_var 0) da_nil)) de_int) (dss_one (ds_ret (de_op od_add (de_op od_mul de_int (de_var 1)) de_int))) dss_nil)
      (dss_one (ds_ret (de_op od_add (de_op od_mod (de_ix ix_d (de_var 0) (de_op od_mod (de_var 1) (de_callB cd_len (by rfl) B.len_ bt_len (da_cons (de_var 0) da_nil)))) de_int) (de_op od_mul de_int (de_var 1)))))))
theorem ok__law_digits {f : Addr} {fd : FuncData} (F : Fun K "_law_digits" "_law_digits" s__law_digits f fd) (B : Bi mg) (c__law_cell : Cal P w K mg base C 1 "_law_cell" ["script", "index"] m_law_cell) : FnOk P w K mg base CX0 2 f fd ["script", "index", "count", "base"] (spD K C m_law_digits) :=
  have nd := sc__law_digits.nd
  fnD (k := 1) F sc__law_digits (by decide) fun cdv A outer s H E hr =>
    (dss_cons (ds_set 4 nd (de_tup (da_cons de_int (da_cons de_int (da_cons de_int (da_cons de_int (da_cons de_int (da_cons de_int (da_cons de_int (da_cons de_int da_nil))))))))))
      (dss_cons (ds_set 5 nd (de_call c__law_cell hr (by rfl) (da_cons (de_var 0) (da_cons (de_var 1) da_nil))))
      (dss_cons (ds_set 6 nd (de_if (dt_cmp od_ge (de_var 5) (de_op od_pow de_int de_int)) (de_var 5) de_int))
      (dss_cons (ds_setN 7 nd (dn_lst da_nil))
      (dss_cons (ds_for PassesOwn.never rfl (di_rng1 (by rfl) B.range_ (da_cons (de_var 2) da_nil)) (dg_name 8 nd) (dss_cons (ds_set 9 nd (de_op od_mul (de_op od_mod (de_var 5) (de_ix ix_d (de_var 4) (de_op od_mod (de_var 8) de_int))) (de_op od_add de_int (de_op od_mul (de_op od_mul de_int (de_var 8)) (de_var 8)))))
      (dss_cons (ds_set 9 nd (de_op od_add (de_op od_add (de_var 9) (de_op od_mul (de_op od_mul de_int (de_op od_add (de_var 8) de_int)) (de_op od_add (de_var 8) de_int))) (de_op od_mul de_int (de_var 1))))
      (dss_cons (ds_set 9 nd (de_op od_mod (de_var 9) (de_ix ix_d (de_var 4) (de_op od_mod (de_op od_add (de_op od_mul de_int (de_var 8)) (de_var 1)) de_int))))
      (dss_cons (ds_set 9 nd (de_op od_mod (de_op od_mul (de_op od_mul (de_var 9) (de_var 9)) (de_var 9)) (de_ix ix_d (de_var 4) (de_op od_mod (de_op od_add (de_var 8) de_int) de_int))))
      (dss_cons (ds_if (dt_cmp (od_gt hr.units0) (de_var 6) de_int) (dss_one (ds_set 9 nd (de_var 6))) dss_nil)
      (dss_cons (ds_app 7 (de_op od_mod (de_var 9) (de_var 3)))
      (dss_one (ds_set 6 nd (de_op od_fdiv (de_var 6) (de_var 3)))))))))))
      (dss_one (ds_frz (O1 := []) 7 (ds_ret (de_var 7)))))))))
theorem ok__law_is_integer {f : Addr} {fd : FuncData} (F : Fun K "_law_is_integer" "_law_is_integer" s__law_is_integer f fd) (B : Bi mg) : FnOk P w K mg base CX0 1 f fd ["value", "low", "high"] (spD K C m_law_is_integer) :=
  have nd := sc__law_is_integer.nd
  fnD (k := 0) F sc__law_is_integer (by decide) fun cdv A outer s H E hr =>
    (dss_one (ds_ret (de_and (de_isi (T := "int") (by simp) (de_var 0) (by rfl) B.isinstance_ (by rfl) B.int_ bt_int) (de_and (de_not (de_isi (T := "bool") (by simp) (de_var 0) (by rfl) B.isinstance_ (by rfl) B.bool_ bt_bool)) (de_one (de_chain od_le od_le (de_var 1) (de_var 0) (de_var 2)))))))
theorem ok__law_same_bool {f : Addr} {fd : FuncData} (F : Fun K "_law_same_bool" "_law_same_bool" s__law_same_bool f fd) (B : Bi mg) : FnOk P w K mg base CX0 1 f fd ["result", "expected"] (spD K C m_law_same_bool) :=
  have nd := sc__law_same_bool.nd
  fnD (k := 0) F sc__law_same_bool (by decide) fun cdv A outer s H E hr =>
    (dss_one (ds_ret (de_and (de_isi (T := "bool") (by simp) (de_var 0) (by rfl) B.isinstance_ (by rfl) B.bool_ bt_bool) (de_one (de_cmp (od_eq hr.units) (de_var 0) (de_var 1))))))
theorem okn__law_paths {f : Addr} {fd : FuncData} (F : Fun K "_law_paths" "_law_paths" s__law_paths f fd) (B : Bi mg) (hmg : mg "_law_paths" = some (.ref f)) (hbi : Binds K fd ["value"] []) : ∀ n : Nat, FnOk P w K mg base CX0 (n + 1) f fd ["value"] (spD K C (m_law_paths_n n))
  | 0 => fn_none
  | n + 1 =>
    have c_rec : Cal P w K mg base C (n + 1) "_law_paths" ["value"] (m_law_paths_n n) := ⟨⟨f, fd, okn__law_paths F B  hmg hbi n, hmg, F.kp, hbi⟩⟩
    have nd := sc__law_paths.nd
    FnOk.mono (fnD (k := n + 1) F sc__law_paths (by decide) fun cdv A outer s H E hr =>
    (dss_cons (ds_set 1 nd (de_lst (da_cons (de_tup da_nil) da_nil)))
      (dss_cons (ds_if (dt_val (de_isiLT (de_var 0) (by rfl) B.isinstance_ (by rfl) B.list_ (by rfl) B.tuple_)) (dss_one (ds_for PassesOwn.never rfl (di_enum (by rfl) B.enumerate_ (da_cons (de_var 0) da_nil)) (dg_tup rfl (dg_cons (dg_name 2 nd) (dg_cons (dg_name 3 nd) dg_nil)) (gl1 (gl1 gl0))) (dss_one (ds_set 1 nd (de_op od_add (de_var 1) (de_comp (own := [("path", 4)]) rfl nd (di_seq (de_call c_rec hr (by rfl) (da_cons (de_var 3) da_nil) (hk := Nat.le_refl _))) (blkOk_by (N := N__law_paths) (sc := defScope s__law_paths) (by decide +kernel)) (fun _ _ _ _ _ => (dg_name 4 nd)) (fun _ _ _ _ _ => dts_nil) (fun _ _ _ _ _ => (de_op od_add (de_tup (da_cons (de_var 2) da_nil)) (de_var 4))))))))) dss_nil)
      (dss_one (ds_ret (de_var 1)))))) (by omega)
theorem ok__law_paths {f : Addr} {fd : FuncData} (F : Fun K "_law_paths" "_law_paths" s__law_paths f fd) (B : Bi mg) (hmg : mg "_law_paths" = some (.ref f)) (hbi : Binds K fd ["value"] []) : FnOk P w K mg base CX0 11 f fd ["value"] (spD K C m_law_paths) := okn__law_paths F B  hmg hbi 10
theorem ok__law_other_value {f : Addr} {fd : FuncData} (F : Fun K "_law_other_value" "_law_other_value" s__law_other_value f fd) (B : Bi mg) : FnOk P w K mg base CX0 1 f fd ["value", "digits"] (spD K C m_law_other_value) :=
  have nd := sc__law_other_value.nd
  fnD (k := 0) F sc__law_other_value (by decide) fun cdv A outer s H E hr =>
    (dss_cons (ds_set 2 nd (de_lst (da_cons de_non (da_cons de_bl (da_cons de_bl (da_cons de_int (da_cons (de_op od_sub de_int de_int) (da_cons (de_op od_pow de_int de_int) (da_cons de_str (da_cons de_str (da_cons (de_tup da_nil) (da_cons (de_lst da_nil) (da_cons (de_tup (da_cons (de_var 0) da_nil)) (da_cons (de_lst (da_cons (de_var 0) da_nil)) (da_cons (de_tup (da_cons de_int da_nil)) (da_cons (de_tup (da_cons de_int (da_cons de_int da_nil))) (da_cons de_int (da_cons de_int da_nil))))))))))))))))))
      (dss_cons (ds_if (dt_w (dw_and (dt_val (de_isi (T := "int") (by simp) (de_var 0) (by rfl) B.isinstance_ (by rfl) B.int_ bt_int)) (dw_and1 (dt_not (dt_val (de_isi (T := "bool") (by simp) (de_var 0) (by rfl) B.isinstance_ (by rfl) B.bool_ bt_bool)))))) (dss_one (ds_set 2 nd (de_op od_add (de_lst (da_cons (de_op od_add (de_var 0) de_int) (da_cons (de_op od_sub (de_var 0) de_int) (da_cons (de_callTy cd_bool (by rfl) B.bool_ bt_bool (da_cons (de_var 0) da_nil)) (da_cons (de_op od_add (de_var 0) de_int) (da_cons (de_op od_sub (de_var 0) de_int) (da_cons (de_callTy cd_bool (by rfl) B.bool_ bt_bool (da_cons (de_var 0) da_nil)) da_nil))))))) (de_var 2)))) dss_nil)
      (dss_cons (ds_if (dt_val (de_isiLT (de_var 0) (by rfl) B.isinstance_ (by rfl) B.list_ (by rfl) B.tuple_)) (dss_one (ds_set 2 nd (de_op od_add (de_lst (da_cons (de_callTy cd_list (by rfl) B.list_ bt_list (da_cons (de_var 0) da_nil)) (da_cons (de_callTy cd_tuple (by rfl) B.tuple_ bt_tuple (da_cons (de_var 0) da_nil)) (da_cons (de_callTy cd_tuple (by rfl) B.tuple_ bt_tuple (da_cons (de_rev (de_var 0)) da_nil)) (da_cons (de_callTy cd_list (by rfl) B.list_ bt_list (da_cons (de_var 0) da_nil)) da_nil))))) (de_var 2)))) dss_nil)
      (dss_one (ds_ret (de_ix ix_d (de_var 2) (de_op od_mod (de_ix ix_d (de_var 1) de_int) (de_callB cd_len (by rfl) B.len_ bt_len (da_cons (de_var 2) da_nil)))))))))
theorem ok__law_moved_item {f : Addr} {fd : FuncData} (F : Fun K "_law_moved_item" "_law_moved_item" s__law_moved_item f fd) (B : Bi mg) : FnOk P w K mg base CX0 1 f fd ["items", "index", "digits"] (spD K C m_law_moved_item) :=
  have nd := sc__law_moved_item.nd
  fnD (k := 0) F sc__law_moved_item (by decide) fun cdv A outer s H E hr =>
    (dss_cons (ds_set 3 nd (de_op od_mod (de_ix ix_d (de_var 2) de_int) (de_callB cd_len (by rfl) B.len_ bt_len (da_cons (de_var 0) da_nil))))
      (dss_cons (ds_if (dt_cmp (od_eq hr.units) (de_op od_mod (de_ix ix_d (de_var 2) de_int) de_int) de_int) (dss_one (ds_ret (de_op od_add (de_slice (de_var 0) do_no (do_ix (de_var 1))) (de_slice (de_var 0) (do_ix (de_op od_add (de_var 1) de_int)) do_no)))) dss_nil)
      (dss_cons (ds_if (dt_cmp (od_eq hr.units) (de_op od_mod (de_ix ix_d (de_var 2) de_int) de_int) de_int) (dss_one (ds_ret (de_op od_add (de_op od_add (de_slice (de_var 0) do_no (do_ix (de_var 3))) (de_lst (da_cons (de_ix ix_d (de_var 0) (de_var 1)) da_nil))) (de_slice (de_var 0) (do_ix (de_var 3)) do_no)))) dss_nil)
      (dss_cons (ds_set 4 nd (de_op od_add (de_slice (de_var 0) do_no (do_ix (de_var 1))) (de_slice (de_var 0) (do_ix (de_op od_add (de_var 1) de_int)) do_no)))
      (dss_one (ds_ret (de_op od_add (de_op od_add (de_slice (de_var 4) do_no (do_ix (de_var 3))) (de_lst (da_cons (de_ix ix_d (de_var 0) (de_var 1)) da_nil))) (de_slice (de_var 4) (do_ix (de_var 3)) do_no))))))))
theorem okn__law_change_at {f : Addr} {fd : FuncData} (F : Fun K "_law_change_at" "_law_change_at" s__law_change_at f fd) (B : Bi mg) (c__law_moved_item : Cal P w K mg base C 1 "_law_moved_item" ["items", "index", "digits"] m_law_moved_item) (c__law_other_value : Cal P w K mg base C 1 "_law_other_value" ["value", "digits"] m_law_other_value) (hmg : mg "_law_change_at" = some (.ref f)) (hbi : Binds K fd ["value", "path", "digits"] []) : ∀ n : Nat, FnOk P w K mg base CX0 (n + 2) f fd ["value", "path", "digits"] (spD K C (m_law_change_at_n n))
  | 0 => fn_none
  | n + 1 =>
    have c_rec : Cal P w K mg base C (n + 2) "_law_change_at" ["value", "path", "digits"] (m_law_change_at_n n) := ⟨⟨f, fd, okn__law_change_at F B c__law_moved_item c__law_other_value hmg hbi n, hmg, F.kp, hbi⟩⟩
    have nd := sc__law_change_at.nd
    FnOk.mono (fnD (k := n + 2) F sc__law_change_at (by decide) fun cdv A outer s H E hr =>
    (dss_cons (ds_if (dt_cmp (od_eq hr.units) (de_var 1) (de_tup da_nil)) (dss_one (ds_ret (de_call c__law_other_value hr (by rfl) (da_cons (de_var 0) (da_cons (de_var 2) da_nil)) (hk := by omega)))) dss_nil)
      (dss_cons (ds_setN 3 nd (dn_of (by rfl) B.list_ (de_var 0)))
      (dss_cons (ds_if (dt_w (dw_and (dt_cmp (od_eq hr.units) (de_callB cd_len (by rfl) B.len_ bt_len (da_cons (de_var 1) da_nil)) de_int) (dw_and1 (dt_cmp (od_eq hr.units) (de_op od_mod (de_ix ix_d (de_var 2) de_int) de_int) de_int)))) (dss_one (ds_frz (O1 := []) 3 (ds_set 3 nd (de_call c__law_moved_item hr (by rfl) (da_cons (de_var 3) (da_cons (de_ix ix_d (de_var 1) de_int) (da_cons (de_var 2) da_nil))) (hk := by omega))))) (dss_thaw (O1 := [3]) (O' := []) 3 (dss_one (ds_setIx 3 (de_call c_rec hr (by rfl) (da_cons (de_ownIx 3 (de_ix ix_d (de_var 1) de_int)) (da_cons (de_slice (de_var 1) (do_ix de_int) do_no) (da_cons (de_var 2) da_nil))) (hk := Nat.le_refl _)) (de_ix ix_d (de_var 1) de_int)))))
      (dss_one (ds_ret (de_if (dt_val (de_isi (T := "list") (by simp) (de_var 0) (by rfl) B.isinstance_ (by rfl) B.list_ bt_list)) (de_var 3) (de_callTy cd_tuple (by rfl) B.tuple_ bt_tuple (da_cons (de_var 3) da_nil))))))))) (by omega)
theorem ok__law_change_at {f : Addr} {fd : FuncData} (F : Fun K "_law_change_at" "_law_change_at" s__law_change_at f fd) (B : Bi mg) (c__law_moved_item : Cal P w K mg base C 1 "_law_moved_item" ["items", "index", "digits"] m_law_moved_item) (c__law_other_value : Cal P w K mg base C 1 "_law_other_value" ["value", "digits"] m_law_other_value) (hmg : mg "_law_change_at" = some (.ref f)) (hbi : Binds K fd ["value", "path", "digits"] []) : FnOk P w K mg base CX0 12 f fd ["value", "path", "digits"] (spD K C m_law_change_at) := okn__law_change_at F B c__law_moved_item c__law_other_value hmg hbi 10
theorem ok__law_mutated {f : Addr} {fd : FuncData} (F : Fun K "_law_mutated" "_law_mutated" s__law_mutated f fd) (B : Bi mg) (c__law_change_at : Cal P w K mg base C 12 "_law_change_at" ["value", "path", "digits"] m_law_change_at) (c__law_paths : Cal P w K mg base C 11 "_law_paths" ["value"] m_law_paths) : FnOk P w K mg base CX0 13 f fd ["value", "digits"] (spD K C m_law_mutated) :=
  have nd := sc__law_mutated.nd
  fnD (k := 12) F sc__law_mutated (by decide) fun cdv A outer s H E hr =>
    (dss_cons (ds_set 2 nd (de_call c__law_paths hr (by rfl) (da_cons (de_var 0) da_nil)))
      (dss_one (ds_ret (de_call c__law_change_at hr (by rfl) (da_cons (de_var 0) (da_cons (de_ix ix_d (de_var 2) (de_op od_mod (de_ix ix_d (de_var 1) de_int) (de_callB cd_len (by rfl) B.len_ bt_len (da_cons (de_var 2) da_nil)))) (da_cons (de_var 1) da_nil)))))))
theorem okn__law_any_value {f : Addr} {fd : FuncData} (F : Fun K "_law_any_value" "_law_any_value" s__law_any_value f fd) (B : Bi mg) (hmg : mg "_law_any_value" = some (.ref f)) (hbi : Binds K fd ["digits", "depth"] []) : ∀ n : Nat, FnOk P w K mg base CX0 (n + 1) f fd ["digits", "depth"] (spD K C (m_law_any_value_n n))
  | 0 => fn_none
  | n + 1 =>
    have c_rec : Cal P w K mg base C (n + 1) "_law_any_value" ["digits", "depth"] (m_law_any_value_n n) := ⟨⟨f, fd, okn__law_any_value F B  hmg hbi n, hmg, F.kp, hbi⟩⟩
    have nd := sc__law_any_value.nd
    FnOk.mono (fnD (k := n + 1) F sc__law_any_value (by decide) fun cdv A outer s H E hr =>
    (dss_cons (ds_set 2 nd (de_op od_mod (de_ix ix_d (de_var 0) (de_var 1)) de_int))
      (dss_cons (ds_set 3 nd (de_ix ix_d (de_lst (da_cons (de_op od_sub (de_op od_mod (de_ix ix_d (de_var 0) (de_op od_add (de_var 1) de_int)) de_int) de_int) (da_cons (de_op od_sub de_int (de_op od_pow de_int de_int)) (da_cons (de_op od_pow de_int de_int) da_nil)))) (de_op od_mod (de_ix ix_d (de_var 0) (de_op od_add (de_var 1) de_int)) de_int)))
      (dss_cons (ds_if (dt_w (dw_or (dt_cmp (od_lt hr.units0) (de_var 2) de_int) (dw_or1 (dt_cmp (od_gt hr.units0) (de_var 1) de_int)))) (dss_one (ds_ret (de_var 3))) dss_nil)
      (dss_cons (ds_if (dt_cmp (od_lt hr.units0) (de_var 2) de_int) (dss_one (ds_ret (de_ix ix_d (de_lst (da_cons de_bl (da_cons de_bl (da_cons de_non da_nil)))) (de_op od_sub (de_var 2) de_int)))) dss_nil)
      (dss_cons (ds_if (dt_cmp (od_lt hr.units0) (de_var 2) de_int) (dss_one (ds_ret (de_ix ix_d (de_lst (da_cons de_str (da_cons de_str (da_cons de_str (da_cons de_str (da_cons de_str (da_cons de_str (da_cons de_str (da_cons de_str da_nil))))))))) (de_op od_mod (de_ix ix_d (de_var 0) (de_op od_add (de_var 1) de_int)) de_int)))) dss_nil)
      (dss_cons (ds_setLc 4 (own := [("k", 5)]) rfl nd (di_rng1 (by rfl) B.range_ (da_cons (de_op od_mod (de_ix ix_d (de_var 0) (de_op od_add (de_var 1) de_int)) de_int) da_nil)) (blkOk_by (N := N__law_any_value) (sc := defScope s__law_any_value) (by decide +kernel)) (fun _ _ _ _ _ => (dg_name 5 nd)) (fun _ _ _ _ _ => dts_nil) (fun _ _ _ _ _ => (de_call c_rec hr (by rfl) (da_cons (de_op od_add (de_slice (de_var 0) (do_ix (de_var 5)) do_no) (de_slice (de_var 0) do_no (do_ix (de_var 5)))) (da_cons (de_op od_add (de_var 1) de_int) da_nil)) (hk := Nat.le_refl _))))
      (dss_one (ds_ret (de_if (dt_cmp (od_eq hr.units) (de_var 2) de_int) (de_var 4) (de_callTy cd_tuple (by rfl) B.tuple_ bt_tuple (da_cons (de_var 4) da_nil)))))))))))) (by omega)
theorem ok__law_any_value {f : Addr} {fd : FuncData} (F : Fun K "_law_any_value" "_law_any_value" s__law_any_value f fd) (B : Bi mg) (hmg : mg "_law_any_value" = some (.ref f)) (hbi : Binds K fd ["digits", "depth"] []) : FnOk P w K mg base CX0 11 f fd ["digits", "depth"] (spD K C m_law_any_value) := okn__law_any_value F B  hmg hbi 10
theorem ok__law_gcd {f : Addr} {fd : FuncData} (F : Fun K "_law_gcd" "_law_gcd" s__law_gcd f fd) (B : Bi mg) : FnOk P w K mg base CX0 1 f fd ["one", "other"] (spD K C m_law_gcd) :=
  have nd := sc__law_gcd.nd
  fnD (k := 0) F sc__law_gcd (by decide) fun cdv A outer s H E hr =>
    (dss_cons (ds_while PassesOwn.never (dt_cmp (od_gt hr.units0) (de_var 1) de_int) (dss_one (ds_par 0 1 rfl nd (de_var 1) (de_op od_mod (de_var 0) (de_var 1)))))
      (dss_one (ds_ret (de_var 0))))
theorem ok__law_lcm {f : Addr} {fd : FuncData} (F : Fun K "_law_lcm" "_law_lcm" s__law_lcm f fd) (B : Bi mg) (c__law_gcd : Cal P w K mg base C 1 "_law_gcd" ["one", "other"] m_law_gcd) : FnOk P w K mg base CX0 2 f fd ["one", "other"] (spD K C m_law_lcm) :=
  have nd := sc__law_lcm.nd
  fnD (k := 1) F sc__law_lcm (by decide) fun cdv A outer s H E hr =>
    (dss_one (ds_ret (de_op od_fdiv (de_op od_mul (de_var 0) (de_var 1)) (de_call c__law_gcd hr (by rfl) (da_cons (de_var 0) (da_cons (de_var 1) da_nil))))))
theorem ok__law_numbers {f : Addr} {fd : FuncData} (F : Fun K "_law_numbers" "_law_numbers" s__law_numbers f fd) (B : Bi mg) : FnOk P w K mg base CX0 1 f fd ["digits", "many", "wide"] (spD K C m_law_numbers) :=
  have nd := sc__law_numbers.nd
  fnD (k := 0) F sc__law_numbers (by decide) fun cdv A outer s H E hr =>
    (dss_cons (ds_set 3 nd (de_lst (da_cons de_int (da_cons de_int (da_cons de_int (da_cons de_int (da_cons de_int (da_cons de_int (da_cons de_int (da_cons de_int (da_cons de_int (da_cons de_int (da_cons de_int (da_cons de_int da_nil))))))))))))))
      (dss_cons (ds_set 4 nd (de_ix ix_d (de_lst (da_cons de_int (da_cons de_int (da_cons de_int da_nil)))) (de_op od_mod (de_ix ix_d (de_var 0) de_int) de_int)))
      (dss_cons (ds_set 5 nd (de_callTy cd_tuple (by rfl) B.tuple_ bt_tuple (da_cons (de_comp (own := [("k", 6)]) rfl nd (di_rng1 (by rfl) B.range_ (da_cons (de_var 1) da_nil)) (blkOk_by (N := N__law_numbers) (sc := defScope s__law_numbers) (by decide +kernel)) (fun _ _ _ _ _ => (dg_name 6 nd)) (fun _ _ _ _ _ => dts_nil) (fun _ _ _ _ _ => (de_ix ix_d (de_var 3) (de_op od_mod (de_ix ix_d (de_var 0) (de_op od_add de_int (de_var 6))) (de_var 4))))) da_nil)))
      (dss_one (ds_ret (de_tup (da_cons (de_var 5) (da_cons (de_callTy cd_tuple (by rfl) B.tuple_ bt_tuple (da_cons (de_comp (own := [("k", 6)]) rfl nd (di_rng1 (by rfl) B.range_ (da_cons (de_var 2) da_nil)) (blkOk_by (N := N__law_numbers) (sc := defScope s__law_numbers) (by decide +kernel)) (fun _ _ _ _ _ => (dg_name 6 nd)) (fun _ _ _ _ _ => dts_nil) (fun _ _ _ _ _ => (de_ix ix_d (de_var 3) (de_op od_mod (de_ix ix_d (de_var 0) (de_op od_add de_int (de_var 6))) (de_var 4))))) da_nil)) da_nil))))))))
theorem ok__law_table {f : Addr} {fd : FuncData} (F : Fun K "_law_table" "_law_table" s__law_table f fd) (B : Bi mg) (c__law_lcm : Cal P w K mg base C 2 "_law_lcm" ["one", "other"] m_law_lcm) : FnOk P w K mg base CX0 3 f fd ["rows", "columns"] (spD K C m_law_table) :=
  have nd := sc__law_table.nd
  fnD (k := 2) F sc__law_table (by decide) fun cdv A outer s H E hr =>
    (dss_one (ds_ret (de_callTy cd_tuple (by rfl) B.tuple_ bt_tuple (da_cons (de_comp (own := [("one", 2)]) rfl nd (di_seq (de_var 0)) (blkOk_by (N := N__law_table) (sc := defScope s__law_table) (by decide +kernel)) (fun _ _ _ _ _ => (dg_name 2 nd)) (fun _ _ _ _ _ => dts_nil) (fun _ _ _ _ _ => (de_callTy cd_tuple (by rfl) B.tuple_ bt_tuple (da_cons (de_comp (own := [("other", 3)]) rfl nd (di_seq (de_var 1)) (blkOk_by (N := N__law_table)  (by with_unfolding_all rfl)) (fun _ _ _ _ _ => (dg_name 3 nd)) (fun _ _ _ _ _ => dts_nil) (fun _ _ _ _ _ => (de_call c__law_lcm hr (by rfl) (da_cons (de_var 2) (da_cons (de_var 3) da_nil))))) da_nil)))) da_nil))))
theorem ok__law_hidden {f : Addr} {fd : FuncData} (F : Fun K "_law_hidden" "_law_hidden" s__law_hidden f fd) (B : Bi mg) : FnOk P w K mg base CX0 1 f fd ["table", "digits", "often"] (spD K C m_law_hidden) :=
  have nd := sc__law_hidden.nd
  fnD (k := 0) F sc__law_hidden (by decide) fun cdv A outer s H E hr =>
    (dss_cons (ds_parN1 3 4 rfl nd (dn_lst da_nil) de_int)
      (dss_cons (ds_for PassesOwn.never rfl (di_seq (de_var 0)) (dg_name 5 nd) (dss_cons (ds_setN 6 nd (dn_lst da_nil))
      (dss_cons (ds_for PassesOwn.never rfl (di_seq (de_var 5)) (dg_name 7 nd) (dss_cons (ds_app 6 (de_if (dt_cmp (od_eq hr.units) (de_op od_mod (de_ix ix_d (de_var 1) (de_op od_mod (de_var 4) (de_callB cd_len (by rfl) B.len_ bt_len (da_cons (de_var 1) da_nil)))) (de_var 2)) de_int) de_non (de_var 7)))
      (dss_one (ds_set 4 nd (de_op od_add (de_var 4) de_int)))))
      (dss_one (ds_frz (O1 := [3]) 6 (ds_app 3 (de_callTy cd_tuple (by rfl) B.tuple_ bt_tuple (da_cons (de_var 6) da_nil))))))))
      (dss_one (ds_frz (O1 := []) 3 (ds_ret (de_callTy cd_tuple (by rfl) B.tuple_ bt_tuple (da_cons (de_var 3) da_nil)))))))
theorem ok__law_is_table {f : Addr} {fd : FuncData} (F : Fun K "_law_is_table" "_law_is_table" s__law_is_table f fd) (B : Bi mg) (c__law_is_integer : Cal P w K mg base C 1 "_law_is_integer" ["value", "low", "high"] m_law_is_integer) : FnOk P w K mg base CX0 2 f fd ["value"] (spD K C m_law_is_table) :=
  have nd := sc__law_is_table.nd
  fnD (k := 1) F sc__law_is_table (by decide) fun cdv A outer s H E hr =>
    (dss_cons (ds_if (dt_w (dw_or (dt_not (dt_val (de_isi (T := "tuple") (by simp) (de_var 0) (by rfl) B.isinstance_ (by rfl) B.tuple_ bt_tuple))) (dw_or1 (dt_not (dt_chain od_le od_le de_int (de_callB cd_len (by rfl) B.len_ bt_len (da_cons (de_var 0) da_nil)) de_int))))) (dss_one (ds_ret de_bl)) dss_nil)
      (dss_cons (ds_for PassesOwn.never rfl (di_seq (de_var 0)) (dg_name 1 nd) (dss_cons (ds_if (dt_w (dw_or (dt_not (dt_val (de_isi (T := "tuple") (by simp) (de_var 1) (by rfl) B.isinstance_ (by rfl) B.tuple_ bt_tuple))) (dw_or (dt_not (dt_chain od_le od_le de_int (de_callB cd_len (by rfl) B.len_ bt_len (da_cons (de_var 1) da_nil)) de_int)) (dw_or1 (dt_cmp (od_ne hr.units) (de_callB cd_len (by rfl) B.len_ bt_len (da_cons (de_var 1) da_nil)) (de_callB cd_len (by rfl) B.len_ bt_len (da_cons (de_ix ix_d (de_var 0) de_int) da_nil))))))) (dss_one (ds_ret de_bl)) dss_nil)
      (dss_one (ds_if (dt_cmp (od_ne hr.units) (de_comp (own := [("entry", 2)]) rfl nd (di_seq (de_var 1)) (blkOk_by (N := N__law_is_table) (sc := defScope s__law_is_table) (by decide +kernel)) (fun _ _ _ _ _ => (dg_name 2 nd)) (fun _ _ _ _ _ => (dts_one (dt_w (dw_and (dt_cmp od_isnot (de_var 2) de_non) (dw_and1 (dt_not (dt_val (de_call c__law_is_integer hr (by rfl) (da_cons (de_var 2) (da_cons de_int (da_cons (de_op od_pow de_int de_int) da_nil))))))))))) (fun _ _ _ _ _ => (de_var 2))) (de_lst da_nil)) (dss_one (ds_ret de_bl)) dss_nil))))
      (dss_one (ds_ret de_bl))))
theorem ok_law {f : Addr} {fd : FuncData} (F : Fun K "law" "law" s_law f fd) (B : Bi mg) (c__law_any_value : Cal P w K mg base C 11 "_law_any_value" ["digits", "depth"] m_law_any_value) (c__law_digits : Cal P w K mg base C 2 "_law_digits" ["script", "index", "count", "base"] m_law_digits) (c__law_hidden : Cal P w K mg base C 1 "_law_hidden" ["table", "digits", "often"] m_law_hidden) (c__law_is_table : Cal P w K mg base C 2 "_law_is_table" ["value"] m_law_is_table) (c__law_mutated : Cal P w K mg base C 13 "_law_mutated" ["value", "digits"] m_law_mutated) (c__law_numbers : Cal P w K mg base C 1 "_law_numbers" ["digits", "many", "wide"] m_law_numbers) (c__law_same_bool : Cal P w K mg base C 1 "_law_same_bool" ["result", "expected"] m_law_same_bool) (c__law_table : Cal P w K mg base C 3 "_law_table" ["rows", "columns"] m_law_table) (c_is_table : Cal P w K mg base C 2 "is_table" ["value"] m_is_table) : FnOk P w K mg base CX0 14 f fd ["script"] (spD K C m_k01) :=
  have nd := sc_law.nd
  fnD (k := 13) F sc_law (by decide) fun cdv A outer s H E hr =>
    (dss_cons (ds_set 1 nd (de_lst (da_cons (de_tup da_nil) (da_cons (de_tup (da_cons (de_tup da_nil) da_nil)) (da_cons (de_tup (da_cons (de_tup (da_cons de_int da_nil)) da_nil)) (da_cons (de_tup (da_cons (de_tup (da_cons de_int (da_cons de_int da_nil))) (da_cons (de_tup (da_cons de_int da_nil)) da_nil))) (da_cons (de_tup (da_cons (de_tup (da_cons (de_op od_pow de_int de_int) da_nil)) da_nil)) (da_cons (de_tup (da_cons (de_tup (da_cons (de_op od_add (de_op od_pow de_int de_int) de_int) da_nil)) da_nil)) (da_cons (de_tup (da_cons (de_tup (da_cons de_int da_nil)) da_nil)) (da_cons (de_tup (da_cons (de_tup (da_cons (de_neg de_int) da_nil)) da_nil)) (da_cons (de_op od_mul (de_tup (da_cons (de_tup (da_cons de_int da_nil)) da_nil)) de_int) da_nil)))))))))))
      (dss_cons (ds_set 1 nd (de_op od_add (de_var 1) (de_lst (da_cons (de_op od_mul (de_tup (da_cons (de_tup (da_cons de_int da_nil)) da_nil)) de_int) (da_cons (de_tup (da_cons (de_op od_mul (de_tup (da_cons de_int da_nil)) de_int) da_nil)) (da_cons (de_tup (da_cons (de_op od_mul (de_tup (da_cons de_int da_nil)) de_int) da_nil)) (da_cons (de_lst (da_cons (de_lst (da_cons de_int da_nil)) da_nil)) (da_cons (de_tup (da_cons (de_lst (da_cons de_int da_nil)) da_nil)) (da_cons (de_tup (da_cons (de_tup (da_cons de_bl da_nil)) da_nil)) (da_cons (de_tup (da_cons (de_tup (da_cons de_non da_nil)) da_nil)) da_nil))))))))))
      (dss_cons (ds_set 1 nd (de_op od_add (de_var 1) (de_lst (da_cons (de_tup (da_cons (de_tup (da_cons de_int (da_cons de_non da_nil))) (da_cons (de_tup (da_cons de_non (da_cons de_int da_nil))) da_nil))) (da_cons de_non (da_cons de_int (da_cons (de_tup (da_cons (de_tup (da_cons de_int (da_cons de_str da_nil))) da_nil)) (da_cons (de_tup (da_cons (de_tup (da_cons de_non (da_cons de_non da_nil))) (da_cons (de_tup (da_cons de_non da_nil)) da_nil))) da_nil))))))))
      (dss_cons (ds_for PassesOwn.never rfl (di_seq (de_tup (da_cons de_int (da_cons de_int (da_cons de_int (da_cons de_int da_nil)))))) (dg_name 2 nd) (dss_cons (ds_set 3 nd (de_call c__law_digits hr (by rfl) (da_cons (de_var 0) (da_cons (de_var 2) (da_cons de_int (da_cons de_int da_nil))))))
      (dss_cons (ds_asg (de_call c__law_numbers hr (by rfl) (da_cons (de_var 3) (da_cons (de_op od_add de_int (de_op od_mod (de_ix ix_d (de_var 3) de_int) de_int)) (da_cons (de_op od_add de_int (de_op od_mod (de_ix ix_d (de_var 3) de_int) de_int)) da_nil)))) (dg_tup rfl (dg_cons (dg_name 4 nd) (dg_cons (dg_name 5 nd) dg_nil)) (gl1 (gl1 gl0))))
      (dss_cons (ds_set 6 nd (de_call c__law_hidden hr (by rfl) (da_cons (de_call c__law_table hr (by rfl) (da_cons (de_var 4) (da_cons (de_var 5) da_nil))) (da_cons (de_slice (de_var 3) (do_ix de_int) do_no) (da_cons de_int da_nil)))))
      (dss_cons (ds_for PassesOwn.never rfl (di_rng1 (by rfl) B.range_ (da_cons de_int da_nil)) (dg_name 7 nd) (dss_cons (ds_set 8 nd (de_slice (de_var 3) (do_ix (de_op od_mul de_int (de_var 7))) (do_ix (de_op od_add (de_op od_mul de_int (de_var 7)) de_int))))
      (dss_cons (ds_set 9 nd (de_call c__law_mutated hr (by rfl) (da_cons (de_var 6) (da_cons (de_var 8) da_nil))))
      (dss_one (ds_set 1 nd (de_op od_add (de_var 1) (de_lst (da_cons (de_var 9) (da_cons (de_call c__law_mutated hr (by rfl) (da_cons (de_var 9) (da_cons (de_rev (de_var 8)) da_nil))) (da_cons (de_call c__law_any_value hr (by rfl) (da_cons (de_op od_add (de_slice (de_var 3) (do_ix (de_var 7)) do_no) (de_slice (de_var 3) do_no (do_ix (de_var 7)))) (da_cons de_int da_nil))) da_nil))))))))))
      (dss_one (ds_for PassesOwn.never rfl (di_seq (de_op od_add (de_var 1) (de_lst (da_cons (de_var 6) da_nil)))) (dg_name 10 nd) (dss_one (ds_if (dt_not (dt_val (de_call c__law_same_bool hr (by rfl) (da_cons (de_call c_is_table hr (by rfl) (da_cons (de_var 10) da_nil)) (da_cons (de_call c__law_is_table hr (by rfl) (da_cons (de_var 10) da_nil)) da_nil))))) (dss_one (ds_ret de_bl)) dss_nil)))))))))
      (dss_one (ds_ret (de_and (de_cmp od_is (de_call c_is_table hr (by rfl) (da_cons (de_tup (da_cons (de_tup (da_cons de_int (da_cons de_non da_nil))) (da_cons (de_tup (da_cons de_int (da_cons de_int da_nil))) da_nil))) da_nil)) de_bl) (de_one (de_cmp od_is (de_call c_is_table hr (by rfl) (da_cons (de_tup (da_cons (de_tup (da_cons de_int da_nil)) da_nil)) da_nil)) de_bl)))))))))
end
end My
namespace My
open PySem PySem.Spec PyProof.Rows L2 DL Mi
theorem all_mk {l : PySem.W.OpenLaw} {w : World} {K : PySem.W.Frag} {h : Heap} {mg : Str → Option Value} {fa f0 f1 f2 f3 f4 f5 f6 f7 f8 f9 f10 f11 f12 f13 f14 f15 f16 f17 f18 : Addr} (X : K.In h) (G : h.Ns mainGlobals mg) (hfa : mg "law" = some (.ref fa))
    {od0 an0 : Option Addr} {sl0 : Array (Option Value)} {oc0 kV0 dc0 pm0 cd0 ct0 : Value} (a0 : PySem.W.nsIn K mainGlobals "is_integer" = some (some (.ref f0))) (l0 : K.lookup f0 = some ⟨oc0, od0, .func (PySem.W.fnOf "is_integer" "is_integer" (defArgs s_is_integer) (defBody s_is_integer) (defScope s_is_integer) .none kV0 dc0 pm0 an0 cd0 ct0), sl0⟩) (c0 : PySem.W.codeIn K cd0 "is_integer" = true) (k0 : PySem.W.keepIn K (.ref f0) = true)
    {od1 an1 : Option Addr} {sl1 : Array (Option Value)} {oc1 kV1 dc1 pm1 cd1 ct1 : Value} (a1 : PySem.W.nsIn K mainGlobals "is_table" = some (some (.ref f1))) (l1 : K.lookup f1 = some ⟨oc1, od1, .func (PySem.W.fnOf "is_table" "is_table" (defArgs s_is_table) (defBody s_is_table) (defScope s_is_table) .none kV1 dc1 pm1 an1 cd1 ct1), sl1⟩) (c1 : PySem.W.codeIn K cd1 "is_table" = true) (k1 : PySem.W.keepIn K (.ref f1) = true)
    {od2 an2 : Option Addr} {sl2 : Array (Option Value)} {oc2 kV2 dc2 pm2 cd2 ct2 : Value} (a2 : PySem.W.nsIn K mainGlobals "_law_cell" = some (some (.ref f2))) (l2 : K.lookup f2 = some ⟨oc2, od2, .func (PySem.W.fnOf "_law_cell" "_law_cell" (defArgs s__law_cell) (defBody s__law_cell) (defScope s__law_cell) .none kV2 dc2 pm2 an2 cd2 ct2), sl2⟩) (c2 : PySem.W.codeIn K cd2 "_law_cell" = true) (k2 : PySem.W.keepIn K (.ref f2) = true)
    {od3 an3 : Option Addr} {sl3 : Array (Option Value)} {oc3 kV3 dc3 pm3 cd3 ct3 : Value} (a3 : PySem.W.nsIn K mainGlobals "_law_digits" = some (some (.ref f3))) (l3 : K.lookup f3 = some ⟨oc3, od3, .func (PySem.W.fnOf "_law_digits" "_law_digits" (defArgs s__law_digits) (defBody s__law_digits) (defScope s__law_digits) .none kV3 dc3 pm3 an3 cd3 ct3), sl3⟩) (c3 : PySem.W.codeIn K cd3 "_law_digits" = true) (k3 : PySem.W.keepIn K (.ref f3) = true)
    {od4 an4 : Option Addr} {sl4 : Array (Option Value)} {oc4 kV4 dc4 pm4 cd4 ct4 : Value} (a4 : PySem.W.nsIn K mainGlobals "_law_is_integer" = some (some (.ref f4))) (l4 : K.lookup f4 = some ⟨oc4, od4, .func (PySem.W.fnOf "_law_is_integer" "_law_is_integer" (defArgs s__law_is_integer) (defBody s__law_is_integer) (defScope s__law_is_integer) .none kV4 dc4 pm4 an4 cd4 ct4), sl4⟩) (c4 : PySem.W.codeIn K cd4 "_law_is_integer" = true) (k4 : PySem.W.keepIn K (.ref f4) = true)
    {od5 an5 : Option Addr} {sl5 : Array (Option Value)} {oc5 kV5 dc5 pm5 cd5 ct5 : Value} (a5 : PySem.W.nsIn K mainGlobals "_law_same_bool" = some (some (.ref f5))) (l5 : K.lookup f5 = some ⟨oc5, od5, .func (PySem.W.fnOf "_law_same_bool" "_law_same_bool" (defArgs s__law_same_bool) (defBody s__law_same_bool) (defScope s__law_same_bool) .none kV5 dc5 pm5 an5 cd5 ct5), sl5⟩) (c5 : PySem.W.codeIn K cd5 "_law_same_bool" = true) (k5 : PySem.W.keepIn K (.ref f5) = true)
    {od6 an6 : Option Addr} {sl6 : Array (Option Value)} {oc6 kV6 dc6 pm6 cd6 ct6 : Value} (a6 : PySem.W.nsIn K mainGlobals "_law_paths" = some (some (.ref f6))) (l6 : K.lookup f6 = some ⟨oc6, od6, .func (PySem.W.fnOf "_law_paths" "_law_paths" (defArgs s__law_paths) (defBody s__law_paths) (defScope s__law_paths) .none kV6 dc6 pm6 an6 cd6 ct6), sl6⟩) (c6 : PySem.W.codeIn K cd6 "_law_paths" = true) (k6 : PySem.W.keepIn K (.ref f6) = true)
    {od7 an7 : Option Addr} {sl7 : Array (Option Value)} {oc7 kV7 dc7 pm7 cd7 ct7 : Value} (a7 : PySem.W.nsIn K mainGlobals "_law_other_value" = some (some (.ref f7))) (l7 : K.lookup f7 = some ⟨oc7, od7, .func (PySem.W.fnOf "_law_other_value" "_law_other_value" (defArgs s__law_other_value) (defBody s__law_other_value) (defScope s__law_other_value) .none kV7 dc7 pm7 an7 cd7 ct7), sl7⟩) (c7 : PySem.W.codeIn K cd7 "_law_other_value" = true) (k7 : PySem.W.keepIn K (.ref f7) = true)
    {od8 an8 : Option Addr} {sl8 : Array (Option Value)} {oc8 kV8 dc8 pm8 cd8 ct8 : Value} (a8 : PySem.W.nsIn K mainGlobals "_law_moved_item" = some (some (.ref f8))) (l8 : K.lookup f8 = some ⟨oc8, od8, .func (PySem.W.fnOf "_law_moved_item" "_law_moved_item" (defArgs s__law_moved_item) (defBody s__law_moved_item) (defScope s__law_moved_item) .none kV8 dc8 pm8 an8 cd8 ct8), sl8⟩) (c8 : PySem.W.codeIn K cd8 "_law_moved_item" = true) (k8 : PySem.W.keepIn K (.ref f8) = true)
    {od9 an9 : Option Addr} {sl9 : Array (Option Value)} {oc9 kV9 dc9 pm9 cd9 ct9 : Value} (a9 : PySem.W.nsIn K mainGlobals "_law_change_at" = some (some (.ref f9))) (l9 : K.lookup f9 = some ⟨oc9, od9, .func (PySem.W.fnOf "_law_change_at" "_law_change_at" (defArgs s__law_change_at) (defBody s__law_change_at) (defScope s__law_change_at) .none kV9 dc9 pm9 an9 cd9 ct9), sl9⟩) (c9 : PySem.W.codeIn K cd9 "_law_change_at" = true) (k9 : PySem.W.keepIn K (.ref f9) = true)
    {od10 an10 : Option Addr} {sl10 : Array (Option Value)} {oc10 kV10 dc10 pm10 cd10 ct10 : Value} (a10 : PySem.W.nsIn K mainGlobals "_law_mutated" = some (some (.ref f10))) (l10 : K.lookup f10 = some ⟨oc10, od10, .func (PySem.W.fnOf "_law_mutated" "_law_mutated" (defArgs s__law_mutated) (defBody s__law_mutated) (defScope s__law_mutated) .none kV10 dc10 pm10 an10 cd10 ct10), sl10⟩) (c10 : PySem.W.codeIn K cd10 "_law_mutated" = true) (k10 : PySem.W.keepIn K (.ref f10) = true)
    {od11 an11 : Option Addr} {sl11 : Array (Option Value)} {oc11 kV11 dc11 pm11 cd11 ct11 : Value} (a11 : PySem.W.nsIn K mainGlobals "_law_any_value" = some (some (.ref f11))) (l11 : K.lookup f11 = some ⟨oc11, od11, .func (PySem.W.fnOf "_law_any_value" "_law_any_value" (defArgs s__law_any_value) (defBody s__law_any_value) (defScope s__law_any_value) .none kV11 dc11 pm11 an11 cd11 ct11), sl11⟩) (c11 : PySem.W.codeIn K cd11 "_law_any_value" = true) (k11 : PySem.W.keepIn K (.ref f11) = true)
    {od12 an12 : Option Addr} {sl12 : Array (Option Value)} {oc12 kV12 dc12 pm12 cd12 ct12 : Value} (a12 : PySem.W.nsIn K mainGlobals "_law_gcd" = some (some (.ref f12))) (l12 : K.lookup f12 = some ⟨oc12, od12, .func (PySem.W.fnOf "_law_gcd" "_law_gcd" (defArgs s__law_gcd) (defBody s__law_gcd) (defScope s__law_gcd) .none kV12 dc12 pm12 an12 cd12 ct12), sl12⟩) (c12 : PySem.W.codeIn K cd12 "_law_gcd" = true) (k12 : PySem.W.keepIn K (.ref f12) = true)
    {od13 an13 : Option Addr} {sl13 : Array (Option Value)} {oc13 kV13 dc13 pm13 cd13 ct13 : Value} (a13 : PySem.W.nsIn K mainGlobals "_law_lcm" = some (some (.ref f13))) (l13 : K.lookup f13 = some ⟨oc13, od13, .func (PySem.W.fnOf "_law_lcm" "_law_lcm" (defArgs s__law_lcm) (defBody s__law_lcm) (defScope s__law_lcm) .none kV13 dc13 pm13 an13 cd13 ct13), sl13⟩) (c13 : PySem.W.codeIn K cd13 "_law_lcm" = true) (k13 : PySem.W.keepIn K (.ref f13) = true)
    {od14 an14 : Option Addr} {sl14 : Array (Option Value)} {oc14 kV14 dc14 pm14 cd14 ct14 : Value} (a14 : PySem.W.nsIn K mainGlobals "_law_numbers" = some (some (.ref f14))) (l14 : K.lookup f14 = some ⟨oc14, od14, .func (PySem.W.fnOf "_law_numbers" "_law_numbers" (defArgs s__law_numbers) (defBody s__law_numbers) (defScope s__law_numbers) .none kV14 dc14 pm14 an14 cd14 ct14), sl14⟩) (c14 : PySem.W.codeIn K cd14 "_law_numbers" = true) (k14 : PySem.W.keepIn K (.ref f14) = true)
    {od15 an15 : Option Addr} {sl15 : Array (Option Value)} {oc15 kV15 dc15 pm15 cd15 ct15 : Value} (a15 : PySem.W.nsIn K mainGlobals "_law_table" = some (some (.ref f15))) (l15 : K.lookup f15 = some ⟨oc15, od15, .func (PySem.W.fnOf "_law_table" "_law_table" (defArgs s__law_table) (defBody s__law_table) (defScope s__law_table) .none kV15 dc15 pm15 an15 cd15 ct15), sl15⟩) (c15 : PySem.W.codeIn K cd15 "_law_table" = true) (k15 : PySem.W.keepIn K (.ref f15) = true)
    {od16 an16 : Option Addr} {sl16 : Array (Option Value)} {oc16 kV16 dc16 pm16 cd16 ct16 : Value} (a16 : PySem.W.nsIn K mainGlobals "_law_hidden" = some (some (.ref f16))) (l16 : K.lookup f16 = some ⟨oc16, od16, .func (PySem.W.fnOf "_law_hidden" "_law_hidden" (defArgs s__law_hidden) (defBody s__law_hidden) (defScope s__law_hidden) .none kV16 dc16 pm16 an16 cd16 ct16), sl16⟩) (c16 : PySem.W.codeIn K cd16 "_law_hidden" = true) (k16 : PySem.W.keepIn K (.ref f16) = true)
    {od17 an17 : Option Addr} {sl17 : Array (Option Value)} {oc17 kV17 dc17 pm17 cd17 ct17 : Value} (a17 : PySem.W.nsIn K mainGlobals "_law_is_table" = some (some (.ref f17))) (l17 : K.lookup f17 = some ⟨oc17, od17, .func (PySem.W.fnOf "_law_is_table" "_law_is_table" (defArgs s__law_is_table) (defBody s__law_is_table) (defScope s__law_is_table) .none kV17 dc17 pm17 an17 cd17 ct17), sl17⟩) (c17 : PySem.W.codeIn K cd17 "_law_is_table" = true) (k17 : PySem.W.keepIn K (.ref f17) = true)
    {od18 an18 : Option Addr} {sl18 : Array (Option Value)} {oc18 kV18 dc18 pm18 cd18 ct18 : Value} (a18 : PySem.W.nsIn K mainGlobals "law" = some (some (.ref f18))) (l18 : K.lookup f18 = some ⟨oc18, od18, .func (PySem.W.fnOf "law" "law" (defArgs s_law) (defBody s_law) (defScope s_law) .none kV18 dc18 pm18 an18 cd18 ct18), sl18⟩) (c18 : PySem.W.codeIn K cd18 "law" = true) (k18 : PySem.W.keepIn K (.ref f18) = true)
    (z_all : PySem.W.nsIn K mainGlobals "all" = some none)
    (z_bool : PySem.W.nsIn K mainGlobals "bool" = some none)
    (z_enumerate : PySem.W.nsIn K mainGlobals "enumerate" = some none)
    (z_int : PySem.W.nsIn K mainGlobals "int" = some none)
    (z_isinstance : PySem.W.nsIn K mainGlobals "isinstance" = some none)
    (z_len : PySem.W.nsIn K mainGlobals "len" = some none)
    (z_list : PySem.W.nsIn K mainGlobals "list" = some none)
    (z_range : PySem.W.nsIn K mainGlobals "range" = some none)
    (z_set : PySem.W.nsIn K mainGlobals "set" = some none)
    (z_sorted : PySem.W.nsIn K mainGlobals "sorted" = some none)
    (z_tuple : PySem.W.nsIn K mainGlobals "tuple" = some none)
    : ∃ fd : FuncData, (∀ (s : Shared) (v : Value), BindsTo s fd ⟨[v], []⟩ [("script", v)]) ∧ ∀ base : Heap, K.In base → base.Ns mainGlobals mg → FnOk l.prog w K mg base CX0 14 fa fd ["script"] (spD K 0 m_k01) := by
  have e := hfa.symm.trans (PySem.W.mg_of X G a18)
  cases e
  have F0 := fun_mk (st := s_is_integer) l0 c0 k0
  have F1 := fun_mk (st := s_is_table) l1 c1 k1
  have F2 := fun_mk (st := s__law_cell) l2 c2 k2
  have F3 := fun_mk (st := s__law_digits) l3 c3 k3
  have F4 := fun_mk (st := s__law_is_integer) l4 c4 k4
  have F5 := fun_mk (st := s__law_same_bool) l5 c5 k5
  have F6 := fun_mk (st := s__law_paths) l6 c6 k6
  have F7 := fun_mk (st := s__law_other_value) l7 c7 k7
  have F8 := fun_mk (st := s__law_moved_item) l8 c8 k8
  have F9 := fun_mk (st := s__law_change_at) l9 c9 k9
  have F10 := fun_mk (st := s__law_mutated) l10 c10 k10
  have F11 := fun_mk (st := s__law_any_value) l11 c11 k11
  have F12 := fun_mk (st := s__law_gcd) l12 c12 k12
  have F13 := fun_mk (st := s__law_lcm) l13 c13 k13
  have F14 := fun_mk (st := s__law_numbers) l14 c14 k14
  have F15 := fun_mk (st := s__law_table) l15 c15 k15
  have F16 := fun_mk (st := s__law_hidden) l16 c16 k16
  have F17 := fun_mk (st := s__law_is_table) l17 c17 k17
  have F18 := fun_mk (st := s_law) l18 c18 k18
  have B : Bi mg := ⟨PySem.W.mg_none_of X G z_all, PySem.W.mg_none_of X G z_bool, PySem.W.mg_none_of X G z_enumerate, PySem.W.mg_none_of X G z_int, PySem.W.mg_none_of X G z_isinstance, PySem.W.mg_none_of X G z_len, PySem.W.mg_none_of X G z_list, PySem.W.mg_none_of X G z_range, PySem.W.mg_none_of X G z_set, PySem.W.mg_none_of X G z_sorted, PySem.W.mg_none_of X G z_tuple⟩
  have b0 := F0.binds (ps := ["value", "low", "high"]) fun _ _ _ _ _ _ us hl => match us, hl with | [_, _, _], _ => rfl
  have b1 := F1.binds (ps := ["value"]) fun _ _ _ _ _ _ us hl => match us, hl with | [_], _ => rfl
  have b2 := F2.binds (ps := ["script", "index"]) fun _ _ _ _ _ _ us hl => match us, hl with | [_, _], _ => rfl
  have b3 := F3.binds (ps := ["script", "index", "count", "base"]) fun _ _ _ _ _ _ us hl => match us, hl with | [_, _, _, _], _ => rfl
  have b4 := F4.binds (ps := ["value", "low", "high"]) fun _ _ _ _ _ _ us hl => match us, hl with | [_, _, _], _ => rfl
  have b5 := F5.binds (ps := ["result", "expected"]) fun _ _ _ _ _ _ us hl => match us, hl with | [_, _], _ => rfl
  have b6 := F6.binds (ps := ["value"]) fun _ _ _ _ _ _ us hl => match us, hl with | [_], _ => rfl
  have b7 := F7.binds (ps := ["value", "digits"]) fun _ _ _ _ _ _ us hl => match us, hl with | [_, _], _ => rfl
  have b8 := F8.binds (ps := ["items", "index", "digits"]) fun _ _ _ _ _ _ us hl => match us, hl with | [_, _, _], _ => rfl
  have b9 := F9.binds (ps := ["value", "path", "digits"]) fun _ _ _ _ _ _ us hl => match us, hl with | [_, _, _], _ => rfl
  have b10 := F10.binds (ps := ["value", "digits"]) fun _ _ _ _ _ _ us hl => match us, hl with | [_, _], _ => rfl
  have b11 := F11.binds (ps := ["digits", "depth"]) fun _ _ _ _ _ _ us hl => match us, hl with | [_, _], _ => rfl
  have b12 := F12.binds (ps := ["one", "other"]) fun _ _ _ _ _ _ us hl => match us, hl with | [_, _], _ => rfl
  have b13 := F13.binds (ps := ["one", "other"]) fun _ _ _ _ _ _ us hl => match us, hl with | [_, _], _ => rfl
  have b14 := F14.binds (ps := ["digits", "many", "wide"]) fun _ _ _ _ _ _ us hl => match us, hl with | [_, _, _], _ => rfl
  have b15 := F15.binds (ps := ["rows", "columns"]) fun _ _ _ _ _ _ us hl => match us, hl with | [_, _], _ => rfl
  have b16 := F16.binds (ps := ["table", "digits", "often"]) fun _ _ _ _ _ _ us hl => match us, hl with | [_, _, _], _ => rfl
  have b17 := F17.binds (ps := ["value"]) fun _ _ _ _ _ _ us hl => match us, hl with | [_], _ => rfl
  refine ⟨PySem.W.fnOf "law" "law" (defArgs s_law) (defBody s_law) (defScope s_law) .none kV18 dc18 pm18 an18 cd18 ct18, fun s v => .of_eq rfl, fun base _ _ => ?_⟩
  have C_is_integer : Cal l.prog w K mg base 0 1 "is_integer" ["value", "low", "high"] m_is_integer := ⟨⟨_, _, ok_is_integer F0 B , PySem.W.mg_of X G a0, F0.kp, b0⟩⟩
  have C_is_table : Cal l.prog w K mg base 0 2 "is_table" ["value"] m_is_table := ⟨⟨_, _, ok_is_table F1 B C_is_integer, PySem.W.mg_of X G a1, F1.kp, b1⟩⟩
  have C__law_cell : Cal l.prog w K mg base 0 1 "_law_cell" ["script", "index"] m_law_cell := ⟨⟨_, _, ok__law_cell F2 B , PySem.W.mg_of X G a2, F2.kp, b2⟩⟩
  have C__law_digits : Cal l.prog w K mg base 0 2 "_law_digits" ["script", "index", "count", "base"] m_law_digits := ⟨⟨_, _, ok__law_digits F3 B C__law_cell, PySem.W.mg_of X G a3, F3.kp, b3⟩⟩
  have C__law_is_integer : Cal l.prog w K mg base 0 1 "_law_is_integer" ["value", "low", "high"] m_law_is_integer := ⟨⟨_, _, ok__law_is_integer F4 B , PySem.W.mg_of X G a4, F4.kp, b4⟩⟩
  have C__law_same_bool : Cal l.prog w K mg base 0 1 "_law_same_bool" ["result", "expected"] m_law_same_bool := ⟨⟨_, _, ok__law_same_bool F5 B , PySem.W.mg_of X G a5, F5.kp, b5⟩⟩
  have C__law_paths : Cal l.prog w K mg base 0 11 "_law_paths" ["value"] m_law_paths := ⟨⟨_, _, ok__law_paths F6 B  (PySem.W.mg_of X G a6) b6, PySem.W.mg_of X G a6, F6.kp, b6⟩⟩
  have C__law_other_value : Cal l.prog w K mg base 0 1 "_law_other_value" ["value", "digits"] m_law_other_value := ⟨⟨_, _, ok__law_other_value F7 B , PySem.W.mg_of X G a7, F7.kp, b7⟩⟩
  have C__law_moved_item : Cal l.prog w K mg base 0 1 "_law_moved_item" ["items", "index", "digits"] m_law_moved_item := ⟨⟨_, _, ok__law_moved_item F8 B , PySem.W.mg_of X G a8, F8.kp, b8⟩⟩
  have C__law_change_at : Cal l.prog w K mg base 0 12 "_law_change_at" ["value", "path", "digits"] m_law_change_at := ⟨⟨_, _, ok__law_change_at F9 B C__law_moved_item C__law_other_value (PySem.W.mg_of X G a9) b9, PySem.W.mg_of X G a9, F9.kp, b9⟩⟩
  have C__law_mutated : Cal l.prog w K mg base 0 13 "_law_mutated" ["value", "digits"] m_law_mutated := ⟨⟨_, _, ok__law_mutated F10 B C__law_change_at C__law_paths, PySem.W.mg_of X G a10, F10.kp, b10⟩⟩
  have C__law_any_value : Cal l.prog w K mg base 0 11 "_law_any_value" ["digits", "depth"] m_law_any_value := ⟨⟨_, _, ok__law_any_value F11 B  (PySem.W.mg_of X G a11) b11, PySem.W.mg_of X G a11, F11.kp, b11⟩⟩
  have C__law_gcd : Cal l.prog w K mg base 0 1 "_law_gcd" ["one", "other"] m_law_gcd := ⟨⟨_, _, ok__law_gcd F12 B , PySem.W.mg_of X G a12, F12.kp, b12⟩⟩
  have C__law_lcm : Cal l.prog w K mg base 0 2 "_law_lcm" ["one", "other"] m_law_lcm := ⟨⟨_, _, ok__law_lcm F13 B C__law_gcd, PySem.W.mg_of X G a13, F13.kp, b13⟩⟩
  have C__law_numbers : Cal l.prog w K mg base 0 1 "_law_numbers" ["digits", "many", "wide"] m_law_numbers := ⟨⟨_, _, ok__law_numbers F14 B , PySem.W.mg_of X G a14, F14.kp, b14⟩⟩
  have C__law_table : Cal l.prog w K mg base 0 3 "_law_table" ["rows", "columns"] m_law_table := ⟨⟨_, _, ok__law_table F15 B C__law_lcm, PySem.W.mg_of X G a15, F15.kp, b15⟩⟩
  have C__law_hidden : Cal l.prog w K mg base 0 1 "_law_hidden" ["table", "digits", "often"] m_law_hidden := ⟨⟨_, _, ok__law_hidden F16 B , PySem.W.mg_of X G a16, F16.kp, b16⟩⟩
  have C__law_is_table : Cal l.prog w K mg base 0 2 "_law_is_table" ["value"] m_law_is_table := ⟨⟨_, _, ok__law_is_table F17 B C__law_is_integer, PySem.W.mg_of X G a17, F17.kp, b17⟩⟩
  exact ok_law F18 B C__law_any_value C__law_digits C__law_hidden C__law_is_table C__law_mutated C__law_numbers C__law_same_bool C__law_table C_is_table
end My
open PySem PySem.W PyProof.Rows
set_option maxHeartbeats 0 in
theorem PySem.Challenge.cw_meetperiods_k01_tables_holds : PySem.Challenge.rw_meetperiods_k01_tables.Holds := by
  w_on; o_law; k_head; (case hw => w_witness2)
  k_fill
  refine L2.walk_of (l := PySem.Challenge.rw_meetperiods_k01_tables) (n := 63) (k := 14) (x := "script") (CX := fun _ => L2.CX0) (sp := fun w => DL.spD _ 0 Mi.m_k01) rfl (by decide) rfl ⟨rfl, by decide, by decide⟩ (fun w h Y => PySem.W.kIn_of Y) ?F (fun _ H a ns hl _ hS => ⟨H, [.scr ns], .bl true, L2.Same.refl _, DL.RpL.one ⟨a, rfl, hS⟩, Mi.plain_k01 ns hl, fun _ _ _ _ r => r⟩) (fun _ _ _ _ _ h => h)
  case F =>
    intro w mg fa h KX G hmg
    refine' My.all_mk KX G hmg ?a0 ?l0 ?c0 ?k0 ?a1 ?l1 ?c1 ?k1 ?a2 ?l2 ?c2 ?k2 ?a3 ?l3 ?c3 ?k3 ?a4 ?l4 ?c4 ?k4 ?a5 ?l5 ?c5 ?k5 ?a6 ?l6 ?c6 ?k6 ?a7 ?l7 ?c7 ?k7 ?a8 ?l8 ?c8 ?k8 ?a9 ?l9 ?c9 ?k9 ?a10 ?l10 ?c10 ?k10 ?a11 ?l11 ?c11 ?k11 ?a12 ?l12 ?c12 ?k12 ?a13 ?l13 ?c13 ?k13 ?a14 ?l14 ?c14 ?k14 ?a15 ?l15 ?c15 ?k15 ?a16 ?l16 ?c16 ?k16 ?a17 ?l17 ?c17 ?k17 ?a18 ?l18 ?c18 ?k18 ?z_all ?z_bool ?z_enumerate ?z_int ?z_isinstance ?z_len ?z_list ?z_range ?z_set ?z_sorted ?z_tuple
    (case a0 => k_is)
    (case l0 => k_is)
    (case c0 => k_is)
    (case k0 => k_is)
    (case a1 => k_is)
    (case l1 => k_is)
    (case c1 => k_is)
    (case k1 => k_is)
    (case a2 => k_is)
    (case l2 => k_is)
    (case c2 => k_is)
    (case k2 => k_is)
    (case a3 => k_is)
    (case l3 => k_is)
    (case c3 => k_is)
    (case k3 => k_is)
    (case a4 => k_is)
    (case l4 => k_is)
    (case c4 => k_is)
    (case k4 => k_is)
    (case a5 => k_is)
    (case l5 => k_is)
    (case c5 => k_is)
    (case k5 => k_is)
    (case a6 => k_is)
    (case l6 => k_is)
    (case c6 => k_is)
    (case k6 => k_is)
    (case a7 => k_is)
    (case l7 => k_is)
    (case c7 => k_is)
    (case k7 => k_is)
    (case a8 => k_is)
    (case l8 => k_is)
    (case c8 => k_is)
    (case k8 => k_is)
    (case a9 => k_is)
    (case l9 => k_is)
    (case c9 => k_is)
    (case k9 => k_is)
    (case a10 => k_is)
    (case l10 => k_is)
    (case c10 => k_is)
    (case k10 => k_is)
    (case a11 => k_is)
    (case l11 => k_is)
    (case c11 => k_is)
    (case k11 => k_is)
    (case a12 => k_is)
    (case l12 => k_is)
    (case c12 => k_is)
    (case k12 => k_is)
    (case a13 => k_is)
    (case l13 => k_is)
    (case c13 => k_is)
    (case k13 => k_is)
    (case a14 => k_is)
    (case l14 => k_is)
    (case c14 => k_is)
    (case k14 => k_is)
    (case a15 => k_is)
    (case l15 => k_is)
    (case c15 => k_is)
    (case k15 => k_is)
    (case a16 => k_is)
    (case l16 => k_is)
    (case c16 => k_is)
    (case k16 => k_is)
    (case a17 => k_is)
    (case l17 => k_is)
    (case c17 => k_is)
    (case k17 => k_is)
    (case a18 => k_is)
    (case l18 => k_is)
    (case c18 => k_is)
    (case k18 => k_is)
    (case z_all => k_is)
    (case z_bool => k_is)
    (case z_enumerate => k_is)
    (case z_int => k_is)
    (case z_isinstance => k_is)
    (case z_len => k_is)
    (case z_list => k_is)
    (case z_range => k_is)
    (case z_set => k_is)
    (case z_sorted => k_is)
    (case z_tuple => k_is)
